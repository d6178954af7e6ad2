import PyProof.Rows.All
import Wide.All
import OpenK.AllK
import Wide.FinOn
import HandS.List
import HandS.Conv
import HandS.TupAny
import HandS.Zip
import HandS.Iter
import HandS.More
import KE.GoesEnum
import HandS.ForMost
import HandS.Deep
import HandS.Flow
import HandS.Style
import HandS.IsInst
import HandS.TryOnly
import KE.SortData
import KE.DataMinMax
import HandS.SortInts
import HandS.DictComp
import KE.GoesMore
import HandS.Strs
import HandS.ReCall
import PySem.Challenge.RW_shareworth_k43_tables_for_two_voters
set_option Elab.async false
set_option linter.all false
set_option maxRecDepth 100000
/-! FTa: tuples that are laid as firm ones: their object is known, and has no dict of its own (so that a method can be asked of them). -/
namespace DV
open PySem PySem.Spec PyProof.Rows L2
/-- a tuple's object without a dict -/
def Firm (o : Obj) : Prop := o.cls = .type "tuple" ∧ o.dict = none
theorem firm_new (its : Array Value) : Firm { cls := .type "tuple", data := .seq its } := ⟨rfl, rfl⟩
section
variable {X : Cx} {es : List Expr} {t : TA} {pos : Pos}
def tTupF (t : TA) : TE := fun σ H Q => t σ H fun xs H1 => xs.length ≤ sizeLine ∧ ∀ p o, H1 p = none → Firm o → Q (.ref p) (upd H1 p (.frz o (.tup xs)))
theorem pe_tupF {x1} (h : PA X es t) : PE X (.Tuple es x1 pos) (tTupF t) := by
  refine ⟨fun pins s σ H Q I hq => ?_⟩
  refine wpAny_Tuple_spliced (thn (h.run pos pins s σ H _ I hq) fun us s1 ⟨xs, H1, I1, r, z, q⟩ => ⟨by rw [← r.length]; exact z, ?_⟩)
  have hf : H1 s1.heap.objs.size = none := I1.hok.fresh (Nat.le_refl _)
  have hg : (s1.heap.push { cls := .type "tuple", data := .seq us.toArray }).get? s1.heap.objs.size = some { cls := .type "tuple", data := .seq us.toArray } := Heap.get?_push_size _ rfl
  refine ⟨.ref s1.heap.objs.size, upd H1 s1.heap.objs.size (.frz { cls := .type "tuple", data := .seq us.toArray } (.tup xs)), I1.laid (t' := s1.toks) (fun b u e => Heap.get?_push_of_some _ e) (Nat.le_refl _) ?_, rfl, q _ _ hf (firm_new _)⟩
  exact ⟨hg, z, us, r, ⟨_, hg, rfl, _, rfl⟩⟩
theorem call_tuple_ofF : CallR X (.type "tuple") (fun xs H Q => ∃ p ys, xs = [.ref p] ∧ ((SqL X.K H p ys ∧ ∀ l o, H l = none → Firm o → Q (.ref l) (upd H l (.frz o (.tup ys)))) ∨ (SqT X.K H p ys ∧ Q (.ref p) H))) := by
  intro pins s σ H xs us Q I r h
  obtain ⟨p, ys, rfl, h⟩ := h
  obtain ⟨u, rfl, rx⟩ := vals1 r
  cases rx
  rcases h with ⟨hq, q⟩ | ⟨hq, q⟩
  · obtain ⟨its, r', pl, hz⟩ := I.list hq
    have hlen := r'.length
    refine call_tuple_list pl.isList (fun h' kp => ?_) (by simp only [List.size_toArray] <;> omega)
    have I1 : Inv X pins σ H { s with heap := h' } := I.kept (t' := s.toks) kp
    have hg : (h'.push { cls := .type "tuple", data := .seq its.toArray }).get? h'.objs.size = some { cls := .type "tuple", data := .seq its.toArray } := Heap.get?_push_size _ rfl
    have I2 : Inv X pins σ (upd H h'.objs.size (.frz { cls := .type "tuple", data := .seq its.toArray } (.tup ys))) { s with heap := h'.push { cls := .type "tuple", data := .seq its.toArray } } :=
      I1.laid (t' := s.toks) (fun b o e => Heap.get?_push_of_some _ e) (Nat.le_refl _) (show ObjOk X.prog X.w _ _ _ (.frz _ (.tup ys)) from ⟨hg, hz, its, r', IsTup.new _ _⟩)
    exact ⟨.ref h'.objs.size, _, I2, rfl, q _ _ (I1.hok.fresh (Nat.le_refl _)) (firm_new _)⟩
  · obtain ⟨its, r', pl, hz⟩ := I.tuple hq
    exact call_tuple_same pl ⟨.ref p, H, I, rfl, q⟩
def rSlTF (K : PySem.W.Frag) : V → Option Int → Option Int → Hp → VK → Prop := fun x lo hi H Q => ∃ a xs, x = .ref a ∧ SqT K H a xs ∧
  ¬ (HT.sIx xs.length 0 lo = 0 ∧ HT.sIx xs.length xs.length hi = xs.length) ∧ ∀ p o, H p = none → Firm o → Q (.ref p) (upd H p (.frz o (.tup (cutV xs lo hi))))
theorem sl_tupF : SlR X (rSlTF X.K) := by
  intro pins s σ H x v vl vu lo hi sl Q I rx hs pl pu h
  obtain ⟨a, xs, rfl, hx, hw, q⟩ := h
  cases rx
  obtain ⟨its, r, ht, hz⟩ := I.tuple hx
  have hlen : its.toArray.size = xs.length := by rw [List.size_toArray]; exact r.length.symm
  refine ⟨"tuple", _, PyProof.Rows.slot_tuple_getitem.lookup, ht.typeIs, ?_⟩
  refine HT.getItem_tuple_cut ht hs pl pu (by rw [hlen]; exact hw) ?_ (by rw [hlen]; exact hz)
  rw [hlen]
  have hg := Heap.get?_push_size s.heap (o := { cls := .type "tuple", data := .seq ((its.toArray.toList.drop (HT.sIx xs.length 0 lo)).take (HT.sIx xs.length xs.length hi - HT.sIx xs.length 0 lo)).toArray }) rfl
  refine ⟨.ref s.heap.objs.size, _, I.laid (t' := s.toks) (o := .frz { cls := .type "tuple", data := .seq ((its.toArray.toList.drop (HT.sIx xs.length 0 lo)).take (HT.sIx xs.length xs.length hi - HT.sIx xs.length 0 lo)).toArray } (.tup (cutV xs lo hi))) (fun b ob q => Heap.get?_push_of_some _ q) (Nat.le_refl _) ?_, rfl, q _ _ (I.hok.fresh (Nat.le_refl _)) (firm_new _)⟩
  exact ⟨hg, Nat.le_trans (cutV_length xs lo hi) hz, _, (r.drop (HT.sIx xs.length 0 lo)).take (HT.sIx xs.length xs.length hi - HT.sIx xs.length 0 lo), IsTup.new _ _⟩
/-- t[lo:hi]: the whole of it is t itself -/
def rSlAF (K : PySem.W.Frag) : V → Option Int → Option Int → Hp → VK → Prop := fun x lo hi H Q => ∃ a xs, x = .ref a ∧ SqT K H a xs ∧
  (HT.sIx xs.length 0 lo = 0 ∧ HT.sIx xs.length xs.length hi = xs.length → Q (.ref a) H) ∧ (¬ (HT.sIx xs.length 0 lo = 0 ∧ HT.sIx xs.length xs.length hi = xs.length) → ∀ p o, H p = none → Firm o → Q (.ref p) (upd H p (.frz o (.tup (cutV xs lo hi)))))
theorem sl_tupAF : SlR X (rSlAF X.K) := by
  intro pins s σ H x v vl vu lo hi sl Q I rx hs pl pu h
  obtain ⟨a, xs, rfl, hx, q1, q2⟩ := h
  by_cases hw : HT.sIx xs.length 0 lo = 0 ∧ HT.sIx xs.length xs.length hi = xs.length
  · exact sl_tupA pins s σ H _ v vl vu lo hi sl Q I rx hs pl pu ⟨a, xs, rfl, hx, q1, fun n => absurd hw n⟩
  · exact sl_tupF pins s σ H _ v vl vu lo hi sl Q I rx hs pl pu ⟨a, xs, rfl, hx, hw, q2 hw⟩
/-- t + u -/
def rCatAF (K : PySem.W.Frag) : R2 := fun x y H Q => ∃ a b xs ys, x = .ref a ∧ y = .ref b ∧ SqT K H a xs ∧ SqT K H b ys ∧ xs.length + ys.length ≤ sizeLine ∧
  (xs = [] → Q (.ref b) H) ∧ (xs ≠ [] → ys = [] → Q (.ref a) H) ∧ (xs ≠ [] → ys ≠ [] → ∀ p o, H p = none → Firm o → Q (.ref p) (upd H p (.frz o (.tup (xs ++ ys)))))
theorem op_catAF : OpR X (binaryOp .Add) (rCatAF X.K) := by
  intro pins s σ H x y v u Q I rx ry h
  obtain ⟨a, b, xs, ys, rfl, rfl, ha, hb, hz, q0, q1, q2⟩ := h
  cases rx
  cases ry
  obtain ⟨its, r1, p1, _⟩ := I.tuple ha
  obtain ⟨its2, r2, p2, _⟩ := I.tuple hb
  by_cases hx : xs = []
  · subst hx
    cases r1
    exact cat_tup0 p1 p2 ⟨.ref b, H, I, rfl, q0 rfl⟩
  · refine HT.cat_tup p1 p2 (fun z => hx (r1.nil_iff.mp z)) (fun z => ⟨.ref a, H, I, rfl, q1 hx (r2.nil_iff.mp z)⟩) (fun z => ?_) (by rw [← r1.length, ← r2.length]; exact hz)
    have hg := Heap.get?_push_size s.heap (o := { cls := .type "tuple", data := .seq (its ++ its2).toArray }) rfl
    refine ⟨.ref s.heap.objs.size, _, I.laid (t' := s.toks) (o := .frz { cls := .type "tuple", data := .seq (its ++ its2).toArray } (.tup (xs ++ ys))) (fun b ob q => Heap.get?_push_of_some _ q) (Nat.le_refl _) ?_, rfl, q2 hx (fun w => z (r2.nil_iff.mpr w)) _ _ (I.hok.fresh (Nat.le_refl _)) (firm_new _)⟩
    exact ⟨hg, by rw [List.length_append]; exact hz, _, r1.append r2, IsTup.new _ _⟩
end
end DV

/-! FTb: items of zip and enumerate as firm tuples. -/
namespace PySem
set_option maxHeartbeats 1000000 in
theorem dv_meets_enumerate_newB {v : Value} {o : Obj} {H : Heap → Prop} (B : Begins v o H) :
    Meets (Builtin.«enumerate.__new__» ⟨[.type "enumerate", v], []⟩) (fun _ R s => H s.heap ∧
      R (.ok (.ret (.ref (s.heap.push o).objs.size))) { s with heap := (s.heap.push o).push { cls := .type "enumerate", data := .fields #[.none, .bool false, .ref s.heap.objs.size, rawInt 0, .none, .none] } }) :=
  .of_wp fun prog w A R s h => by
    obtain ⟨hp, g, d, tk, os⟩ := s; obtain ⟨h1, h⟩ := h
    have hsub := sub_enumerate
    have q1 : ∀ {A' : Around} {E : Value → Shared → Prop} {Q : Value → Shared → Prop}, Q (.ref hp.objs.size) ⟨hp.push o, g, d, tk, os⟩ → wpAny (model prog w) A' (pyIter v) Q E ⟨hp, g, d, tk, os⟩ :=
      fun q => B.iter prog w _ _ ⟨hp, g, d, tk, os⟩ _ h1 q
    wp_walk using q1
    refine wpAny_stack_any fun st => wpAny_pure ?_
    split
    · rename_i c _ _ _ _ _
      cases (c == Value.type "enumerate")
      · wp_walk using q1
        exact ⟨_, rfl, h⟩
      · wp_walk using q1
        exact ⟨_, rfl, h⟩
    · wp_walk using q1
      exact ⟨_, rfl, h⟩
theorem dv_enum_begins {prog : Program} {w : World} {A : Around} {E : Value → Shared → Prop} {s : Shared} {v : Value} {o : Obj} {H : Heap → Prop} {Q : Value → Shared → Prop} (B : Begins v o H) (h1 : H s.heap)
    (h : ∀ h', IsEnum h' (s.heap.objs.size + 1) s.heap.objs.size 0 .none → h'.get? s.heap.objs.size = some o → h'.objs.size = s.heap.objs.size + 2 →
      (∀ b o, s.heap.get? b = some o → h'.get? b = some o) → Q (.ref (s.heap.objs.size + 1)) { s with heap := h' }) :
    wpAny (model prog w) A (call (.type "enumerate") [v]) Q E s := by
  refine callType_new F.called_enumerate (by decide) (F.typeCall_enumerate_1 _) (F.newCall_enumerate_1 _) (fun obj => F.args_object_init_2 obj _) F.entry_enumerate_new
    (dv_meets_enumerate_newB B) ⟨h1, ?_⟩
  have hz : (s.heap.push o).objs.size = s.heap.objs.size + 1 := Heap.size_push ..
  show _ ∧ _
  rw [hz]
  have he : IsEnum ((s.heap.push o).push { cls := .type "enumerate", data := .fields #[.none, .bool false, .ref s.heap.objs.size, rawInt 0, .none, .none] }) (s.heap.objs.size + 1) s.heap.objs.size 0 .none := by
    have := Heap.get?_push_size (s.heap.push o) (o := { cls := .type "enumerate", data := .fields #[.none, .bool false, .ref s.heap.objs.size, rawInt 0, .none, .none] }) rfl
    rw [hz] at this; exact this
  refine ⟨⟨_, he, rfl⟩, h _ he (Heap.get?_push_of_some _ (Heap.get?_push_size _ B.free)) (by rw [Heap.size_push, hz]) fun b o x => Heap.get?_push_of_some _ (Heap.get?_push_of_some _ x)⟩
end PySem
namespace DV
open PySem PySem.Spec PyProof.Rows L2
/-! ### zip -/
def SqB (K : PySem.W.Frag) : Bool → Hp → Addr → List V → Prop
  | true => SqL K
  | false => SqT K
def SideIt : Bool → Heap → Addr → Addr → Nat → Prop
  | true => Heap.IsListIter
  | false => Heap.IsTupleIter
def SideSq : Bool → Heap → Addr → Array Value → Prop
  | true => Heap.IsList
  | false => Heap.IsTuple
def itOb (t : Bool) (a : Addr) : Obj := { cls := .type (if t then "list_iterator" else "tuple_iterator"), data := .fields #[.ref a, .int 0 0] }
theorem drawsB {prog : Program} {w : World} {A : Around} (t : Bool) (hh : A.handled = none) (it a : Addr) (hne : a ≠ it) (items : Array Value) :
    Draws prog w A it [it, a] items.size (fun i v => items[i]? = some v) (fun i h => SideIt t h it a i ∧ SideSq t h a items) := by
  cases t
  · exact Draws.tuple hh it a hne items
  · exact Draws.list hh it a hne items
theorem beginsB (t : Bool) (a : Addr) (items : Array Value) : Begins (.ref a) (itOb t a) (fun h => SideSq t h a items) := by
  cases t
  · exact begins_tuple a items
  · exact begins_list a items
theorem SideIt.of {t : Bool} {h : Heap} {it a : Addr} (e : h.get? it = some (itOb t a)) : SideIt t h it a 0 := by
  cases t
  · exact ⟨_, e, rfl, rfl⟩
  · exact ⟨_, e, rfl, rfl⟩
theorem SideIt.obj {t : Bool} {h : Heap} {it a : Addr} {i : Nat} (e : SideIt t h it a i) : ∃ o, h.get? it = some o ∧ ∀ v, o.data ≠ .cell v := by
  cases t
  · obtain ⟨o, ho, _, hd⟩ := e; exact ⟨o, ho, fun v q => by rw [hd] at q; cases q⟩
  · obtain ⟨o, ho, _, hd⟩ := e; exact ⟨o, ho, fun v q => by rw [hd] at q; cases q⟩
theorem SideIt.at {t : Bool} {h h' : Heap} {it a : Addr} {i : Nat} (e : SideIt t h it a i) (k : ∀ o, h.get? it = some o → h'.get? it = some o) : SideIt t h' it a i := by
  cases t
  · exact Heap.IsTupleIter.at e k
  · exact Heap.IsListIter.at e k
section
variable {X : Cx} {pins : List (Addr × Obj)} {σ : L2.St} {H : Hp} {s : Shared}
theorem sqB_at (I : Inv X pins σ H s) {t : Bool} {a : Addr} {xs : List V} (h : SqB X.K t H a xs) : ∃ its : List Value, Vals xs its ∧ SideSq t s.heap a its.toArray ∧ a < s.heap.objs.size := by
  cases t
  · obtain ⟨its, rv, p, _⟩ := I.tuple h
    obtain ⟨o, ho, _⟩ := id p
    exact ⟨its, rv, (show s.heap.IsTuple a its.toArray from p), Heap.lt_size ho⟩
  · obtain ⟨its, rv, p, _⟩ := I.list h
    exact ⟨its, rv, p.isList, p.lt⟩
theorem sqB_inj (I : Inv X pins σ H s) {t : Bool} {a : Addr} {xs ys : List V} (h : SqB X.K t H a xs) (h' : SqB X.K t H a ys) : xs = ys := by
  cases t
  · exact I.tuple_inj h h'
  · exact I.list_inj h h'
end
def ItzF (K : PySem.W.Frag) (t1 t2 : Bool) (a b : Addr) (m n : Nat) : It :=
  ⟨fun i H => ∃ (xs ys : List V) (x y : V), SqB K t1 H a xs ∧ SqB K t2 H b ys ∧ xs.length = m ∧ ys.length = n ∧ xs[i]? = some x ∧ ys[i]? = some y,
    fun i H v H' => ∃ T x y o, v = .ref T ∧ H T = none ∧ Firm o ∧ H' = upd H T (.frz o (.tup [x, y])) ∧ (∀ xs, SqB K t1 H a xs → xs[i]? = some x) ∧ ∀ ys, SqB K t2 H b ys → ys[i]? = some y,
    fun i H => ∃ xs ys : List V, SqB K t1 H a xs ∧ SqB K t2 H b ys ∧ xs.length = m ∧ ys.length = n ∧ (m ≤ i ∨ n ≤ i)⟩
theorem turn_zipF {P : Program} {w : World} {K : PySem.W.Frag} {elts : List Expr} {kk : Nat} {tpos : Pos} {t1 t2 : Bool} {a b z TI TO i1 i2 : Addr} {m n : Nat} (D : ZipSep2 z TI TO i1 i2 [i1, a] [i2, b]) (n1 : a ≠ i1) (n2 : b ≠ i2) :
    Turn P w K (.Tuple elts kk tpos) (ItzF K t1 t2 a b m n) [z, TI, TO, i1, i2] z (fun i h => IsZip h z TI TO .none ∧ IsTupOf2 h TI (.ref i1) (.ref i2) ∧ (∃ x y, IsTupOf2 h TO x y) ∧ SideIt t1 h i1 a i ∧ SideIt t2 h i2 b i ∧ i ≤ m ∧ i ≤ n) where
  mem := by simp
  obj := fun i h st c hc => by
    obtain ⟨hz, hTI, ⟨x, y, hTO⟩, s1, s2, _, _⟩ := st
    have e' : c = z ∨ c = TI ∨ c = TO ∨ c = i1 ∨ c = i2 := by simpa using hc
    rcases e' with q | q | q | q | q
    · rw [q]; exact ⟨_, hz, fun v q => nomatch q⟩
    · rw [q]; exact ⟨_, hTI, fun v q => nomatch q⟩
    · rw [q]; exact ⟨_, hTO, fun v q => nomatch q⟩
    · rw [q]; exact s1.obj
    · rw [q]; exact s2.obj
  keep := fun i h h' st k => by
    obtain ⟨hz, hTI, ⟨x, y, hTO⟩, h1, h2, hle⟩ := st
    exact ⟨k z (by simp) _ hz, k TI (by simp) _ hTI, ⟨x, y, k TO (by simp) _ hTO⟩, h1.at fun o q => k i1 (by simp) o q, h2.at fun o q => k i2 (by simp) o q, hle⟩
  item := by
    intro X hP hw hK hc i pins s σ H E I hf st hg
    subst hP hw hK
    obtain ⟨hz, hTI, ⟨x0, y0, hTO⟩, h1, h2, _, _⟩ := st
    obtain ⟨xs, ys, x, y, hqx, hqy, hm, hn, hx, hy⟩ := hg
    have hx1 := (List.getElem?_eq_some_iff.mp hx).1
    have hy1 := (List.getElem?_eq_some_iff.mp hy).1
    obtain ⟨its, rv, p, _⟩ := sqB_at I hqx
    obtain ⟨its2, rv2, p2, _⟩ := sqB_at I hqy
    obtain ⟨u, hu, ru⟩ := rv.get hx
    obtain ⟨u2, hu2, ru2⟩ := rv2.get hy
    have hzl : z < s.heap.objs.size := Heap.lt_size hz
    have hl1 : i < its.toArray.size := by have := (List.getElem?_eq_some_iff.mp hu).1; simpa using this
    have hl2 : i < its2.toArray.size := by have := (List.getElem?_eq_some_iff.mp hu2).1; simpa using this
    have hcalm : X.A.in1.handled = none := I.ok.hd hc
    refine wpAny_pyNext_zipD2_item D (drawsB (A := X.A.in1) t1 hcalm i1 a n1 its.toArray) (drawsB (A := X.A.in1) t2 hcalm i2 b n2 its2.toArray) hz hTI hTO ⟨h1, p⟩ ⟨h2, p2⟩ hl1 hl2 fun x1 x2 h' tk e1 e2 z' TO' st1' st2' hT hsz hk => ?_
    have e1 : x1 = u := by
      have : its[i]? = some x1 := by simpa using e1
      rw [hu] at this; exact (Option.some.inj this).symm
    have e2 : x2 = u2 := by
      have : its2[i]? = some x2 := by simpa using e2
      rw [hu2] at this; exact (Option.some.inj this).symm
    subst e1 e2
    refine ⟨_, rfl, wpAny_letOwnedTupleGo_zip (s := { s with heap := h', toks := tk }) z' fun h'' z'' sb => ?_⟩
    have hT2 : h''.get? s.heap.objs.size = some { cls := .type "tuple", data := .seq #[x1, x2] } := (sb.2 _ (Nat.ne_of_gt hzl)).trans hT
    have new : ObjOk X.prog X.w (upd H s.heap.objs.size (.frz { cls := .type "tuple", data := .seq #[x1, x2] } (.tup [x, y]))) h'' s.heap.objs.size (.frz { cls := .type "tuple", data := .seq #[x1, x2] } (.tup [x, y])) :=
      ⟨hT2, by show 2 ≤ sizeLine; decide, [x1, x2], .cons ru (.cons ru2 .nil), ⟨_, hT2, rfl, _, rfl⟩⟩
    have I1 : Inv X pins σ (upd H s.heap.objs.size (.frz { cls := .type "tuple", data := .seq #[x1, x2] } (.tup [x, y]))) { s with heap := h'', toks := tk } :=
      I.turnedNew (ch := [z, TI, TO, i1, i2]) (fun c o hb q => (sb.2 c (fun q' => hb (by simp [q']))).trans (hk c o (fun q' => hb (by simp [q'])) (fun q' => hb (by simp [q'])) (fun q' => hb (by simp [q'])) (fun q' => hb (by simp [q'])) q)) hf (Nat.le_refl _) new
    refine ⟨.ref s.heap.objs.size, _, I1, rfl, ⟨_, x, y, _, rfl, I.hok.fresh (Nat.le_refl _), firm_new _, rfl, fun l hl => by rw [sqB_inj I hl hqx]; exact hx, fun l hl => by rw [sqB_inj I hl hqy]; exact hy⟩, ⟨z'', ?_, ⟨x1, x2, ?_⟩, ?_, ?_, by omega, by omega⟩, fun c hcm => ?_⟩
    · exact (sb.2 _ D.TIz).trans (hk _ _ D.TIz D.TITO D.TIi1 D.TIi2 hTI)
    · exact (sb.2 _ D.TOz).trans TO'
    · exact st1'.1.at fun o q => (sb.2 _ (Ne.symm D.zi1)).trans q
    · exact st2'.1.at fun o q => (sb.2 _ (Ne.symm D.zi2)).trans q
    · have hlt : c < s.heap.objs.size := by
        have e' : c = z ∨ c = TI ∨ c = TO ∨ c = i1 ∨ c = i2 := by simpa using hcm
        rcases e' with q | q | q | q | q
        · rw [q]; exact hzl
        · rw [q]; exact Heap.lt_size hTI
        · rw [q]; exact Heap.lt_size hTO
        · rw [q]; obtain ⟨_, e1, _⟩ := h1.obj; exact Heap.lt_size e1
        · rw [q]; obtain ⟨_, e2, _⟩ := h2.obj; exact Heap.lt_size e2
      rw [upd_ne (Nat.ne_of_lt hlt)]
      exact (hf c hcm).1
  done := by
    intro X hP hw hK hc i pins s σ H E I hf st hg
    subst hP hw hK
    obtain ⟨hz, hTI, ⟨x0, y0, hTO⟩, h1, h2, g1, g2⟩ := st
    obtain ⟨xs, ys, hqx, hqy, hm, hn, hend⟩ := hg
    obtain ⟨its, rv, p, _⟩ := sqB_at I hqx
    obtain ⟨its2, rv2, p2, _⟩ := sqB_at I hqy
    have l1 := rv.length
    have l2 := rv2.length
    have hcalm : X.A.in1.handled = none := I.ok.hd hc
    refine wpAny_pyNext_zipD2_end D (drawsB (A := X.A.in1) t1 hcalm i1 a n1 its.toArray) (drawsB (A := X.A.in1) t2 hcalm i2 b n2 its2.toArray) hz hTI hTO ⟨h1, p⟩ ⟨h2, p2⟩ (by simp; omega) (by simp; omega) (by simp; omega) fun h' tk hk => ⟨rfl, I.turnedL (ch := [z, TI, TO, i1, i2]) (fun c o hb q =>
      hk c o (fun q' => hb (by simp [q'])) (fun q' => hb (by simp [q'])) (fun q' => hb (by simp [q'])) (fun q' => hb (by simp [q'])) q) hf⟩
  self := fun A i s Q E st h => wpAny_pyIter_zip st.1 h
theorem pi_zipF {X : Cx} {e e2 : Expr} {ta : TA} {p pos tpos : Pos} {elts : List Expr} {kk : Nat} (hg : Gl X "zip") (hm : X.mg "zip" = none) (ha : PA X [e, e2] ta)
    (hs : starEach [e, e2] X.env = (false, eval e X.env) :: starEach [e2] X.env := by rfl) (hpl : (backTo pos (starEach [e2] X.env)).any (·.1) = false := by rfl) :
    PI X (.Tuple elts kk tpos) (.Call (.Name "zip" p) [e, e2] [] pos) (fun σ H R => ta σ H fun vs H1 => ∃ t1 t2 a b xs ys, vs = [.ref a, .ref b] ∧ SqB X.K t1 H1 a xs ∧ SqB X.K t2 H1 b ys ∧ R (ItzF X.K t1 t2 a b xs.length ys.length) H1) := by
  refine ⟨fun pins s σ H R I h => ?_⟩
  refine Call_ (ld_blt I hg hm PyProof.Rows.boot_zip (PyProof.Rows.callWith_type1 (thn (ha.run pos pins s σ H _ I h) fun us s1 ⟨vs, H1, I1, r1, q1⟩ => ?_) hs hpl))
  obtain ⟨t1, t2, a, b, xs, ys, ex, hqx, hqy, q⟩ := q1
  subst ex
  cases r1 with
  | cons r rr =>
    cases rr with
    | cons r' rr =>
      cases rr
      cases r
      cases r'
      obtain ⟨its, rv, p1, la⟩ := sqB_at I1 hqx
      obtain ⟨its2, rv2, p2, lb⟩ := sqB_at I1 hqy
      refine zip_begins2 (beginsB t1 a its.toArray) (beginsB t2 b its2.toArray) p1 p2 fun h' hz hTI hTO h1 h2 hsz hk => wpAny_pyIter_zip hz ?_
      have I2 : Inv X pins σ H1 { s1 with heap := h' } := I1.kept (t' := s1.toks) hk
      have S : ZipSep2 (s1.heap.objs.size + 4) (s1.heap.objs.size + 2) (s1.heap.objs.size + 3) s1.heap.objs.size (s1.heap.objs.size + 1) [s1.heap.objs.size, a] [s1.heap.objs.size + 1, b] :=
        zip_sep2 (fun c hc => by have : c = a := by simpa using hc
                                 rw [this]; exact la) (fun c hc => by have : c = b := by simpa using hc
                                                                      rw [this]; exact lb)
      refine ⟨s1.heap.objs.size + 4, [s1.heap.objs.size + 4, s1.heap.objs.size + 2, s1.heap.objs.size + 3, s1.heap.objs.size, s1.heap.objs.size + 1], _, _, H1, rfl, I2, turn_zipF S (Nat.ne_of_lt la) (Nat.ne_of_lt (Nat.lt_succ_of_lt lb)), ⟨hz, hTI, ⟨_, _, hTO⟩, .of h1, .of h2, Nat.zero_le _, Nat.zero_le _⟩, fun c hcm => ?_, q⟩
      have e' : c = s1.heap.objs.size + 4 ∨ c = s1.heap.objs.size + 2 ∨ c = s1.heap.objs.size + 3 ∨ c = s1.heap.objs.size ∨ c = s1.heap.objs.size + 1 := by simpa using hcm
      have hle : s1.heap.objs.size ≤ c := by
        rcases e' with z | z | z | z | z
        · rw [z]; exact Nat.le_add_right _ _
        · rw [z]; exact Nat.le_add_right _ _
        · rw [z]; exact Nat.le_add_right _ _
        · rw [z]; exact Nat.le_refl _
        · rw [z]; exact Nat.le_add_right _ _
      exact I1.fpOk hle (I1.hok.fresh hle)
theorem nextOf_end {prog : Program} {w : World} {A : Around} {E : Value → Shared → Prop} {s : Shared} (t : Bool) {it a : Addr} {i : Nat} {its : Array Value} {Q : Value → Shared → Prop} (hh : A.handled = none) (hit : SideIt t s.heap it a i) (hl : SideSq t s.heap a its) (hx : its[i]? = none)
    (hE : ∀ h' e, Heap.ExtBut it s.heap h' → (∃ o, h'.get? e = some o ∧ o.cls = .type "StopIteration") → E (.ref e) { s with heap := h' }) : wpAny (model prog w) A (Builtin.SmallTypes.nextOf (.ref it)) Q E s := by
  cases t
  · exact wpAny_nextOf_tuple_end hh hit hl hx hE
  · exact wpAny_nextOf_list_end hh hit hl hx hE
theorem pyNext_enumB_end {prog : Program} {w : World} {A : Around} {E : Value → Shared → Prop} {s : Shared} {t : Bool} {e it a : Addr} {i : Nat} {old : Value} {its : Array Value} {Q : Option Value → Shared → Prop} (hh : A.handled = none)
    (he : IsEnum s.heap e it i old) (hit : SideIt t s.heap it a i) (hl : SideSq t s.heap a its) (hx : its[i]? = none)
    (hQ : ∀ h', Heap.ExtBut it s.heap h' → Q none { s with heap := h' }) : wpAny (model prog w) A (pyNext (.ref e)) Q E s := by
  have hT : s.TypeIs (.ref e) "enumerate" := ⟨_, he, rfl⟩
  unfold pyNext
  refine wpAny_bind (wpAny_attempt (wpAny_callSpecial?_slot (name := Str.ofString "__next__") hT F.slot_enumerate_next
    (wpAny_call_entry F.slot_enumerate_next hT F.entry_enumerate_next ?_ (F.args_enumerate_next_1 _))))
  show wpAny _ _ (field (.ref e) 2 >>= _) _ _ _
  refine wpAny_bind (wpAny_field he rfl (x := .ref it) rfl ?_)
  refine wpAny_bind (nextOf_end t (A := A.in1) hh hit hl hx fun h' x he' hx' => ?_)
  obtain ⟨o, ho, hc⟩ := hx'
  refine wpAny_bind (wpAny_isInstance (T := "StopIteration") (b := true) ⟨o, ho, hc⟩ isSubtype_stop ?_)
  exact wpAny_pure (hQ _ he')
def IteF (K : PySem.W.Frag) (t : Bool) (a : Addr) : It :=
  ⟨fun i H => ∃ (xs : List V) (x : V), SqB K t H a xs ∧ xs[i]? = some x, fun i H v H' => ∃ T x o, v = .ref T ∧ H T = none ∧ Firm o ∧ H' = upd H T (.frz o (.tup [.int (i : Nat), x])) ∧ ∀ xs, SqB K t H a xs → xs[i]? = some x, fun i H => ∃ xs : List V, SqB K t H a xs ∧ xs.length ≤ i⟩
theorem turn_enumF {P : Program} {w : World} {K : PySem.W.Frag} {elts : List Expr} {kk : Nat} {tpos : Pos} {t : Bool} (a e it : Addr) (hai : a ≠ it) :
    Turn P w K (.Tuple elts kk tpos) (IteF K t a) [e, it] e (fun i h => (∃ old, IsEnum h e it ((i : Nat) : Int) old) ∧ SideIt t h it a i ∧ e ≠ it ∧ e ≠ a) where
  mem := by simp
  obj := fun i h st b hb => by
    obtain ⟨⟨old, he⟩, hs, _⟩ := st
    have e' : b = e ∨ b = it := by simpa using hb
    rcases e' with z | z
    · rw [z]; exact ⟨_, he, fun v q => nomatch q⟩
    · rw [z]; exact hs.obj
  keep := fun i h h' st k => let ⟨⟨old, he⟩, hi, hne⟩ := st; ⟨⟨old, k e (by simp) _ he⟩, hi.at fun o q => k it (by simp) o q, hne⟩
  item := by
    intro X hP hw hK hc i pins s σ H E I hf st hg
    subst hP hw hK
    obtain ⟨⟨old, he⟩, hit, hne, hea⟩ := st
    obtain ⟨xs, x, hq, hx⟩ := hg
    obtain ⟨its, rv, p, _⟩ := sqB_at I hq
    obtain ⟨u, hu, ru⟩ := rv.get hx
    have hel : e < s.heap.objs.size := Heap.lt_size he
    have hil : it < s.heap.objs.size := by obtain ⟨_, q, _⟩ := hit.obj; exact Heap.lt_size q
    have hlt : i < its.toArray.size := by have := (List.getElem?_eq_some_iff.mp hu).1; simpa using this
    refine wpAny_pyNext_enum_itemD (drawsB (A := X.A.in1) t (show X.A.in1.handled = none from I.ok.hd hc) it a hai its.toArray) he ⟨hit, p⟩ hlt hne (by simp [hne, hea]) fun x1 h' tk hP ho hst hT hsz hk => ?_
    have e1 : x1 = u := by
      have : its[i]? = some x1 := by simpa using hP
      rw [hu] at this; exact (Option.some.inj this).symm
    subst e1
    refine ⟨_, rfl, wpAny_letOwnedTupleGo_enum (s := { s with heap := h', toks := tk + 1 }) ho fun h'' he' sb => ?_⟩
    have hT2 : h''.get? s.heap.objs.size = some { cls := .type "tuple", data := .seq #[.int i tk, x1] } := (sb.2 _ (Nat.ne_of_gt hel)).trans hT
    have new : ObjOk X.prog X.w (upd H s.heap.objs.size (.frz { cls := .type "tuple", data := .seq #[.int i tk, x1] } (.tup [.int (i : Nat), x]))) h'' s.heap.objs.size (.frz { cls := .type "tuple", data := .seq #[.int i tk, x1] } (.tup [.int (i : Nat), x])) :=
      ⟨hT2, by show 2 ≤ sizeLine; decide, [.int i tk, x1], .cons ⟨_, rfl⟩ (.cons ru .nil), ⟨_, hT2, rfl, _, rfl⟩⟩
    have I1 : Inv X pins σ (upd H s.heap.objs.size (.frz { cls := .type "tuple", data := .seq #[.int i tk, x1] } (.tup [.int (i : Nat), x]))) { s with heap := h'', toks := tk + 1 } :=
      I.turnedNew (ch := [e, it]) (fun b ob hb q => (sb.2 b (fun z => hb (by simp [z]))).trans (hk b ob (fun z => hb (by simp [z])) (fun z => hb (by simp [z])) q)) hf (Nat.le_refl _) new
    refine ⟨.ref s.heap.objs.size, _, I1, rfl, ⟨_, x, _, rfl, I.hok.fresh (Nat.le_refl _), firm_new _, rfl, fun ys hy => by rw [sqB_inj I hy hq]; exact hx⟩, ⟨⟨x1, ?_⟩, hst.1.at fun o q => (sb.2 it (Ne.symm hne)).trans q, hne, hea⟩, fun b hb => ?_⟩
    · have e1 : ((i + 1 : Nat) : Int) = (i : Int) + 1 := by omega
      rw [e1]; exact he'
    · have hb' : b < s.heap.objs.size := by
        have e' : b = e ∨ b = it := by simpa using hb
        rcases e' with z | z
        · rw [z]; exact hel
        · rw [z]; exact hil
      rw [upd_ne (Nat.ne_of_lt hb')]
      exact (hf b hb).1
  done := by
    intro X hP hw hK hc i pins s σ H E I hf st hg
    subst hP hw hK
    obtain ⟨⟨old, he⟩, hit, hne, hea⟩ := st
    obtain ⟨xs, hq, hx⟩ := hg
    obtain ⟨its, rv, p, _⟩ := sqB_at I hq
    obtain ⟨f0, f1, f2, f3, f4, f5⟩ := hf it (by simp)
    have hl := rv.length
    exact pyNext_enumB_end (I.ok.hd hc) he hit p (by simp; omega) fun h' eb => ⟨rfl, I.turned (t' := s.toks) (fun b o hb q => eb b o hb q) f0 f1 f3 f4 f5⟩
  self := fun A i s Q E st h => let ⟨⟨_, he⟩, _⟩ := st; wpAny_pyIter_enum he h
theorem pi_enumF {X : Cx} {e : Expr} {ta : TA} {p pos tpos : Pos} {elts : List Expr} {kk : Nat} (hg : Gl X "enumerate") (hm : X.mg "enumerate" = none) (ha : PA X [e] ta) (hs : starEach [e] X.env = [(false, eval e X.env)] := by rfl) :
    PI X (.Tuple elts kk tpos) (.Call (.Name "enumerate" p) [e] [] pos) (fun σ H R => ta σ H fun vs H1 => ∃ t a xs, vs = [.ref a] ∧ SqB X.K t H1 a xs ∧ R (IteF X.K t a) H1) := by
  refine ⟨fun pins s σ H R I h => ?_⟩
  refine Call_ (ld_blt I hg hm boot_enumerate (PyProof.Rows.callWith_type1 (thn (ha.run pos pins s σ H _ I h) fun us s1 ⟨vs, H1, I1, r1, q1⟩ => ?_) hs rfl))
  obtain ⟨t, a, xs, ex, hq, q⟩ := q1
  subst ex
  cases r1 with
  | cons r rr =>
    cases rr
    cases r
    obtain ⟨its, rv, p', hal⟩ := sqB_at I1 hq
    refine dv_enum_begins (beginsB t a its.toArray) p' fun h' he hit hsz hk => wpAny_pyIter_enum he ?_
    have I2 : Inv X pins σ H1 { s1 with heap := h' } := I1.kept (t' := s1.toks) hk
    refine ⟨s1.heap.objs.size + 1, [s1.heap.objs.size + 1, s1.heap.objs.size], _, _, H1, rfl, I2, turn_enumF (t := t) a (s1.heap.objs.size + 1) s1.heap.objs.size (Nat.ne_of_lt hal), ⟨⟨.none, he⟩, .of hit, Nat.succ_ne_self _, Nat.ne_of_gt (Nat.lt_succ_of_lt hal)⟩, fun b hb => ?_, q⟩
    have e' : b = s1.heap.objs.size + 1 ∨ b = s1.heap.objs.size := by simpa using hb
    have hle : s1.heap.objs.size ≤ b := by
      rcases e' with z | z
      · rw [z]; exact Nat.le_add_right _ _
      · rw [z]; exact Nat.le_refl _
    exact I1.fpOk hle (I1.hok.fresh hle)
end DV

/-! DV: values with content, a store, what a piece of Python computes over them; each rule of HandS as one about these. -/
namespace DV
open PySem PySem.Spec PyProof.Rows L2

/-- a value by its content; lists that are never changed are content, others are places of the store -/
inductive D where
  | non
  | bl (b : Bool)
  | int (i : Int)
  | str (x : Str)
  | tup (xs : List D)
  | lst (xs : List D)
  | ref (i : Nat)
  /-- a list that is only read (the script) -/
  | fr (xs : List D)
  | rng (lo hi : Int)

mutual
def D.beq : D → D → Bool
  | .non, .non => true
  | .bl a, .bl b => a == b
  | .int a, .int b => a == b
  | .str a, .str b => decide (a = b)
  | .tup a, .tup b => D.beqL a b
  | .lst a, .lst b => D.beqL a b
  | .ref a, .ref b => a == b
  | .fr a, .fr b => D.beqL a b
  | .rng a b, .rng c d => a == c && b == d
  | _, _ => false
def D.beqL : List D → List D → Bool
  | [], [] => true
  | a :: as, b :: bs => D.beq a b && D.beqL as bs
  | _, _ => false
end
mutual
theorem D.beq_iff : ∀ a b : D, D.beq a b = true ↔ a = b
  | .non, b => by cases b <;> simp [D.beq]
  | .bl _, b => by cases b <;> simp [D.beq]
  | .int _, b => by cases b <;> simp [D.beq]
  | .str _, b => by cases b <;> simp [D.beq]
  | .tup as, b => by
    cases b with
    | tup bs => simp [D.beq, D.beqL_iff as bs]
    | _ => simp [D.beq]
  | .lst as, b => by
    cases b with
    | lst bs => simp [D.beq, D.beqL_iff as bs]
    | _ => simp [D.beq]
  | .ref _, b => by cases b <;> simp [D.beq]
  | .fr as, b => by
    cases b with
    | fr bs => simp [D.beq, D.beqL_iff as bs]
    | _ => simp [D.beq]
  | .rng _ _, b => by cases b <;> simp [D.beq]
theorem D.beqL_iff : ∀ a b : List D, D.beqL a b = true ↔ a = b
  | [], b => by cases b <;> simp [D.beqL]
  | a :: as, b => by
    cases b with
    | nil => simp [D.beqL]
    | cons b bs => simp [D.beqL, D.beq_iff a b, D.beqL_iff as bs]
end
instance : DecidableEq D := fun a b => decidable_of_iff _ (D.beq_iff a b)

/-- what stands at a place of the store -/
inductive Ob where
  | lst (xs : List D)
  | dct (kvs : List (D × D))
  | dtt (kvs : List (D × D))
  | ins (C : Addr) (fs : List (Str × D))
  deriving DecidableEq
abbrev Store := List Ob
abbrev Ev := List (Option D)

/-! ### how content lies in the abstract heap -/
/-- the places' addresses; addresses that are hidden -/
structure Wd where
  rho : List Addr
  B : Addr → Prop
def Out (w : Wd) (a : Addr) : Prop := a ∉ w.rho ∧ ¬ w.B a

/-- a made tuple whose object has no dict -/
def Fm (H : Hp) (a : Addr) (vs : List V) : Prop := ∃ o, H a = some (.frz o (.tup vs)) ∧ Firm o
theorem Fm.rd {H : Hp} {a : Addr} {vs : List V} (h : Fm H a vs) : Rd H a (.tup vs) := let ⟨o, h, _⟩ := h; .inr ⟨o, h⟩
/-- a known tuple without a dict -/
def KF (K : PySem.W.Frag) (a : Addr) : Prop := ∃ o, K.lookup a = some o ∧ o.cls = .type "tuple" ∧ o.dict = none
mutual
inductive Rp (K : PySem.W.Frag) (w : Wd) (H : Hp) : D → V → Prop
  | non : Rp K w H .non .non
  | bl (b : Bool) : Rp K w H (.bl b) (.bl b)
  | int (i : Int) : Rp K w H (.int i) (.int i)
  | str (x : Str) : Rp K w H (.str x) (.str x)
  | tup {a : Addr} {vs : List V} {ds : List D} : Out w a → Fm H a vs → RpL K w H ds vs → Rp K w H (.tup ds) (.ref a)
  | tupK {a : Addr} {vs : List V} {ds : List D} : KF K a → SqT K (fun _ => none) a vs → RpL K w H ds vs → Rp K w H (.tup ds) (.ref a)
  | lst {a : Addr} {vs : List V} {ds : List D} : Out w a → H a = some (.lst vs) → RpL K w H ds vs → Rp K w H (.lst ds) (.ref a)
  | fr {a : Addr} {vs : List V} {ds : List D} : Out w a → Rd H a (.lst vs) → RpL K w H ds vs → Rp K w H (.fr ds) (.ref a)
  | frK {a : Addr} {vs : List V} {ds : List D} : SqL K (fun _ => none) a vs → RpL K w H ds vs → Rp K w H (.fr ds) (.ref a)
  | ref {i : Nat} {a : Addr} : w.rho[i]? = some a → Rp K w H (.ref i) (.ref a)
  | rng {a : Addr} {lo hi : Int} : Out w a → H a = some (.rng lo hi) → Rp K w H (.rng lo hi) (.ref a)
inductive RpL (K : PySem.W.Frag) (w : Wd) (H : Hp) : List D → List V → Prop
  | nil : RpL K w H [] []
  | cons {d : D} {v : V} {ds : List D} {vs : List V} : Rp K w H d v → RpL K w H ds vs → RpL K w H (d :: ds) (v :: vs)
end

section
variable {K : PySem.W.Frag} {w w' w'' : Wd} {H H' H'' : Hp} {d : D} {v : V} {ds : List D} {vs : List V}
theorem RpL.length : ∀ {ds : List D} {vs : List V}, RpL K w H ds vs → ds.length = vs.length
  | _, _, .nil => rfl
  | _, _, .cons _ t => by simp [RpL.length t]
theorem RpL.get : ∀ {ds : List D} {vs : List V} {i : Nat} {d : D}, RpL K w H ds vs → ds[i]? = some d → ∃ v, vs[i]? = some v ∧ Rp K w H d v
  | _, _, _, _, .nil, e => by simp at e
  | _, _, 0, _, .cons r _, e => by simp at e; subst e; exact ⟨_, rfl, r⟩
  | _, _, i + 1, d, .cons _ t, e => by
    obtain ⟨u, h1, h2⟩ := RpL.get (i := i) (d := d) t (by simpa using e)
    exact ⟨u, by simpa using h1, h2⟩
theorem RpL.get' : ∀ {ds : List D} {vs : List V} {i : Nat} {v : V}, RpL K w H ds vs → vs[i]? = some v → ∃ d, ds[i]? = some d ∧ Rp K w H d v
  | _, _, _, _, .nil, e => by simp at e
  | _, _, 0, _, .cons r _, e => by simp at e; subst e; exact ⟨_, rfl, r⟩
  | _, _, i + 1, d, .cons _ t, e => by
    obtain ⟨u, h1, h2⟩ := RpL.get' (i := i) (v := d) t (by simpa using e)
    exact ⟨u, by simpa using h1, h2⟩
theorem RpL.append : ∀ {ds es : List D} {vs us : List V}, RpL K w H ds vs → RpL K w H es us → RpL K w H (ds ++ es) (vs ++ us)
  | _, _, _, _, .nil, s => s
  | _, _, _, _, .cons r t, s => .cons r (RpL.append t s)
theorem RpL.take : ∀ {ds : List D} {vs : List V} (n : Nat), RpL K w H ds vs → RpL K w H (ds.take n) (vs.take n)
  | _, _, 0, _ => .nil
  | _, _, _ + 1, .nil => .nil
  | _, _, n + 1, .cons r t => .cons r (RpL.take n t)
theorem RpL.drop : ∀ {ds : List D} {vs : List V} (n : Nat), RpL K w H ds vs → RpL K w H (ds.drop n) (vs.drop n)
  | _, _, 0, r => r
  | _, _, _ + 1, .nil => .nil
  | _, _, n + 1, .cons _ t => RpL.drop n t
theorem RpL.set {d : D} {v : V} (r : Rp K w H d v) : ∀ {ds : List D} {vs : List V} (i : Nat), RpL K w H ds vs → RpL K w H (ds.set i d) (vs.set i v)
  | _, _, _, .nil => .nil
  | _, _, 0, .cons _ t => .cons r t
  | _, _, i + 1, .cons q t => .cons q (RpL.set r i t)
theorem RpL.dropLast : ∀ {ds : List D} {vs : List V}, RpL K w H ds vs → RpL K w H ds.dropLast vs.dropLast := fun {ds vs} h => by
  rw [List.dropLast_eq_take, List.dropLast_eq_take, h.length]; exact h.take _
theorem RpL.eraseIdx : ∀ {ds : List D} {vs : List V} (i : Nat), RpL K w H ds vs → RpL K w H (ds.eraseIdx i) (vs.eraseIdx i)
  | _, _, _, .nil => .nil
  | _, _, 0, .cons _ t => t
  | _, _, i + 1, .cons q t => .cons q (RpL.eraseIdx i t)
theorem RpL.reverse : ∀ {ds : List D} {vs : List V}, RpL K w H ds vs → RpL K w H ds.reverse vs.reverse
  | _, _, .nil => .nil
  | _, _, .cons r t => by
    rw [List.reverse_cons, List.reverse_cons]
    exact (RpL.reverse t).append (.cons r .nil)
theorem RpL.rep (h : RpL K w H ds vs) : ∀ k : Nat, RpL K w H (List.replicate k ds).flatten (List.replicate k vs).flatten
  | 0 => .nil
  | k + 1 => by rw [List.replicate_succ, List.replicate_succ, List.flatten_cons, List.flatten_cons]; exact h.append (RpL.rep h k)
theorem RpL.map_int {ns : List Int} : RpL K w H (ns.map D.int) (ns.map V.int) := by
  induction ns with
  | nil => exact .nil
  | cons n r ih => exact .cons (.int n) ih

theorem SqT.none_mono {a : Addr} (h : SqT K (fun _ => none) a vs) : SqT K H a vs := by
  rcases h with h | h
  · rcases h with h | ⟨_, h⟩ <;> cases h
  · exact .inr h
theorem Rp.tup_inv (r : Rp K w H (.tup ds) v) : ∃ a vs, v = .ref a ∧ SqT K H a vs ∧ RpL K w H ds vs := by
  cases r with
  | tup _ h l => exact ⟨_, _, rfl, .inl h.rd, l⟩
  | tupK _ h l => exact ⟨_, _, rfl, SqT.none_mono h, l⟩
theorem Rp.lst_inv (r : Rp K w H (.lst ds) v) : ∃ a vs, v = .ref a ∧ Out w a ∧ H a = some (.lst vs) ∧ RpL K w H ds vs := by
  cases r with
  | lst o h l => exact ⟨_, _, rfl, o, h, l⟩
theorem SqL.none_mono {a : Addr} (h : SqL K (fun _ => none) a vs) : SqL K H a vs := by
  rcases h with h | h
  · rcases h with h | ⟨_, h⟩ <;> cases h
  · exact .inr h
theorem Rp.fr_inv (r : Rp K w H (.fr ds) v) : ∃ a vs, v = .ref a ∧ SqL K H a vs ∧ RpL K w H ds vs := by
  cases r with
  | fr o h l => exact ⟨_, _, rfl, .inl h, l⟩
  | frK h l => exact ⟨_, _, rfl, SqL.none_mono h, l⟩
theorem Rp.of_SqL {a : Addr} (o : ∀ u, H a = some u → Out w a) (h : SqL K H a vs) (l : RpL K w H ds vs) : Rp K w H (.fr ds) (.ref a) := by
  rcases h with h | h
  · refine .fr ?_ h l
    rcases h with h | ⟨u, h⟩
    · exact o _ h
    · exact o _ h
  · exact .frK (.inr h) l
theorem Rp.ref_inv {i : Nat} (r : Rp K w H (.ref i) v) : ∃ a, v = .ref a ∧ w.rho[i]? = some a := by
  cases r with
  | ref h => exact ⟨_, rfl, h⟩
theorem Rp.rng_inv {lo hi : Int} (r : Rp K w H (.rng lo hi) v) : ∃ a, v = .ref a ∧ H a = some (.rng lo hi) := by
  cases r with
  | rng o h => exact ⟨_, rfl, h⟩
theorem Rp.int_inv {i : Int} (r : Rp K w H (.int i) v) : v = .int i := by cases r; rfl
theorem Rp.bl_inv {b : Bool} (r : Rp K w H (.bl b) v) : v = .bl b := by cases r; rfl
theorem Rp.non_inv (r : Rp K w H .non v) : v = .non := by cases r; rfl
theorem Rp.str_inv {x : Str} (r : Rp K w H (.str x) v) : v = .str x := by cases r; rfl
theorem RpL.ints : ∀ {ns : List Int} {vs : List V}, RpL K w H (ns.map D.int) vs → vs = ns.map V.int
  | [], _, h => by cases h; rfl
  | n :: ns, _, h => by
    cases h with
    | cons r t => rw [r.int_inv, RpL.ints t]; rfl

/-- a step from one heap to a later one -/
structure Stp (w : Wd) (H : Hp) (w' : Wd) (H' : Hp) : Prop where
  B : ∀ b o, H b = some o → b ∉ w.rho → (w'.B b ↔ w.B b)
  pre : ∃ more, w'.rho = w.rho ++ more
  keep : ∀ b o, H b = some o → b ∉ w.rho → H' b = some o ∧ b ∉ w'.rho
theorem Stp.refl : Stp w H w H := ⟨fun _ _ _ _ => Iff.rfl, ⟨[], by simp⟩, fun _ _ h n => ⟨h, n⟩⟩
theorem Stp.trans (a : Stp w H w' H') (b : Stp w' H' w'' H'') : Stp w H w'' H'' :=
  ⟨fun x o h n => by obtain ⟨h1, n1⟩ := a.keep x o h n; exact (b.B x o h1 n1).trans (a.B x o h n), by obtain ⟨m1, e1⟩ := a.pre; obtain ⟨m2, e2⟩ := b.pre; exact ⟨m1 ++ m2, by rw [e2, e1, List.append_assoc]⟩,
    fun x o h n => by obtain ⟨h1, n1⟩ := a.keep x o h n; exact b.keep x o h1 n1⟩
theorem Stp.out (s : Stp w H w' H') {a : Addr} {o : HO} (h : H a = some o) (n : Out w a) : Out w' a := ⟨(s.keep a o h n.1).2, fun z => n.2 ((s.B a o h n.1).mp z)⟩
theorem Stp.rd (s : Stp w H w' H') {a : Addr} {o : HO} (h : Rd H a o) (n : Out w a) : Rd H' a o ∧ Out w' a := by
  rcases h with h | ⟨u, h⟩
  · exact ⟨.inl (s.keep _ _ h n.1).1, s.out h n⟩
  · exact ⟨.inr ⟨u, (s.keep _ _ h n.1).1⟩, s.out h n⟩
/-- the same where what is hidden may change -/
structure Wst (w : Wd) (H : Hp) (w' : Wd) (H' : Hp) : Prop where
  pre : ∃ more, w'.rho = w.rho ++ more
  back : ∀ b o, H b = some o → b ∉ w.rho → w'.B b → w.B b
  keep : ∀ b o, H b = some o → b ∉ w.rho → ¬ w.B b → H' b = some o ∧ b ∉ w'.rho
theorem Stp.toW (s : Stp w H w' H') : Wst w H w' H' := ⟨s.pre, fun b o h n => (s.B b o h n).mp, fun b o h n _ => s.keep b o h n⟩
theorem Wst.trans (a : Wst w H w' H') (b : Wst w' H' w'' H'') : Wst w H w'' H'' :=
  ⟨by obtain ⟨m1, e1⟩ := a.pre; obtain ⟨m2, e2⟩ := b.pre; exact ⟨m1 ++ m2, by rw [e2, e1, List.append_assoc]⟩,
    fun x o h n z => Classical.byContradiction fun hn => by
      obtain ⟨h1, n1⟩ := a.keep x o h n hn
      exact hn (a.back x o h n (b.back x o h1 n1 z)),
    fun x o h n hn => by
      obtain ⟨h1, n1⟩ := a.keep x o h n hn
      exact b.keep x o h1 n1 fun z => hn (a.back x o h n z)⟩
theorem Wst.out (s : Wst w H w' H') {a : Addr} {o : HO} (h : H a = some o) (n : Out w a) : Out w' a := ⟨(s.keep a o h n.1 n.2).2, fun z => n.2 (s.back a o h n.1 z)⟩
theorem Wst.rd (s : Wst w H w' H') {a : Addr} {o : HO} (h : Rd H a o) (n : Out w a) : Rd H' a o ∧ Out w' a := by
  rcases h with h | ⟨u, h⟩
  · exact ⟨.inl (s.keep _ _ h n.1 n.2).1, s.out h n⟩
  · exact ⟨.inr ⟨u, (s.keep _ _ h n.1 n.2).1⟩, s.out h n⟩
theorem Wst.fm (s : Wst w H w' H') {a : Addr} {vs : List V} (h : Fm H a vs) (n : Out w a) : Fm H' a vs := let ⟨o, h, f⟩ := h; ⟨o, (s.keep _ _ h n.1 n.2).1, f⟩
mutual
theorem Rp.monoW (s : Wst w H w' H') : ∀ {d : D} {v : V}, Rp K w H d v → Rp K w' H' d v
  | _, _, .non => .non
  | _, _, .bl b => .bl b
  | _, _, .int i => .int i
  | _, _, .str x => .str x
  | _, _, .tup o h l => .tup (s.rd h.rd o).2 (s.fm h o) (RpL.monoW s l)
  | _, _, .tupK f h l => .tupK f h (RpL.monoW s l)
  | _, _, .lst o h l => .lst (s.out h o) (s.keep _ _ h o.1 o.2).1 (RpL.monoW s l)
  | _, _, .fr o h l => .fr (s.rd h o).2 (s.rd h o).1 (RpL.monoW s l)
  | _, _, .frK h l => .frK h (RpL.monoW s l)
  | _, _, .rng o h => .rng (s.out h o) (s.keep _ _ h o.1 o.2).1
  | _, _, .ref h => .ref (by obtain ⟨m, e⟩ := s.pre; rw [e, List.getElem?_append_left (List.getElem?_eq_some_iff.mp h).1]; exact h)
theorem RpL.monoW (s : Wst w H w' H') : ∀ {ds : List D} {vs : List V}, RpL K w H ds vs → RpL K w' H' ds vs
  | _, _, .nil => .nil
  | _, _, .cons r t => .cons (Rp.monoW s r) (RpL.monoW s t)
end
theorem Rp.mono (s : Stp w H w' H') {d : D} {v : V} (r : Rp K w H d v) : Rp K w' H' d v := r.monoW s.toW
theorem RpL.mono (s : Stp w H w' H') {ds : List D} {vs : List V} (r : RpL K w H ds vs) : RpL K w' H' ds vs := r.monoW s.toW

/-- a key of a dict -/
inductive RKey : D → Key → Prop
  | int (i : Int) : RKey (.int i) (.inl i)
  | str (x : Str) : RKey (.str x) (.inr x)
inductive RKeys : List D → List Key → Prop
  | nil : RKeys [] []
  | cons {d : D} {k : Key} {ds : List D} {ks : List Key} : RKey d k → RKeys ds ks → RKeys (d :: ds) (k :: ks)
inductive RDk (K : PySem.W.Frag) (w : Wd) (H : Hp) : List (D × D) → List (Key × V) → Prop
  | nil : RDk K w H [] []
  | cons {d e : D} {k : Key} {v : V} {ds : List (D × D)} {ks : List (Key × V)} : RKey d k → Rp K w H e v → RDk K w H ds ks → RDk K w H ((d, e) :: ds) ((k, v) :: ks)
inductive RDt (K : PySem.W.Frag) (w : Wd) (H : Hp) : List (D × D) → List (List Key × V) → Prop
  | nil : RDt K w H [] []
  | cons {t : List D} {e : D} {k : List Key} {v : V} {ds : List (D × D)} {ks : List (List Key × V)} : RKeys t k → Rp K w H e v → RDt K w H ds ks → RDt K w H ((.tup t, e) :: ds) ((k, v) :: ks)
inductive RFs (K : PySem.W.Frag) (w : Wd) (H : Hp) : List (Str × D) → List (Str × V) → Prop
  | nil : RFs K w H [] []
  | cons {f : Str} {d : D} {v : V} {ds : List (Str × D)} {vs : List (Str × V)} : Rp K w H d v → RFs K w H ds vs → RFs K w H ((f, d) :: ds) ((f, v) :: vs)
inductive RpO (K : PySem.W.Frag) (w : Wd) (H : Hp) : Ob → HO → Prop
  | lst {ds : List D} {vs : List V} : RpL K w H ds vs → RpO K w H (.lst ds) (.lst vs)
  | dK {kvs : List (D × D)} {ks : List (Key × V)} : RDk K w H kvs ks → RpO K w H (.dct kvs) (.dK ks)
  | dT {kvs : List (D × D)} {ks : List (List Key × V)} : RDt K w H kvs ks → RpO K w H (.dtt kvs) (.dT ks)
  | ins {C dx : Addr} {fs : List (Str × D)} {vs : List (Str × V)} : RFs K w H fs vs → RpO K w H (.ins C fs) (.ins C dx vs)
theorem RDk.mono (s : Stp w H w' H') : ∀ {ds : List (D × D)} {vs : List (Key × V)}, RDk K w H ds vs → RDk K w' H' ds vs
  | _, _, .nil => .nil
  | _, _, .cons k r t => .cons k (r.mono s) (RDk.mono s t)
theorem RDt.mono (s : Stp w H w' H') : ∀ {ds : List (D × D)} {vs : List (List Key × V)}, RDt K w H ds vs → RDt K w' H' ds vs
  | _, _, .nil => .nil
  | _, _, .cons k r t => .cons k (r.mono s) (RDt.mono s t)
theorem RFs.mono (s : Stp w H w' H') : ∀ {ds : List (Str × D)} {vs : List (Str × V)}, RFs K w H ds vs → RFs K w' H' ds vs
  | _, _, .nil => .nil
  | _, _, .cons r t => .cons (r.mono s) (RFs.mono s t)
theorem RpO.mono (s : Stp w H w' H') {o : Ob} {h : HO} (r : RpO K w H o h) : RpO K w' H' o h := by
  cases r with
  | lst r => exact .lst (r.mono s)
  | dK r => exact .dK (r.mono s)
  | dT r => exact .dT (r.mono s)
  | ins r => exact .ins (r.mono s)

/-- the store lies in the heap -/
structure Ok (K : PySem.W.Frag) (w : Wd) (S : Store) (H : Hp) : Prop where
  len : w.rho.length = S.length
  nd : w.rho.Nodup
  ob : ∀ (i : Nat) (a : Addr) (o : Ob), w.rho[i]? = some a → S[i]? = some o → ∃ h, H a = some h ∧ RpO K w H o h
  nb : ∀ a ∈ w.rho, ¬ w.B a
  bt : ∀ a, w.B a → ∃ o, H a = some o
variable {S S' S'' : Store}
theorem Ok.at (k : Ok K w S H) {i : Nat} {a : Addr} (h : w.rho[i]? = some a) : ∃ o h, S[i]? = some o ∧ H a = some h ∧ RpO K w H o h := by
  have hl := (List.getElem?_eq_some_iff.mp h).1
  rw [k.len] at hl
  obtain ⟨x, h1, h2⟩ := k.ob i a _ h (List.getElem?_eq_getElem hl)
  exact ⟨_, x, List.getElem?_eq_getElem hl, h1, h2⟩
theorem Ok.new (k : Ok K w S H) {p : Addr} (h : H p = none) : Out w p := by
  refine ⟨fun z => ?_, fun z => ?_⟩
  · obtain ⟨i, hi, e⟩ := List.getElem_of_mem z
    obtain ⟨o, x, _, h1, _⟩ := k.at (i := i) (a := p) (by rw [List.getElem?_eq_getElem hi, e])
    rw [h] at h1; cases h1
  · obtain ⟨o, e⟩ := k.bt p z
    rw [h] at e; cases e
/-- a new thing outside the store -/
theorem Stp.new {p : Addr} {o : HO} (h : H p = none) : Stp w H w (upd H p o) :=
  ⟨fun _ _ _ _ => Iff.rfl, ⟨[], by simp⟩, fun b u e n => ⟨by rw [upd_ne (ne_of_none e h)]; exact e, n⟩⟩
theorem Ok.laid (k : Ok K w S H) {p : Addr} {o : HO} (h : H p = none) : Ok K w S (upd H p o) where
  len := k.len
  nd := k.nd
  ob := fun i a x h1 h2 => by
    obtain ⟨u, e, r⟩ := k.ob i a x h1 h2
    exact ⟨u, by rw [upd_ne (ne_of_none e h)]; exact e, r.mono (Stp.new h)⟩
  nb := k.nb
  bt := fun a z => by
    obtain ⟨u, e⟩ := k.bt a z
    exact ⟨u, by rw [upd_ne (ne_of_none e h)]; exact e⟩
/-- a new thing in the store -/
def Wd.add (w : Wd) (p : Addr) : Wd := ⟨w.rho ++ [p], w.B⟩
theorem Stp.add {p : Addr} {o : HO} (h : H p = none) : Stp w H (w.add p) (upd H p o) :=
  ⟨fun _ _ _ _ => Iff.rfl, ⟨[p], rfl⟩, fun b u e n => ⟨by rw [upd_ne (ne_of_none e h)]; exact e, by
    show b ∉ w.rho ++ [p]
    simp only [List.mem_append, List.mem_singleton, not_or]
    exact ⟨n, ne_of_none e h⟩⟩⟩
theorem Ok.add (k : Ok K w S H) {p : Addr} {o : HO} {x : Ob} (h : H p = none) (r : RpO K w H x o) : Ok K (w.add p) (S ++ [x]) (upd H p o) where
  len := by simp [Wd.add, k.len]
  nd := by
    show (w.rho ++ [p]).Nodup
    rw [List.nodup_append]
    exact ⟨k.nd, by simp, fun a ha b hb => by
      simp only [List.mem_singleton] at hb
      subst hb
      intro e
      subst e
      exact (k.new h).1 ha⟩
  ob := fun i a y h1 h2 => by
    have h1 : (w.rho ++ [p])[i]? = some a := h1
    by_cases hi : i < S.length
    · rw [List.getElem?_append_left (by rw [k.len]; exact hi)] at h1
      rw [List.getElem?_append_left hi] at h2
      obtain ⟨u, e, q⟩ := k.ob i a y h1 h2
      exact ⟨u, by rw [upd_ne (ne_of_none e h)]; exact e, q.mono (Stp.add h)⟩
    · rw [List.getElem?_append_right (by omega)] at h2
      rw [List.getElem?_append_right (by rw [k.len]; omega)] at h1
      have e : i = S.length := by
        have := (List.getElem?_eq_some_iff.mp h2).1
        simp at this
        omega
      subst e
      simp [k.len] at h1 h2
      subst h1
      subst h2
      exact ⟨o, upd_same, r.mono (Stp.add h)⟩
  nb := fun a ha => by
    have ha : a ∈ w.rho ++ [p] := ha
    rcases List.mem_append.mp ha with z | z
    · exact k.nb a z
    · have e : a = p := by simpa using z
      subst e
      exact (k.new h).2
  bt := fun a z => by
    obtain ⟨u, e⟩ := k.bt a z
    exact ⟨u, by rw [upd_ne (ne_of_none e h)]; exact e⟩
/-- a thing of the store is changed -/
theorem Stp.put {a : Addr} {o : HO} (ha : a ∈ w.rho) : Stp w H w (upd H a o) :=
  ⟨fun _ _ _ _ => Iff.rfl, ⟨[], by simp⟩, fun b u e n => ⟨by rw [upd_ne (fun z => n (by rw [z]; exact ha))]; exact e, n⟩⟩
theorem Ok.put (k : Ok K w S H) {i : Nat} {a : Addr} {o : HO} {x : Ob} (h : w.rho[i]? = some a) (r : RpO K w H x o) : Ok K w (S.set i x) (upd H a o) where
  len := by simp [k.len]
  nd := k.nd
  ob := fun j b y h1 h2 => by
    have hm : a ∈ w.rho := List.mem_of_getElem? h
    by_cases hj : i = j
    · subst hj
      rw [h] at h1
      cases h1
      have hl := (List.getElem?_eq_some_iff.mp h).1
      rw [List.getElem?_set_self (by rw [← k.len]; exact hl)] at h2
      cases h2
      exact ⟨o, upd_same, r.mono (Stp.put hm)⟩
    · rw [List.getElem?_set_ne hj] at h2
      obtain ⟨u, e, q⟩ := k.ob j b y h1 h2
      have hba : b ≠ a := fun z => hj (by
        subst z
        obtain ⟨l1, e1⟩ := List.getElem?_eq_some_iff.mp h
        obtain ⟨l2, e2⟩ := List.getElem?_eq_some_iff.mp h1
        exact (List.getElem_inj k.nd).mp (e1.trans e2.symm))
      exact ⟨u, by rw [upd_ne hba]; exact e, q.mono (Stp.put hm)⟩
  nb := k.nb
  bt := fun b z => by
    obtain ⟨u, e⟩ := k.bt b z
    have hba : b ≠ a := fun q => k.nb a (List.mem_of_getElem? h) (q ▸ z)
    exact ⟨u, by rw [upd_ne hba]; exact e⟩

/-- the slots -/
def RpE (K : PySem.W.Frag) (w : Wd) (H : Hp) (e : Ev) (σ : L2.St) : Prop := e.length = σ.length ∧ ∀ (i : Nat) (d : D), e[i]? = some (some d) → ∃ v, σ[i]? = some (some v) ∧ Rp K w H d v
variable {e : Ev} {σ : L2.St}
theorem RpE.mono (s : Stp w H w' H') (r : RpE K w H e σ) : RpE K w' H' e σ := ⟨r.1, fun i d h => by
  obtain ⟨v, h1, h2⟩ := r.2 i d h
  exact ⟨v, h1, h2.mono s⟩⟩
theorem RpE.set {i : Nat} (r : RpE K w H e σ) (q : Rp K w H d v) : RpE K w H (e.set i (some d)) (σ.set i (some v)) := ⟨by simp [r.1], fun j x h => by
  by_cases hj : i = j
  · subst hj
    by_cases hl : i < e.length
    · rw [List.getElem?_set_self hl] at h
      cases h
      exact ⟨v, by rw [List.getElem?_set_self (by rw [← r.1]; exact hl)], q⟩
    · rw [List.getElem?_eq_none (by simpa using hl)] at h; cases h
  · rw [List.getElem?_set_ne hj] at h
    rw [List.getElem?_set_ne hj]
    exact r.2 j x h⟩
theorem RpE.forget {i : Nat} (r : RpE K w H e σ) : RpE K w H (e.set i none) (σ.set i none) := ⟨by simp [r.1], fun j x h => by
  by_cases hj : i = j
  · subst hj
    by_cases hl : i < e.length
    · rw [List.getElem?_set_self hl] at h
      cases h
    · rw [List.getElem?_eq_none (by simpa using hl)] at h; cases h
  · rw [List.getElem?_set_ne hj] at h
    rw [List.getElem?_set_ne hj]
    exact r.2 j x h⟩
end

/-! ### the judgements -/
abbrev ME := Ev → Store → Option (D × Store)
abbrev MT := Ev → Store → Option (Bool × Store)
abbrev ML := Ev → Store → Option (List D × Store)
def tD (K : PySem.W.Frag) (m : ME) : TE := fun σ H Q => ∃ w e S d S', RpE K w H e σ ∧ Ok K w S H ∧ m e S = some (d, S') ∧ ∀ w' H' v, Stp w H w' H' → Ok K w' S' H' → Rp K w' H' d v → Q v H'
def tB (K : PySem.W.Frag) (m : MT) : TT := fun σ H Q => ∃ w e S b S', RpE K w H e σ ∧ Ok K w S H ∧ m e S = some (b, S') ∧ ∀ w' H', Stp w H w' H' → Ok K w' S' H' → Q b H'
def tL (K : PySem.W.Frag) (m : ML) : TA := fun σ H Q => ∃ w e S ds S', RpE K w H e σ ∧ Ok K w S H ∧ m e S = some (ds, S') ∧ ∀ w' H' vs, Stp w H w' H' → Ok K w' S' H' → RpL K w' H' ds vs → Q vs H'
/-- a new list that nobody else holds -/
def tF (K : PySem.W.Frag) (m : ML) : TE := fun σ H Q => ∃ w e S ds S', RpE K w H e σ ∧ Ok K w S H ∧ m e S = some (ds, S') ∧ ∀ w' H' p vs, Stp w H w' H' → Ok K w' S' H' → H' p = none → RpL K w' H' ds vs → Q (.ref p) (upd H' p (.lst vs))
abbrev AE (X : Cx) (e : Expr) (m : ME) : Prop := PE X e (tD X.K m)
abbrev AT (X : Cx) (e : Expr) (m : MT) : Prop := PT X e (tB X.K m)
abbrev AW (X : Cx) (e : Expr) (m : MT) : Prop := PW X e (tB X.K m)
abbrev AA (X : Cx) (es : List Expr) (m : ML) : Prop := PA X es (tL X.K m)
abbrev AF (X : Cx) (e : Expr) (m : ML) : Prop := PE X e (tF X.K m)

inductive Fl where
  | nx (e : Ev)
  | rt (d : D)
  | bk (e : Ev)
  | ct (e : Ev)
abbrev MS := Ev → Store → Option (Fl × Store)
def FlOk (K : PySem.W.Frag) (D : Ends) (w : Wd) (H : Hp) : Fl → Prop
  | .nx e => ∀ σ, RpE K w H e σ → D.nx σ H
  | .rt d => ∀ v, Rp K w H d v → D.rt v H
  | .bk e => ∀ σ, RpE K w H e σ → D.bk σ H
  | .ct e => ∀ σ, RpE K w H e σ → D.ct σ H
def tS (K : PySem.W.Frag) (m : MS) : TS := fun D σ H => ∃ w e S f S', RpE K w H e σ ∧ Ok K w S H ∧ m e S = some (f, S') ∧ ∀ w' H', Stp w H w' H' → Ok K w' S' H' → FlOk K D w' H' f
abbrev AS (X : Cx) (st : Stmt) (m : MS) : Prop := PS X st (tS X.K m)
abbrev ASs (X : Cx) (st : List Stmt) (m : MS) : Prop := PSs X st (tS X.K m)

theorem PE.imp {X : Cx} {e : Expr} {t t' : TE} (h : PE X e t) (i : ∀ σ H Q, t' σ H Q → t σ H Q) : PE X e t' := ⟨fun pins s σ H Q I q => h.run pins s σ H Q I (i σ H Q q)⟩
theorem PT.imp {X : Cx} {e : Expr} {t t' : TT} (h : PT X e t) (i : ∀ σ H Q, t' σ H Q → t σ H Q) : PT X e t' := ⟨fun pins s σ H Q I q => h.run pins s σ H Q I (i σ H Q q)⟩
theorem PW.imp {X : Cx} {e : Expr} {t t' : TT} (h : PW X e t) (i : ∀ σ H Q, t' σ H Q → t σ H Q) : PW X e t' := ⟨fun u pins s σ H Q I q => h.run u pins s σ H Q I (i σ H Q q)⟩
theorem PA.imp {X : Cx} {e : List Expr} {t t' : TA} (h : PA X e t) (i : ∀ σ H Q, t' σ H Q → t σ H Q) : PA X e t' := ⟨fun u pins s σ H Q I q => h.run u pins s σ H Q I (i σ H Q q)⟩
theorem PS.imp {X : Cx} {st : Stmt} {t t' : TS} (h : PS X st t) (i : ∀ D σ H, t' D σ H → t D σ H) : PS X st t' := ⟨fun pins s σ H D I q => h.run pins s σ H D I (i D σ H q)⟩
theorem PSs.imp {X : Cx} {st : List Stmt} {t t' : TS} (h : PSs X st t) (i : ∀ D σ H, t' D σ H → t D σ H) : PSs X st t' := ⟨fun pins s σ H D I q => h.run pins s σ H D I (i D σ H q)⟩
theorem PI.imp {X : Cx} {tg it : Expr} {t t' : TI} (h : PI X tg it t) (i : ∀ σ H R, t' σ H R → t σ H R) : PI X tg it t' := ⟨fun pins s σ H R I q => h.run pins s σ H R I (i σ H R q)⟩

/-! ### expressions -/
section
variable {X : Cx} {pos : Pos}
def mV (i : Nat) : ME := fun e S => match e[i]? with
  | some (some d) => some (d, S)
  | _ => none
def mC (d : D) : ME := fun _ S => some (d, S)
theorem ae_var {i : Nat} {x : Str} (h : PE X (.Name x pos) (tVar i)) : AE X (.Name x pos) (mV i) := PE.imp h fun σ H Q ⟨w, e, S, d, S', r, k, hm, q⟩ => by
  unfold mV at hm
  split at hm
  · rename_i d' he
    cases hm
    obtain ⟨v, h1, h2⟩ := r.2 i d he
    exact ⟨v, h1, q w H v .refl k h2⟩
  · cases hm
theorem av (i : Nat) {x : Str} (hN : X.N[i]? = some x := by rfl) (hv : Vis X.env.scope x := by first | exact Or.inl rfl | exact Or.inr (Or.inl rfl) | exact Or.inr (Or.inr rfl)) (hd : (x == ("__debug__" : Str)) = false := by decide)
    (hcd : (x == ("__classdict__" : Str)) = false := by decide) : AE X (.Name x pos) (mV i) := ae_var (pe_var hN hv hd hcd)
theorem ae_const {e : Expr} {d : D} {v : V} (h : PE X e (tC v)) (r : ∀ w H, Rp X.K w H d v) : AE X e (mC d) := PE.imp h fun σ H Q ⟨w, e, S, d', S', _, k, hm, q⟩ => by
  cases hm
  exact q w H v .refl k (r w H)
theorem ae_int {i j} : AE X (.Constant (.int i) j pos) (mC (.int i)) := ae_const pe_int fun _ _ => .int i
theorem ae_bl {b j} : AE X (.Constant (.bool b) j pos) (mC (.bl b)) := ae_const pe_bl fun _ _ => .bl b
theorem ae_non {j} : AE X (.Constant .none j pos) (mC .non) := ae_const pe_non fun _ _ => .non
theorem ae_str {x j} : AE X (.Constant (.str x) j pos) (mC (.str x)) := ae_const pe_str fun _ _ => .str x

/-- two in a row -/
def mBin (f : D → D → Store → Option (D × Store)) (ma mb : ME) : ME := fun e S => (ma e S).bind fun (a, S1) => (mb e S1).bind fun (b, S2) => f a b S2
/-- an operator by values does what f says -/
def OpS (K : PySem.W.Frag) (r : R2) (f : D → D → Store → Option (D × Store)) : Prop := ∀ (w : Wd) (S : Store) (H : Hp) (a b d : D) (x y : V) (S' : Store) (Q : VK), Ok K w S H → Rp K w H a x → Rp K w H b y → f a b S = some (d, S') →
  (∀ w' H' v, Stp w H w' H' → Ok K w' S' H' → Rp K w' H' d v → Q v H') → r x y H Q
theorem bin_imp {K : PySem.W.Frag} {r : R2} {f : D → D → Store → Option (D × Store)} {ma mb : ME} (h : OpS K r f) {σ : L2.St} {H : Hp} {Q : VK} (q : tD K (mBin f ma mb) σ H Q) : tOp r (tD K ma) (tD K mb) σ H Q := by
  obtain ⟨w, e, S, d, S', re, k, hm, q⟩ := q
  unfold mBin at hm
  obtain ⟨⟨a, S1⟩, h1, hm⟩ := Option.bind_eq_some_iff.mp hm
  obtain ⟨⟨b, S2⟩, h2, hm⟩ := Option.bind_eq_some_iff.mp hm
  refine ⟨w, e, S, a, S1, re, k, h1, fun w1 H1 x s1 k1 ra => ⟨w1, e, S1, b, S2, re.mono s1, k1, h2, fun w2 H2 y s2 k2 rb => ?_⟩⟩
  exact h w2 S2 H2 a b d x y S' Q k2 (ra.mono s2) rb hm fun w' H' v s3 k3 rd => q w' H' v ((s1.trans s2).trans s3) k3 rd
theorem ae_op {a b : Expr} {op : Operator} {r : R2} {f : D → D → Store → Option (D × Store)} {ma mb : ME} (ho : OpR X (binaryOp op) r) (h : OpS X.K r f) (ha : AE X a ma) (hb : AE X b mb) : AE X (.BinOp a op b pos) (mBin f ma mb) :=
  PE.imp (pe_op ho ha hb) fun _ _ _ => bin_imp h
theorem ae_cmp {a b : Expr} {op : CmpOp} {r : R2} {f : D → D → Store → Option (D × Store)} {ma mb : ME} (ho : OpR X (compareOp op) r) (h : OpS X.K r f) (ha : AE X a ma) (hb : AE X b mb) (hm : behindInMarks op b = false) : AE X (.Compare a [op] [b] pos) (mBin f ma mb) :=
  PE.imp (pe_cmpR ho ha hb hm) fun _ _ _ => bin_imp h
theorem ae_ix {a b : Expr} {r : R2} {f : D → D → Store → Option (D × Store)} {ma mb : ME} (ho : IxR X r) (h : OpS X.K r f) (ha : AE X a ma) (hb : AE X b mb) (hs : PlainIx b) : AE X (.Subscript a b pos) (mBin f ma mb) :=
  PE.imp (pe_ix ho ha hb hs) fun _ _ _ => bin_imp h
theorem OpS.or {K : PySem.W.Frag} {r r' : R2} {f g : D → D → Store → Option (D × Store)} (h : OpS K r f) (h' : OpS K r' g) : OpS K (fun x y H Q => r x y H Q ∨ r' x y H Q) fun a b S => (f a b S).or (g a b S) := fun w S H a b d x y S' Q k ra rb hm q => by
  have hm : (f a b S).or (g a b S) = some (d, S') := hm
  cases hf : f a b S with
  | some z =>
    rw [hf] at hm
    have hm : z = (d, S') := by simpa using hm
    exact .inl (h w S H a b d x y S' Q k ra rb (hf.trans (congrArg some hm)) q)
  | none =>
    rw [hf] at hm
    exact .inr (h' w S H a b d x y S' Q k ra rb (by simpa using hm) q)
/-- a value as a test -/
def mTV (m : ME) : MT := fun e S => (m e S).bind fun (d, S1) => match d with
  | .bl b => some (b, S1)
  | _ => none
theorem at_val {e : Expr} {m : ME} (h : AE X e m) (he : ∀ whole, isTrue e X.env whole = (do let v ← whole; standAt e.pos; holding [v] (truthy v)) := by intro _; rfl) : AT X e (mTV m) :=
  PT.imp (pt_val h he) fun σ H Q ⟨w, e, S, b, S', re, k, hm, q⟩ => by
    unfold mTV at hm
    obtain ⟨⟨d, S1⟩, h1, hm⟩ := Option.bind_eq_some_iff.mp hm
    simp only at hm
    split at hm
    · cases hm
      exact ⟨w, e, S, _, _, re, k, h1, fun w' H' v s' k' r' => ⟨_, r'.bl_inv, q w' H' s' k'⟩⟩
    · cases hm
theorem tTest_imp {K : PySem.W.Frag} {m : ME} {σ : L2.St} {H : Hp} {Q : Bool → Hp → Prop} (h : tB K (mTV m) σ H Q) : tTest (tD K m) σ H Q := by
  obtain ⟨w, e, S, b, S', re, k, hm, q⟩ := h
  unfold mTV at hm
  obtain ⟨⟨d, S1⟩, h1, hm⟩ := Option.bind_eq_some_iff.mp hm
  simp only at hm
  split at hm
  · cases hm
    exact ⟨w, e, S, _, _, re, k, h1, fun w' H' v s' k' r' => ⟨_, r'.bl_inv, q w' H' s' k'⟩⟩
  · cases hm
theorem at_cmp {a b : Expr} {op : CmpOp} {r : R2} {f : D → D → Store → Option (D × Store)} {ma mb : ME} (ho : OpR X (compareOp op) r) (h : OpS X.K r f) (ha : AE X a ma) (hb : AE X b mb) (hm : behindInMarks op b = false) : AT X (.Compare a [op] [b] pos) (mTV (mBin f ma mb)) :=
  PT.imp (pt_cmpR ho ha hb hm) fun σ H Q q => by
    obtain ⟨w, e, S, b, S', re, k, hm, q⟩ := tTest_imp (K := X.K) q
    exact bin_imp h ⟨w, e, S, b, S', re, k, hm, q⟩
end
end DV

namespace DV
open PySem PySem.Spec PyProof.Rows L2

abbrev LIM : Nat := 16777216
theorem lim_eq : sizeLine = LIM := sizeLine_eq
/-- the items of a list or tuple -/
def seqOf : D → Store → Option (List D)
  | .tup xs, _ => some xs
  | .lst xs, _ => some xs
  | .fr xs, _ => some xs
  | .ref i, S => match S[i]? with
    | some (.lst xs) => some xs
    | _ => none
  | _, _ => none
section
variable {K : PySem.W.Frag} {w w' : Wd} {H H' : Hp} {S S' : Store} {d : D} {v : V} {ds : List D}
theorem Ok.lst (k : Ok K w S H) {i : Nat} {a : Addr} {ds : List D} (h : w.rho[i]? = some a) (hs : S[i]? = some (.lst ds)) : ∃ vs, H a = some (.lst vs) ∧ RpL K w H ds vs := by
  obtain ⟨x, h1, h2⟩ := k.ob i a _ h hs
  cases h2 with
  | lst r => exact ⟨_, h1, r⟩
theorem seq_rd (k : Ok K w S H) (r : Rp K w H d v) (h : seqOf d S = some ds) : ∃ a vs, v = .ref a ∧ (SqL K H a vs ∨ SqT K H a vs) ∧ RpL K w H ds vs := by
  unfold seqOf at h
  split at h
  · cases h
    obtain ⟨a, vs, e, h1, h2⟩ := r.tup_inv
    exact ⟨a, vs, e, .inr h1, h2⟩
  · cases h
    obtain ⟨a, vs, e, _, h1, h2⟩ := r.lst_inv
    exact ⟨a, vs, e, .inl (.of h1), h2⟩
  · cases h
    obtain ⟨a, vs, e, h1, h2⟩ := r.fr_inv
    exact ⟨a, vs, e, .inl h1, h2⟩
  · split at h
    · cases h
      obtain ⟨a, e, h1⟩ := r.ref_inv
      obtain ⟨vs, h2, h3⟩ := k.lst h1 (by assumption)
      exact ⟨a, vs, e, .inl (.of h2), h3⟩
    · cases h
  · cases h
/-- lists alone -/
def lstOf : D → Store → Option (List D)
  | .lst xs, _ => some xs
  | .fr xs, _ => some xs
  | .ref i, S => match S[i]? with
    | some (.lst xs) => some xs
    | _ => none
  | _, _ => none
theorem lst_rd (k : Ok K w S H) (r : Rp K w H d v) (h : lstOf d S = some ds) : ∃ a vs, v = .ref a ∧ SqL K H a vs ∧ RpL K w H ds vs := by
  unfold lstOf at h
  split at h
  · cases h
    obtain ⟨a, vs, e, _, h1, h2⟩ := r.lst_inv
    exact ⟨a, vs, e, .of h1, h2⟩
  · cases h
    obtain ⟨a, vs, e, h1, h2⟩ := r.fr_inv
    exact ⟨a, vs, e, h1, h2⟩
  · split at h
    · cases h
      obtain ⟨a, e, h1⟩ := r.ref_inv
      obtain ⟨vs, h2, h3⟩ := k.lst h1 (by assumption)
      exact ⟨a, vs, e, .of h2, h3⟩
    · cases h
  · cases h
/-- .. tracked ones -/
def lstTr : D → Store → Option (List D)
  | .lst xs, _ => some xs
  | .ref i, S => match S[i]? with
    | some (.lst xs) => some xs
    | _ => none
  | _, _ => none
theorem lst_tr (k : Ok K w S H) (r : Rp K w H d v) (h : lstTr d S = some ds) : ∃ a vs, v = .ref a ∧ H a = some (.lst vs) ∧ RpL K w H ds vs := by
  unfold lstTr at h
  split at h
  · cases h
    obtain ⟨a, vs, e, _, h1, h2⟩ := r.lst_inv
    exact ⟨a, vs, e, h1, h2⟩
  · split at h
    · cases h
      obtain ⟨a, e, h1⟩ := r.ref_inv
      obtain ⟨vs, h2, h3⟩ := k.lst h1 (by assumption)
      exact ⟨a, vs, e, h2, h3⟩
    · cases h
  · cases h
/-- the same value goes on -/
def Post (K : PySem.W.Frag) (w : Wd) (H : Hp) (S' : Store) (d : D) (Q : VK) : Prop := ∀ w' H' v, Stp w H w' H' → Ok K w' S' H' → Rp K w' H' d v → Q v H'
theorem Post.here {Q : VK} (q : Post K w H S d Q) (k : Ok K w S H) (r : Rp K w H d v) : Q v H := q w H v .refl k r
theorem Post.newT {Q : VK} {ds : List D} (q : Post K w H S (.tup ds) Q) (k : Ok K w S H) {p : Addr} {o : Obj} {vs : List V} (hp : H p = none) (f : Firm o) (r : RpL K w H ds vs) : Q (.ref p) (upd H p (.frz o (.tup vs))) :=
  q w _ _ (.new hp) (k.laid hp) (.tup (k.new hp) ⟨o, upd_same, f⟩ (r.mono (.new hp)))
theorem Post.newL {Q : VK} {ds : List D} (q : Post K w H S (.lst ds) Q) (k : Ok K w S H) {p : Addr} {vs : List V} (hp : H p = none) (r : RpL K w H ds vs) : Q (.ref p) (upd H p (.lst vs)) :=
  q w _ _ (.new hp) (k.laid hp) (.lst (k.new hp) upd_same (r.mono (.new hp)))
theorem Post.addL {Q : VK} {ds : List D} (q : Post K w H (S ++ [.lst ds]) (.ref S.length) Q) (k : Ok K w S H) {p : Addr} {vs : List V} (hp : H p = none) (r : RpL K w H ds vs) : Q (.ref p) (upd H p (.lst vs)) :=
  q _ _ _ (.add hp) (k.add hp (.lst r)) (.ref (by
    show (w.rho ++ [p])[S.length]? = some p
    rw [← k.len, List.getElem?_append_right (Nat.le_refl _)]
    simp))
end

/-! ### operators -/
section
variable {X : Cx} {K : PySem.W.Frag}
def fAdd : D → D → Store → Option (D × Store)
  | .int i, .int j, S => some (.int (i + j), S)
  | .tup a, .tup b, S => if a.length + b.length ≤ LIM then some (.tup (a ++ b), S) else none
  | .str a, .str b, S => if a.length + b.length ≤ LIM then some (.str (a ++ b), S) else none
  | a, b, S => (lstTr a S).bind fun xs => (lstTr b S).bind fun ys => if xs.length + ys.length ≤ LIM then some (.lst (xs ++ ys), S) else none
theorem opS_add : ∃ r, OpR X (binaryOp .Add) r ∧ OpS X.K r fAdd := by
  refine ⟨_, op_add.or (op_catAF.or (op_add_str.or op_cat)), ?_⟩
  intro w S H a b d x y S' Q k ra rb hm q
  unfold fAdd at hm
  split at hm
  · cases hm
    exact .inl ⟨_, _, ra.int_inv, rb.int_inv, q w H _ .refl k (.int _)⟩
  · split at hm
    · cases hm
      rename_i hz
      obtain ⟨p, vs, e1, h1, r1⟩ := ra.tup_inv
      obtain ⟨p2, us, e2, h2, r2⟩ := rb.tup_inv
      subst e1 e2
      refine .inr (.inl ⟨p, p2, vs, us, rfl, rfl, h1, h2, by rw [lim_eq, ← r1.length, ← r2.length]; exact hz, fun e => ?_, fun _ e => ?_, fun _ _ z ob hz fm => ?_⟩)
      · subst e
        cases r1
        exact q w H _ .refl k rb
      · subst e
        cases r2
        rw [List.append_nil] at q
        exact q w H _ .refl k ra
      · exact Post.newT q k hz fm (r1.append r2)
    · cases hm
  · split at hm
    · cases hm
      rename_i hz
      exact .inr (.inr (.inl ⟨_, _, ra.str_inv, rb.str_inv, by rw [lim_eq]; exact hz, q w H _ .refl k (.str _)⟩))
    · cases hm
  · obtain ⟨xs, h1, hm⟩ := Option.bind_eq_some_iff.mp hm
    obtain ⟨ys, h2, hm⟩ := Option.bind_eq_some_iff.mp hm
    split at hm
    · cases hm
      rename_i hz
      obtain ⟨p, vs, e1, h1, r1⟩ := lst_tr k ra h1
      obtain ⟨p2, us, e2, h2, r2⟩ := lst_tr k rb h2
      refine .inr (.inr (.inr ⟨p, p2, vs, us, e1, e2, h1, h2, by rw [lim_eq, ← r1.length, ← r2.length]; assumption, fun z hz => ?_⟩))
      exact Post.newL q k hz (r1.append r2)
    · cases hm
def fSub : D → D → Store → Option (D × Store)
  | .int i, .int j, S => some (.int (i - j), S)
  | _, _, _ => none
theorem opS_sub : ∃ r, OpR X (binaryOp .Sub) r ∧ OpS X.K r fSub := ⟨_, op_sub, by
  intro w S H a b d x y S' Q k ra rb hm q
  unfold fSub at hm
  split at hm
  · cases hm
    exact ⟨_, _, ra.int_inv, rb.int_inv, q w H _ .refl k (.int _)⟩
  · cases hm⟩
abbrev I64 (i : Int) : Prop := -(2 ^ 64) < i ∧ i < 2 ^ 64
/-- a bound that nothing here comes near -/
@[irreducible] def BIG : Nat := 2 ^ 8000
theorem BIG_eq : BIG = 2 ^ 8000 := by unfold BIG; rfl
abbrev MulOk (i j : Int) : Prop := (I64 i ∨ I64 j) ∨ (i.natAbs < BIG ∧ j.natAbs < BIG)
theorem mulOk_int {i j : Int} (h : MulOk i j) : IntMulOk i j := by
  rcases h with (⟨h1, h2⟩ | ⟨h1, h2⟩) | ⟨h1, h2⟩
  · exact .of_left (intBits_le_64 h1 h2)
  · exact .of_right (intBits_le_64 h1 h2)
  · have bits : ∀ {k : Int}, k.natAbs < BIG → Builtin.Int.intBits k ≤ 8000 := by
      intro k hk
      rw [BIG_eq] at hk
      unfold Builtin.Int.intBits
      split
      · exact Nat.zero_le _
      · rcases Nat.eq_zero_or_pos k.natAbs with h0 | hp
        · rw [h0]; decide
        · have := (Nat.log2_lt (by omega)).mpr hk
          omega
    exact IntMulOk.of_bits (Nat.le_trans (bits h1) (by decide)) (Nat.le_trans (bits h2) (by decide))
theorem op_mulB {X : Cx} : OpR X (binaryOp .Mult) (rI MulOk fun i j => .int (i * j)) := opI fun _ _ _ _ _ _ _ hc q => mul_int q (mulOk_int hc)
theorem op_fdivB {X : Cx} : OpR X (binaryOp .FloorDiv) (rI (fun _ j => 0 < j ∧ j.natAbs < BIG) fun i j => .int (i / j)) := opI fun i j _ _ _ _ _ hc q => by
  have h1 : (0 : Int) < j := hc.1
  have h2 : j.natAbs < BIG := hc.2
  refine floordiv_int (by omega) (by rw [Int.fdiv_eq_ediv_of_nonneg i (by omega)]; exact q) (.inl (PyProof.noPylong_of_log2 ?_))
  rw [BIG_eq] at h2
  have := (Nat.log2_lt (show j.natAbs ≠ 0 by omega)).mpr h2
  omega
def fMul : D → D → Store → Option (D × Store)
  | .int i, .int j, S => if MulOk i j then some (.int (i * j), S) else none
  | a, .int j, S => (lstTr a S).bind fun xs => if -(2 ^ 63) ≤ j ∧ j < 2 ^ 63 ∧ xs.length * j.toNat ≤ LIM then some (.lst (List.replicate j.toNat xs).flatten, S) else none
  | _, _, _ => none
theorem opS_mul : ∃ r, OpR X (binaryOp .Mult) r ∧ OpS X.K r fMul := by
  refine ⟨_, op_mulB.or op_rep, ?_⟩
  intro w S H a b d x y S' Q k ra rb hm q
  unfold fMul at hm
  split at hm
  · split at hm
    · cases hm
      rename_i hz
      exact .inl ⟨_, _, ra.int_inv, rb.int_inv, hz, q w H _ .refl k (.int _)⟩
    · cases hm
  · obtain ⟨xs, h1, hm⟩ := Option.bind_eq_some_iff.mp hm
    split at hm
    · cases hm
      rename_i hz
      obtain ⟨p, vs, e1, h1, r1⟩ := lst_tr k ra h1
      refine .inr ⟨p, _, vs, e1, rb.int_inv, h1, hz.1, hz.2.1, by rw [lim_eq, ← r1.length]; exact hz.2.2, fun z hz => ?_⟩
      exact Post.newL q k hz (r1.rep _)
    · cases hm
  · cases hm
def fMod : D → D → Store → Option (D × Store)
  | .int i, .int j, S => if 0 < j then some (.int (i % j), S) else none
  | _, _, _ => none
theorem opS_mod : ∃ r, OpR X (binaryOp .Mod) r ∧ OpS X.K r fMod := ⟨_, op_mod, by
  intro w S H a b d x y S' Q k ra rb hm q
  unfold fMod at hm
  split at hm
  · split at hm
    · cases hm
      exact ⟨_, _, ra.int_inv, rb.int_inv, by assumption, q w H _ .refl k (.int _)⟩
    · cases hm
  · cases hm⟩
def fDiv : D → D → Store → Option (D × Store)
  | .int i, .int j, S => if 0 < j ∧ j.natAbs < BIG then some (.int (i / j), S) else none
  | _, _, _ => none
theorem opS_div : ∃ r, OpR X (binaryOp .FloorDiv) r ∧ OpS X.K r fDiv := ⟨_, op_fdivB, by
  intro w S H a b d x y S' Q k ra rb hm q
  unfold fDiv at hm
  split at hm
  · split at hm
    · cases hm
      exact ⟨_, _, ra.int_inv, rb.int_inv, by assumption, q w H _ .refl k (.int _)⟩
    · cases hm
  · cases hm⟩
def fPow : D → D → Store → Option (D × Store)
  | .int i, .int j, S => if 0 ≤ j ∧ j ≤ 1000000 ∧ i.natAbs < 2 ^ 64 then some (.int (i ^ j.toNat), S) else none
  | _, _, _ => none
theorem opS_pow : ∃ r, OpR X (binaryOp .Pow) r ∧ OpS X.K r fPow := ⟨_, op_pow, by
  intro w S H a b d x y S' Q k ra rb hm q
  unfold fPow at hm
  split at hm
  · split at hm
    · cases hm
      exact ⟨_, _, ra.int_inv, rb.int_inv, by assumption, q w H _ .refl k (.int _)⟩
    · cases hm
  · cases hm⟩
/-- an operator of two ints that gives a bool -/
def fII (p : Int → Int → Bool) : D → D → Store → Option (D × Store)
  | .int i, .int j, S => some (.bl (p i j), S)
  | _, _, _ => none
theorem fII_s (p : Int → Int → Bool) : OpS K (rI0 fun i j => .bl (p i j)) (fII p) := by
  intro w S H a b d x y S' Q k ra rb hm q
  unfold fII at hm
  split at hm
  · cases hm
    exact ⟨_, _, ra.int_inv, rb.int_inv, q w H _ .refl k (.bl _)⟩
  · cases hm
abbrev fLt := fII fun i j => decide (i < j)
abbrev fLe := fII fun i j => decide (i ≤ j)
abbrev fGt := fII fun i j => decide (j < i)
abbrev fGe := fII fun i j => decide (j ≤ i)
/-- x is None -/
def fIsN : D → D → Store → Option (D × Store)
  | .non, .non, S => some (.bl true, S)
  | .bl _, .non, S | .int _, .non, S | .str _, .non, S | .tup _, .non, S | .lst _, .non, S | .ref _, .non, S => some (.bl false, S)
  | .bl a, .bl b, S => some (.bl (decide (a = b)), S)
  | _, _, _ => none
theorem isN_aux {w : Wd} {H : Hp} {a : D} {x : V} (r : Rp K w H a x) (h : a ≠ .non) : decide (x = V.non) = false := by
  apply decide_eq_false
  rintro rfl
  cases r
  exact h rfl
theorem fIsN_s : OpS K (fun x y H Q => (y = .non ∧ Q (.bl (decide (x = .non))) H) ∨ rIsB x y H Q) fIsN := by
  intro w S H a b d x y S' Q k ra rb hm q
  unfold fIsN at hm
  split at hm
  all_goals first
    | cases hm; done
    | (cases hm; rw [rb.non_inv]; refine .inl ⟨rfl, ?_⟩; first | (rw [isN_aux ra (by simp)]; exact q w H _ .refl k (.bl _)) | (rw [ra.non_inv]; exact q w H _ .refl k (.bl _)))
    | (cases hm; exact .inr ⟨_, _, ra.bl_inv, rb.bl_inv, q w H _ .refl k (.bl _)⟩)
def fNotN : D → D → Store → Option (D × Store) := fun a b S => (fIsN a b S).bind fun (d, S) => match d with
  | .bl k => some (.bl (!k), S)
  | _ => none
theorem fNotN_s : OpS K (fun x y H Q => (y = .non ∧ Q (.bl (!decide (x = .non))) H) ∨ rNotB x y H Q) fNotN := by
  intro w S H a b d x y S' Q k ra rb hm q
  unfold fNotN at hm
  obtain ⟨⟨d1, S1⟩, h1, hm⟩ := Option.bind_eq_some_iff.mp hm
  simp only at hm
  split at hm
  · cases hm
    unfold fIsN at h1
    split at h1
    all_goals first
      | cases h1; done
      | (cases h1; rw [rb.non_inv]; refine .inl ⟨rfl, ?_⟩; first | (rw [isN_aux ra (by simp)]; exact q w H _ .refl k (.bl _)) | (rw [ra.non_inv]; exact q w H _ .refl k (.bl _)))
      | (cases h1; exact .inr ⟨_, _, ra.bl_inv, rb.bl_inv, q w H _ .refl k (.bl _)⟩)
  · cases hm
end
end DV

namespace DV
open PySem PySem.Spec PyProof.Rows L2

/-! ### content as data; equality -/
mutual
def D.py : D → PyData
  | .non => .none
  | .bl b => .bool b
  | .int i => .int i
  | .str x => .str x
  | .tup xs => .tuple (D.pyL xs)
  | .lst xs => .list (D.pyL xs)
  | _ => .none
def D.pyL : List D → List PyData
  | [] => []
  | x :: xs => D.py x :: D.pyL xs
end
theorem D.pyL_map : ∀ xs : List D, D.pyL xs = xs.map D.py
  | [] => by simp [D.pyL]
  | x :: xs => by simp [D.pyL, D.pyL_map xs]
mutual
/-- plain content, not too deep -/
def D.fit (n : Nat) : D → Bool
  | .non => true
  | .bl _ => true
  | .int _ => true
  | .str x => PyData.strOk x
  | .tup xs => match n with
    | 0 => false
    | n + 1 => D.fitL n xs
  | .lst xs => match n with
    | 0 => false
    | n + 1 => D.fitL n xs
  | _ => false
def D.fitL (n : Nat) : List D → Bool
  | [] => true
  | x :: xs => D.fit n x && D.fitL n xs
end
theorem D.fitL_all {n : Nat} : ∀ xs : List D, D.fitL n xs = xs.all (D.fit n)
  | [] => by simp [D.fitL]
  | x :: xs => by simp [D.fitL, D.fitL_all xs]
mutual
theorem D.fit_lay : ∀ (d : D) (n : Nat), D.fit n d = true → d.py.canLay0 = true ∧ d.py.depth ≤ n
  | .non, n, _ => by simp [D.py, PyData.canLay0, PyData.depth]
  | .bl _, n, _ => by simp [D.py, PyData.canLay0, PyData.depth]
  | .int _, n, _ => by simp [D.py, PyData.canLay0, PyData.depth]
  | .str x, n, h => by
    simp only [D.fit] at h
    simp [D.py, PyData.canLay0, PyData.depth, h]
  | .tup xs, 0, h => by simp [D.fit] at h
  | .tup xs, n + 1, h => by
    simp only [D.fit] at h
    have := D.fitL_lay xs n h
    simp only [D.py, PyData.canLay0, PyData.depth]
    exact ⟨this.1, by omega⟩
  | .lst xs, 0, h => by simp [D.fit] at h
  | .lst xs, n + 1, h => by
    simp only [D.fit] at h
    have := D.fitL_lay xs n h
    simp only [D.py, PyData.canLay0, PyData.depth]
    exact ⟨this.1, by omega⟩
  | .ref _, n, h => by simp [D.fit] at h
  | .fr _, n, h => by simp [D.fit] at h
  | .rng _ _, n, h => by simp [D.fit] at h
theorem D.fitL_lay : ∀ (ds : List D) (n : Nat), D.fitL n ds = true → PyData.canLayAll0 (D.pyL ds) = true ∧ PyData.depthAll (D.pyL ds) ≤ n
  | [], n, _ => by simp [D.pyL, PyData.canLayAll0, PyData.depthAll]
  | d :: ds, n, h => by
    simp only [D.fitL, Bool.and_eq_true] at h
    have h1 := D.fit_lay d n h.1
    have h2 := D.fitL_lay ds n h.2
    simp only [D.pyL, PyData.canLayAll0, PyData.depthAll, Bool.and_eq_true]
    exact ⟨⟨h1.1, h2.1⟩, by omega⟩
end
theorem D.fit_shaped {d : D} {n : Nat} (h : D.fit n d = true) (hn : n ≤ 64 := by decide) : SeqAt.shaped d.py = true := by
  have := D.fit_lay d n h
  show (d.py.canLay0 && decide (d.py.depth ≤ 64)) = true
  rw [Bool.and_eq_true]
  exact ⟨this.1, decide_eq_true (by omega)⟩
theorem D.fitL_shaped {ds : List D} {n : Nat} (h : D.fitL n ds = true) (hn : n < 64 := by decide) : SeqAt.shaped (.list (D.pyL ds)) = true ∧ SeqAt.shaped (.tuple (D.pyL ds)) = true := by
  have := D.fitL_lay ds n h
  constructor
  · show (PyData.canLayAll0 (D.pyL ds) && decide (PyData.depthAll (D.pyL ds) + 1 ≤ 64)) = true
    rw [Bool.and_eq_true]
    exact ⟨this.1, decide_eq_true (by omega)⟩
  · show (PyData.canLayAll0 (D.pyL ds) && decide (PyData.depthAll (D.pyL ds) + 1 ≤ 64)) = true
    rw [Bool.and_eq_true]
    exact ⟨this.1, decide_eq_true (by omega)⟩
section
variable {K : PySem.W.Frag} {w w' : Wd} {H H' : Hp} {S S' : Store}
mutual
theorem Rp.dp : ∀ (d : D) (n : Nat) (v : V), Rp K w H d v → D.fit n d = true → Dp K H v d.py
  | .non, _, _, r, _ => by rw [r.non_inv]; simp only [D.py]; exact .non
  | .bl b, _, _, r, _ => by rw [r.bl_inv]; simp only [D.py]; exact .bl b
  | .int b, _, _, r, _ => by rw [r.int_inv]; simp only [D.py]; exact .int b
  | .str b, _, _, r, _ => by rw [r.str_inv]; simp only [D.py]; exact .str b
  | .tup xs, 0, _, r, h => by simp [D.fit] at h
  | .tup xs, n + 1, _, r, h => by
    obtain ⟨a, vs, rfl, h1, h2⟩ := r.tup_inv
    simp only [D.fit] at h
    simp only [D.py]
    exact .tup h1 (RpL.dp xs n vs h2 h)
  | .lst xs, 0, _, r, h => by simp [D.fit] at h
  | .lst xs, n + 1, _, r, h => by
    obtain ⟨a, vs, rfl, _, h1, h2⟩ := r.lst_inv
    simp only [D.fit] at h
    simp only [D.py]
    exact .lst (.of h1) (RpL.dp xs n vs h2 h)
  | .ref _, n, _, _, h => by simp [D.fit] at h
  | .fr _, n, _, _, h => by simp [D.fit] at h
  | .rng _ _, n, _, _, h => by simp [D.fit] at h
theorem RpL.dp : ∀ (ds : List D) (n : Nat) (vs : List V), RpL K w H ds vs → D.fitL n ds = true → DpAll K H vs (D.pyL ds)
  | [], _, _, r, _ => by cases r; simp only [D.pyL]; exact .nil
  | d :: ds, n, _, r, h => by
    cases r with
    | cons r t =>
      simp only [D.fitL, Bool.and_eq_true] at h
      simp only [D.pyL]
      exact .cons (Rp.dp d n _ r h.1) (RpL.dp ds n _ t h.2)
end
end
/-- Python's == of content -/
def deq (a b : D) : Bool := PyData.eqv a.py b.py
def deqL (a b : List D) : Bool := PyData.eqvAll (D.pyL a) (D.pyL b)
/-- lists of the store are read one level deep -/
def readTop : D → Store → D
  | .ref i, S => match S[i]? with
    | some (.lst xs) => .lst xs
    | _ => .ref i
  | .fr xs, _ => .lst xs
  | d, _ => d
section
variable {K : PySem.W.Frag} {w w' : Wd} {H H' : Hp} {S S' : Store}
theorem Rp.dpTop {d : D} {v : V} {n : Nat} (k : Ok K w S H) (r : Rp K w H d v) (h : D.fit n (readTop d S) = true) : Dp K H v (readTop d S).py := by
  unfold readTop at h ⊢
  split at h
  · rename_i i
    split at h
    · rename_i xs hs
      obtain ⟨a, rfl, h1⟩ := r.ref_inv
      obtain ⟨vs, h2, h3⟩ := k.lst h1 hs
      cases n with
      | zero => simp [D.fit] at h
      | succ n =>
        simp only [D.fit] at h
        simp only [hs, D.py]
        exact .lst (.of h2) (RpL.dp xs n vs h3 h)
    · simp [D.fit] at h
  · rename_i xs
    obtain ⟨a, vs, rfl, h1, h2⟩ := r.fr_inv
    cases n with
    | zero => simp [D.fit] at h
    | succ n =>
      simp only [D.fit] at h
      simp only [D.py]
      exact .lst h1 (RpL.dp xs n vs h2 h)
  · exact Rp.dp _ n _ r h
end
def fEq : D → D → Store → Option (D × Store) := fun a b S => if D.fit 32 (readTop a S) ∧ D.fit 32 (readTop b S) then some (.bl (deq (readTop a S) (readTop b S)), S) else none
def fNe : D → D → Store → Option (D × Store) := fun a b S => if D.fit 32 (readTop a S) ∧ D.fit 32 (readTop b S) then some (.bl (!deq (readTop a S) (readTop b S)), S) else none
section
variable {X : Cx} {K : PySem.W.Frag}
theorem fEq_s : OpS K (rEqD K) fEq := by
  intro w S H a b d x y S' Q k ra rb hm q
  unfold fEq at hm
  split at hm
  · rename_i hf
    cases hm
    exact ⟨_, _, ra.dpTop k hf.1, rb.dpTop k hf.2, D.fit_shaped hf.1, D.fit_shaped hf.2, q w H _ .refl k (.bl _)⟩
  · cases hm
theorem fNe_s : OpS K (rNeD K) fNe := by
  intro w S H a b d x y S' Q k ra rb hm q
  unfold fNe at hm
  split at hm
  · rename_i hf
    cases hm
    exact ⟨_, _, ra.dpTop k hf.1, rb.dpTop k hf.2, D.fit_shaped hf.1, D.fit_shaped hf.2, q w H _ .refl k (.bl _)⟩
  · cases hm
/-- x in a list or tuple; in a dict of ints and texts -/
def rInA (K : PySem.W.Frag) (neg : Bool) : R2 := fun x y H Q => ∃ d ds, Dp K H x d ∧ (Dp K H y (.list ds) ∨ Dp K H y (.tuple ds)) ∧ SeqAt.shaped d = true ∧ SeqAt.shaped (.list ds) = true ∧ Q (.bl (if neg then !(ds.any fun z => PyData.eqv z d) else ds.any fun z => PyData.eqv z d)) H
theorem op_inA (hu : X.A.units + 65 < cLine) : OpR X (compareOp .In) (rInA X.K false) := by
  intro pins s σ H x y v u Q I rx ry h
  obtain ⟨d, ds, hd, he, sd, se, q⟩ := h
  obtain ⟨as, r1⟩ := Dp.reads I d x v hd rx
  have hl : PyData.canLayAll0 ds = true := SeqAt.canLay_of_shaped se
  rcases he with he | he
  · obtain ⟨bs, r2⟩ := Dp.reads I (.list ds) y u he ry
    exact SeqAt.in_list_reads r2 r1 hl (SeqAt.canLay_of_shaped sd) (room_in_shaped sd hu) ⟨.bl _, H, I, rfl, q⟩
  · obtain ⟨bs, r2⟩ := Dp.reads I (.tuple ds) y u he ry
    exact SeqAt.in_tuple_reads r2 r1 hl (SeqAt.canLay_of_shaped sd) (room_in_shaped sd hu) ⟨.bl _, H, I, rfl, q⟩
theorem op_notInA (hu : X.A.units + 65 < cLine) : OpR X (compareOp .NotIn) (rInA X.K true) := by
  intro pins s σ H x y v u Q I rx ry h
  obtain ⟨d, ds, hd, he, sd, se, q⟩ := h
  obtain ⟨as, r1⟩ := Dp.reads I d x v hd rx
  have hl : PyData.canLayAll0 ds = true := SeqAt.canLay_of_shaped se
  rcases he with he | he
  · obtain ⟨bs, r2⟩ := Dp.reads I (.list ds) y u he ry
    exact SeqAt.notIn_list_reads r2 r1 hl (SeqAt.canLay_of_shaped sd) (room_in_shaped sd hu) ⟨.bl _, H, I, rfl, q⟩
  · obtain ⟨bs, r2⟩ := Dp.reads I (.tuple ds) y u he ry
    exact SeqAt.notIn_tuple_reads r2 r1 hl (SeqAt.canLay_of_shaped sd) (room_in_shaped sd hu) ⟨.bl _, H, I, rfl, q⟩
def fInB (neg : Bool) : D → D → Store → Option (D × Store) := fun a b S => (seqOf b S).bind fun xs => if D.fit 32 a ∧ D.fitL 32 xs then some (.bl (if neg then !(xs.any fun z => deq z a) else xs.any fun z => deq z a), S) else none
abbrev fIn := fInB false
abbrev fNotIn := fInB true
theorem fInB_s (neg : Bool) : OpS K (rInA K neg) (fInB neg) := by
  intro w S H a b d x y S' Q k ra rb hm q
  unfold fInB at hm
  obtain ⟨xs, h1, hm⟩ := Option.bind_eq_some_iff.mp hm
  split at hm
  · rename_i hf
    cases hm
    obtain ⟨p, vs, rfl, h2, h3⟩ := seq_rd k rb h1
    have hd : Dp K H x a.py := Rp.dp a 32 x ra hf.1
    have hl : DpAll K H vs (D.pyL xs) := RpL.dp xs 32 vs h3 hf.2
    refine ⟨a.py, D.pyL xs, hd, ?_, D.fit_shaped hf.1, (D.fitL_shaped hf.2).1, ?_⟩
    · rcases h2 with h2 | h2
      · exact .inl (.lst h2 hl)
      · exact .inr (.tup h2 hl)
    · have e : ((D.pyL xs).any fun z => PyData.eqv z a.py) = xs.any fun z => deq z a := by
        rw [D.pyL_map, List.any_map]; rfl
      rw [e]
      exact q w H _ .refl k (.bl _)
  · cases hm

/-! ### places and slices -/
def fIx : D → D → Store → Option (D × Store)
  | .str z, .int i, S => if z.length ≤ LIM then (atI z.cps.toList i).bind fun c => some (.str ⟨#[c]⟩, S) else none
  | a, .int i, S => (seqOf a S).bind fun xs => (atI xs i).bind fun d => some (d, S)
  | _, _, _ => none
theorem atI_rp {w : Wd} {H : Hp} {ds : List D} {vs : List V} {i : Int} {d : D} (r : RpL K w H ds vs) (h : atI ds i = some d) : ∃ v, atI vs i = some v ∧ Rp K w H d v := by
  unfold atI at h ⊢
  obtain ⟨j, h1, h2⟩ := Option.bind_eq_some_iff.mp h
  obtain ⟨v, h3, h4⟩ := r.get h2
  exact ⟨v, by rw [← r.length, h1]; exact h3, h4⟩
theorem fIx_s : OpS K (rIx K) fIx := by
  intro w S H a b d x y S' Q k ra rb hm q
  unfold fIx at hm
  split at hm
  · split at hm
    · obtain ⟨c, h1, hm⟩ := Option.bind_eq_some_iff.mp hm
      cases hm
      exact .inr (.inr ⟨_, _, _, ra.str_inv, rb.int_inv, by rw [lim_eq]; assumption, h1, q w H _ .refl k (.str _)⟩)
    · cases hm
  · obtain ⟨xs, h1, hm⟩ := Option.bind_eq_some_iff.mp hm
    obtain ⟨d', h2, hm⟩ := Option.bind_eq_some_iff.mp hm
    cases hm
    obtain ⟨p, vs, rfl, h3, h4⟩ := seq_rd k ra h1
    obtain ⟨v, h5, h6⟩ := atI_rp h4 h2
    rcases h3 with h3 | h3
    · exact .inl ⟨p, vs, _, v, rfl, rb.int_inv, h3, h5, q w H _ .refl k h6⟩
    · exact .inr (.inl ⟨p, vs, _, v, rfl, rb.int_inv, h3, h5, q w H _ .refl k h6⟩)
  · cases hm
/-- the items of xs[lo:hi] -/
def cutD (xs : List D) (lo hi : Option Int) : List D := (xs.drop (HT.sIx xs.length 0 lo)).take (HT.sIx xs.length xs.length hi - HT.sIx xs.length 0 lo)
theorem cut_rp {w : Wd} {H : Hp} {ds : List D} {vs : List V} {lo hi : Option Int} (r : RpL K w H ds vs) : RpL K w H (cutD ds lo hi) (cutV vs lo hi) := by
  unfold cutD cutV
  rw [r.length]
  exact (r.drop _).take _
abbrev MO := Ev → Store → Option (Option Int × Store)
def tO (K : PySem.W.Frag) (m : MO) : TO := fun σ H Q => ∃ w e S o S', RpE K w H e σ ∧ Ok K w S H ∧ m e S = some (o, S') ∧ ∀ w' H', Stp w H w' H' → Ok K w' S' H' → Q o H'
theorem PO.imp {X : Cx} {e : Option Expr} {t t' : TO} (h : PO X e t) (i : ∀ σ H Q, t' σ H Q → t σ H Q) : PO X e t' := ⟨fun pins s σ H Q I q => h.run pins s σ H Q I (i σ H Q q)⟩
abbrev AO (X : Cx) (e : Option Expr) (m : MO) : Prop := PO X e (tO X.K m)
def mO0 : MO := fun _ S => some (none, S)
def mO1 (m : ME) : MO := fun e S => (m e S).bind fun (d, S1) => match d with
  | .int i => some (some i, S1)
  | _ => none
theorem ao_none : AO X none mO0 := PO.imp po_none fun σ H Q ⟨w, e, S, o, S', re, k, hm, q⟩ => by
  cases hm
  exact q w H .refl k
theorem ao_some {e : Expr} {m : ME} (h : AE X e m) : AO X (some e) (mO1 m) := PO.imp (po_some h) fun σ H Q ⟨w, e, S, o, S', re, k, hm, q⟩ => by
  unfold mO1 at hm
  obtain ⟨⟨d, S1⟩, h1, hm⟩ := Option.bind_eq_some_iff.mp hm
  simp only at hm
  split at hm
  · cases hm
    exact ⟨w, e, S, _, _, re, k, h1, fun w' H' v s' k' r' => ⟨_, r'.int_inv, q w' H' s' k'⟩⟩
  · cases hm
/-- a tuple's slice -/
def fSlT : D → Option Int → Option Int → Option D
  | .tup xs, lo, hi => some (.tup (cutD xs lo hi))
  | _, _, _ => none
def mSl (f : D → Option Int → Option Int → Option D) (m : ME) (ml mh : MO) : ME := fun e S => (m e S).bind fun (d, S1) => (ml e S1).bind fun (lo, S2) => (mh e S2).bind fun (hi, S3) => (f d lo hi).bind fun r => some (r, S3)
theorem cut_whole {xs : List D} {lo hi : Option Int} (h : HT.sIx xs.length 0 lo = 0 ∧ HT.sIx xs.length xs.length hi = xs.length) : cutD xs lo hi = xs := by
  unfold cutD
  rw [h.1, h.2, Nat.sub_zero, List.drop_zero, List.take_length]
theorem ae_slT {a : Expr} {lo hi : Option Expr} {m : ME} {ml mh : MO} {p2 pos : Pos} (ha : AE X a m) (hl : AO X lo ml) (hh : AO X hi mh) : AE X (.Subscript a (.Slice lo hi none p2) pos) (mSl fSlT m ml mh) :=
  PE.imp (pe_slice sl_tupAF ha hl hh) fun σ H Q ⟨w, e, S, d, S', re, k, hm, q⟩ => by
    unfold mSl at hm
    obtain ⟨⟨d1, S1⟩, h1, hm⟩ := Option.bind_eq_some_iff.mp hm
    obtain ⟨⟨o1, S2⟩, h2, hm⟩ := Option.bind_eq_some_iff.mp hm
    obtain ⟨⟨o2, S3⟩, h3, hm⟩ := Option.bind_eq_some_iff.mp hm
    obtain ⟨r, h4, hm⟩ := Option.bind_eq_some_iff.mp hm
    cases hm
    refine ⟨w, e, S, d1, S1, re, k, h1, fun w1 H1 x s1 k1 r1 => ⟨w1, e, S1, o1, S2, re.mono s1, k1, h2, fun w2 H2 s2 k2 => ⟨w2, e, S2, o2, _, (re.mono s1).mono s2, k2, h3, fun w3 H3 s3 k3 => ?_⟩⟩⟩
    unfold fSlT at h4
    split at h4
    · cases h4
      have r3 := (r1.mono s2).mono s3
      obtain ⟨a, vs, rfl, h5, h6⟩ := r3.tup_inv
      refine ⟨a, vs, rfl, h5, fun hw => ?_, fun hw p ob hp fm => ?_⟩
      · rw [← h6.length] at hw
        rw [cut_whole hw] at q
        exact q w3 H3 _ ((s1.trans s2).trans s3) k3 r3
      · exact Post.newT (fun w' H' v s k r => q w' H' v (((s1.trans s2).trans s3).trans s) k r) k3 hp fm (cut_rp h6)
    · cases h4
/-- a list's slice: a new list -/
def mSlL (m : ME) (ml mh : MO) : ML := fun e S => (m e S).bind fun (d, S1) => (ml e S1).bind fun (lo, S2) => (mh e S2).bind fun (hi, S3) => (lstOf d S3).bind fun xs => some (cutD xs lo hi, S3)
theorem af_slL {a : Expr} {lo hi : Option Expr} {m : ME} {ml mh : MO} {p2 pos : Pos} (ha : AE X a m) (hl : AO X lo ml) (hh : AO X hi mh) : AF X (.Subscript a (.Slice lo hi none p2) pos) (mSlL m ml mh) :=
  PE.imp (pe_slice sl_list ha hl hh) fun σ H Q ⟨w, e, S, d, S', re, k, hm, q⟩ => by
    unfold mSlL at hm
    obtain ⟨⟨d1, S1⟩, h1, hm⟩ := Option.bind_eq_some_iff.mp hm
    obtain ⟨⟨o1, S2⟩, h2, hm⟩ := Option.bind_eq_some_iff.mp hm
    obtain ⟨⟨o2, S3⟩, h3, hm⟩ := Option.bind_eq_some_iff.mp hm
    obtain ⟨r, h4, hm⟩ := Option.bind_eq_some_iff.mp hm
    cases hm
    refine ⟨w, e, S, d1, S1, re, k, h1, fun w1 H1 x s1 k1 r1 => ⟨w1, e, S1, o1, S2, re.mono s1, k1, h2, fun w2 H2 s2 k2 => ⟨w2, e, S2, o2, _, (re.mono s1).mono s2, k2, h3, fun w3 H3 s3 k3 => ?_⟩⟩⟩
    have r3 := (r1.mono s2).mono s3
    obtain ⟨a, vs, rfl, h5, h6⟩ := lst_rd k3 r3 h4
    exact ⟨a, vs, rfl, h5, fun p hp => q w3 H3 p _ ((s1.trans s2).trans s3) k3 hp (cut_rp h6)⟩
/-- a new list as content, or in the store -/
def mVal (m : ML) : ME := fun e S => (m e S).bind fun (ds, S1) => some (.lst ds, S1)
def mSto (m : ML) : ME := fun e S => (m e S).bind fun (ds, S1) => some (.ref S1.length, S1 ++ [.lst ds])
theorem ae_val {e : Expr} {m : ML} (h : AF X e m) : AE X e (mVal m) := PE.imp h fun σ H Q ⟨w, e, S, d, S', re, k, hm, q⟩ => by
  unfold mVal at hm
  obtain ⟨⟨ds, S1⟩, h1, hm⟩ := Option.bind_eq_some_iff.mp hm
  cases hm
  exact ⟨w, e, S, ds, _, re, k, h1, fun w' H' p vs s' k' hp r => Post.newL (fun w2 H2 v s2 k2 r2 => q w2 H2 v (s'.trans s2) k2 r2) k' hp r⟩
theorem ae_sto {e : Expr} {m : ML} (h : AF X e m) : AE X e (mSto m) := PE.imp h fun σ H Q ⟨w, e, S, d, S', re, k, hm, q⟩ => by
  unfold mSto at hm
  obtain ⟨⟨ds, S1⟩, h1, hm⟩ := Option.bind_eq_some_iff.mp hm
  cases hm
  exact ⟨w, e, S, ds, _, re, k, h1, fun w' H' p vs s' k' hp r => Post.addL (fun w2 H2 v s2 k2 r2 => q w2 H2 v (s'.trans s2) k2 r2) k' hp r⟩

/-! ### argument lists, displays -/
def mNil : ML := fun _ S => some ([], S)
def mCons (m : ME) (ms : ML) : ML := fun e S => (m e S).bind fun (d, S1) => (ms e S1).bind fun (ds, S2) => some (d :: ds, S2)
theorem aa_nil : AA X [] mNil := PA.imp pa_nil fun σ H Q ⟨w, e, S, d, S', re, k, hm, q⟩ => by
  cases hm
  exact q w H [] .refl k .nil
theorem aa_cons {e : Expr} {es : List Expr} {m : ME} {ms : ML} (h : AE X e m) (hr : AA X es ms) (hs : starEach (e :: es) X.env = (false, eval e X.env) :: starEach es X.env := by rfl) : AA X (e :: es) (mCons m ms) :=
  PA.imp (pa_cons h hr hs) fun σ H Q ⟨w, e, S, d, S', re, k, hm, q⟩ => by
    unfold mCons at hm
    obtain ⟨⟨d1, S1⟩, h1, hm⟩ := Option.bind_eq_some_iff.mp hm
    obtain ⟨⟨ds, S2⟩, h2, hm⟩ := Option.bind_eq_some_iff.mp hm
    cases hm
    exact ⟨w, e, S, d1, S1, re, k, h1, fun w1 H1 x s1 k1 r1 => ⟨w1, e, S1, ds, _, re.mono s1, k1, h2, fun w2 H2 vs s2 k2 r2 => q w2 H2 _ (s1.trans s2) k2 (.cons (r1.mono s2) r2)⟩⟩
def mTup (ms : ML) : ME := fun e S => (ms e S).bind fun (ds, S1) => if ds.length ≤ LIM then some (.tup ds, S1) else none
theorem ae_tup {es : List Expr} {ms : ML} {x1} {pos : Pos} (h : AA X es ms) : AE X (.Tuple es x1 pos) (mTup ms) := PE.imp (pe_tupF h) fun σ H Q ⟨w, e, S, d, S', re, k, hm, q⟩ => by
  unfold mTup at hm
  obtain ⟨⟨ds, S1⟩, h1, hm⟩ := Option.bind_eq_some_iff.mp hm
  simp only at hm
  split at hm
  · cases hm
    rename_i hz
    exact ⟨w, e, S, ds, _, re, k, h1, fun w1 H1 vs s1 k1 r1 => ⟨by rw [lim_eq, ← r1.length]; exact hz, fun p ob hp fm => Post.newT (fun w2 H2 v s2 k2 r2 => q w2 H2 v (s1.trans s2) k2 r2) k1 hp fm r1⟩⟩
  · cases hm
def mLst (ms : ML) : ML := fun e S => (ms e S).bind fun (ds, S1) => if ds.length ≤ LIM then some (ds, S1) else none
theorem af_lst {es : List Expr} {ms : ML} {pos : Pos} (h : AA X es ms) : AF X (.List es pos) (mLst ms) := PE.imp (pe_lst h) fun σ H Q ⟨w, e, S, d, S', re, k, hm, q⟩ => by
  unfold mLst at hm
  obtain ⟨⟨ds, S1⟩, h1, hm⟩ := Option.bind_eq_some_iff.mp hm
  simp only at hm
  split at hm
  · cases hm
    rename_i hz
    exact ⟨w, e, S, _, _, re, k, h1, fun w1 H1 vs s1 k1 r1 => ⟨by rw [lim_eq, ← r1.length]; exact hz, fun p hp => q w1 H1 p vs s1 k1 hp r1⟩⟩
  · cases hm
end
end DV

namespace DV
open PySem PySem.Spec PyProof.Rows L2
section
variable {X : Cx} {K : PySem.W.Frag}
/-! ### tests -/
def truth : D → Store → Option Bool
  | .non, _ => some false
  | .bl b, _ => some b
  | .int i, _ => some (i != 0)
  | .str y, _ => if y.length ≤ LIM then some ((y.length : Int) != 0) else none
  | .ref i, S => match S[i]? with
    | some (.lst xs) => some !xs.isEmpty
    | some (.dct kvs) => some !kvs.isEmpty
    | _ => none
  | .tup xs, _ => some !xs.isEmpty
  | .lst xs, _ => some !xs.isEmpty
  | .fr xs, _ => some !xs.isEmpty
  | .rng _ _, _ => none
theorem empty_rp {w : Wd} {H : Hp} {ds : List D} {vs : List V} (r : RpL K w H ds vs) : (!ds.isEmpty) = !vs.isEmpty := by cases r <;> rfl
theorem empty_rk {w : Wd} {H : Hp} {ds : List (D × D)} {vs : List (Key × V)} (r : RDk K w H ds vs) : (!ds.isEmpty) = !vs.isEmpty := by cases r <;> rfl
theorem truth_ok {w : Wd} {S : Store} {H : Hp} {d : D} {v : V} {b : Bool} (k : Ok K w S H) (r : Rp K w H d v) (h : truth d S = some b) (hd : ∀ i kvs, d = .ref i → S[i]? = some (.dct kvs) → ∃ a ks, w.rho[i]? = some a ∧ H a = some (.dK ks)) : TruV K v H b := by
  unfold truth at h
  split at h
  · cases h; rw [r.non_inv]; rfl
  · cases h; rw [r.bl_inv]; rfl
  · cases h; rw [r.int_inv]; rfl
  · split at h
    · cases h; rw [r.str_inv]; exact ⟨by rw [lim_eq]; assumption, rfl⟩
    · cases h
  · split at h
    · cases h
      obtain ⟨a, rfl, h1⟩ := r.ref_inv
      obtain ⟨vs, h2, h3⟩ := k.lst h1 (by assumption)
      exact .inl ⟨vs, .of h2, empty_rp h3⟩
    · cases h
      obtain ⟨a, rfl, h1⟩ := r.ref_inv
      obtain ⟨a', ks, h2, h3⟩ := hd _ _ rfl (by assumption)
      rw [h1] at h2; cases h2
      obtain ⟨x, h4, h5⟩ := k.ob _ _ _ h1 (by assumption)
      rw [h3] at h4; cases h4
      cases h5 with
      | dK q => exact .inr (.inr ⟨ks, h3, empty_rk q⟩)
    · cases h
  · cases h
    obtain ⟨a, vs, rfl, h1, h2⟩ := r.tup_inv
    exact .inr (.inl ⟨vs, h1, empty_rp h2⟩)
  · cases h
    obtain ⟨a, vs, rfl, _, h1, h2⟩ := r.lst_inv
    exact .inl ⟨vs, .of h1, empty_rp h2⟩
  · cases h
    obtain ⟨a, vs, rfl, h1, h2⟩ := r.fr_inv
    exact .inl ⟨vs, h1, empty_rp h2⟩
  · cases h
/-- without dicts -/
def truth' (d : D) (S : Store) : Option Bool := match d with
  | .ref i => match S[i]? with
    | some (.lst xs) => some !xs.isEmpty
    | _ => none
  | d => truth d S
theorem truth'_ok {w : Wd} {S : Store} {H : Hp} {d : D} {v : V} {b : Bool} (k : Ok K w S H) (r : Rp K w H d v) (h : truth' d S = some b) : TruV K v H b := by
  unfold truth' at h
  split at h
  · rename_i i
    split at h
    · rename_i xs hs
      refine truth_ok k r (show (match S[i]? with | some (.lst xs) => some !xs.isEmpty | some (.dct kvs) => some !kvs.isEmpty | _ => none) = some b by rw [hs]; exact h) fun j kvs e h2 => ?_
      cases e
      rw [hs] at h2; cases h2
    · cases h
  · rename_i hne
    exact truth_ok k r h fun j kvs e h2 => absurd e (hne j)
def mTru (m : ME) : MT := fun e S => (m e S).bind fun (d, S1) => (truth' d S1).bind fun b => some (b, S1)
theorem at_truth {a : Expr} {m : ME} (ha : AE X a m) (he : ∀ whole, isTrue a X.env whole = (do let v ← whole; standAt a.pos; holding [v] (truthy v)) := by intro _; rfl) : AT X a (mTru m) :=
  PT.imp (pt_truth ha he) fun σ H Q ⟨w, e, S, b, S', re, k, hm, q⟩ => by
    unfold mTru at hm
    obtain ⟨⟨d, S1⟩, h1, hm⟩ := Option.bind_eq_some_iff.mp hm
    obtain ⟨b1, h2, hm⟩ := Option.bind_eq_some_iff.mp hm
    cases hm
    exact ⟨w, e, S, d, _, re, k, h1, fun w' H' v s' k' r' => ⟨_, truth'_ok k' r' h2, q w' H' s' k'⟩⟩
def mAnd (a b : MT) : MT := fun e S => (a e S).bind fun (c, S1) => if c then b e S1 else some (false, S1)
def mOr (a b : MT) : MT := fun e S => (a e S).bind fun (c, S1) => if c then some (true, S1) else b e S1
def mNot (a : MT) : MT := fun e S => (a e S).bind fun (c, S1) => some (!c, S1)
section
variable {a b : Expr} {rest : List Expr} {pos : Pos} {ma mb : MT}
theorem aw_and1 (ha : AT X a ma) : AW X (.BoolOp .And [a] pos) ma := pw_and1 ha
theorem aw_or1 (ha : AT X a ma) : AW X (.BoolOp .Or [a] pos) ma := pw_or1 ha
theorem aw_and (ha : AT X a ma) (hb : AW X (.BoolOp .And (b :: rest) pos) mb) : AW X (.BoolOp .And (a :: b :: rest) pos) (mAnd ma mb) :=
  PW.imp (pw_and ha hb) fun σ H Q ⟨w, e, S, c, S', re, k, hm, q⟩ => by
    unfold mAnd at hm
    obtain ⟨⟨d, S1⟩, h1, hm⟩ := Option.bind_eq_some_iff.mp hm
    refine ⟨w, e, S, d, S1, re, k, h1, fun w1 H1 s1 k1 => ?_⟩
    cases d with
    | true => exact ⟨w1, e, S1, c, S', re.mono s1, k1, hm, fun w2 H2 s2 k2 => q w2 H2 (s1.trans s2) k2⟩
    | false => cases hm; exact q w1 H1 s1 k1
theorem aw_or (ha : AT X a ma) (hb : AW X (.BoolOp .Or (b :: rest) pos) mb) : AW X (.BoolOp .Or (a :: b :: rest) pos) (mOr ma mb) :=
  PW.imp (pw_or ha hb) fun σ H Q ⟨w, e, S, c, S', re, k, hm, q⟩ => by
    unfold mOr at hm
    obtain ⟨⟨d, S1⟩, h1, hm⟩ := Option.bind_eq_some_iff.mp hm
    refine ⟨w, e, S, d, S1, re, k, h1, fun w1 H1 s1 k1 => ?_⟩
    cases d with
    | false => exact ⟨w1, e, S1, c, S', re.mono s1, k1, hm, fun w2 H2 s2 k2 => q w2 H2 (s1.trans s2) k2⟩
    | true => cases hm; exact q w1 H1 s1 k1
theorem at_not (ha : AT X a ma) : AT X (.UnaryOp .Not a pos) (mNot ma) :=
  PT.imp (pt_not ha) fun σ H Q ⟨w, e, S, c, S', re, k, hm, q⟩ => by
    unfold mNot at hm
    obtain ⟨⟨d, S1⟩, h1, hm⟩ := Option.bind_eq_some_iff.mp hm
    cases hm
    exact ⟨w, e, S, d, _, re, k, h1, fun w1 H1 s1 k1 => q w1 H1 s1 k1⟩
end
/-- x and y, x or y, not x as values, by truth -/
def mAndV (a b : ME) : ME := fun e S => (a e S).bind fun (d, S1) => (truth' d S1).bind fun c => if c then b e S1 else some (d, S1)
def mOrV (a b : ME) : ME := fun e S => (a e S).bind fun (d, S1) => (truth' d S1).bind fun c => if c then some (d, S1) else b e S1
def mNotV (a : ME) : ME := fun e S => (a e S).bind fun (d, S1) => (truth' d S1).bind fun c => some (.bl (!c), S1)
section
variable {a b : Expr} {rest : List Expr} {pos : Pos} {ma mb : ME}
theorem ae_one {op} {m : ME} (h : AE X a m) : AE X (.BoolOp op [a] pos) m := pe_one h
theorem ae_and (ha : AE X a ma) (hb : AE X (.BoolOp .And (b :: rest) pos) mb) : AE X (.BoolOp .And (a :: b :: rest) pos) (mAndV ma mb) :=
  PE.imp (pe_andT ha hb) fun σ H Q ⟨w, e, S, c, S', re, k, hm, q⟩ => by
    unfold mAndV at hm
    obtain ⟨⟨d, S1⟩, h1, hm⟩ := Option.bind_eq_some_iff.mp hm
    obtain ⟨t, h2, hm⟩ := Option.bind_eq_some_iff.mp hm
    refine ⟨w, e, S, d, S1, re, k, h1, fun w1 H1 v s1 k1 r1 => ⟨t, truth'_ok k1 r1 h2, ?_⟩⟩
    cases t with
    | true => exact ⟨w1, e, S1, c, S', re.mono s1, k1, hm, fun w2 H2 v s2 k2 r2 => q w2 H2 v (s1.trans s2) k2 r2⟩
    | false => cases hm; exact q w1 H1 v s1 k1 r1
theorem ae_or (ha : AE X a ma) (hb : AE X (.BoolOp .Or (b :: rest) pos) mb) : AE X (.BoolOp .Or (a :: b :: rest) pos) (mOrV ma mb) :=
  PE.imp (pe_orT ha hb) fun σ H Q ⟨w, e, S, c, S', re, k, hm, q⟩ => by
    unfold mOrV at hm
    obtain ⟨⟨d, S1⟩, h1, hm⟩ := Option.bind_eq_some_iff.mp hm
    obtain ⟨t, h2, hm⟩ := Option.bind_eq_some_iff.mp hm
    refine ⟨w, e, S, d, S1, re, k, h1, fun w1 H1 v s1 k1 r1 => ⟨t, truth'_ok k1 r1 h2, ?_⟩⟩
    cases t with
    | false => exact ⟨w1, e, S1, c, S', re.mono s1, k1, hm, fun w2 H2 v s2 k2 r2 => q w2 H2 v (s1.trans s2) k2 r2⟩
    | true => cases hm; exact q w1 H1 v s1 k1 r1
theorem ae_not (ha : AE X a ma) : AE X (.UnaryOp .Not a pos) (mNotV ma) :=
  PE.imp (pe_notT ha) fun σ H Q ⟨w, e, S, c, S', re, k, hm, q⟩ => by
    unfold mNotV at hm
    obtain ⟨⟨d, S1⟩, h1, hm⟩ := Option.bind_eq_some_iff.mp hm
    obtain ⟨t, h2, hm⟩ := Option.bind_eq_some_iff.mp hm
    cases hm
    exact ⟨w, e, S, d, _, re, k, h1, fun w1 H1 v s1 k1 r1 => ⟨t, truth'_ok k1 r1 h2, q w1 H1 _ s1 k1 (.bl _)⟩⟩
def mIf (c : MT) (a b : ME) : ME := fun e S => (c e S).bind fun (t, S1) => if t then a e S1 else b e S1
theorem ae_if {c : Expr} {mc : MT} (hc : AT X c mc) (ha : AE X a ma) (hb : AE X b mb) : AE X (.IfExp c a b pos) (mIf mc ma mb) :=
  PE.imp (pe_ifExp hc ha hb) fun σ H Q ⟨w, e, S, d, S', re, k, hm, q⟩ => by
    unfold mIf at hm
    obtain ⟨⟨t, S1⟩, h1, hm⟩ := Option.bind_eq_some_iff.mp hm
    refine ⟨w, e, S, t, S1, re, k, h1, fun w1 H1 s1 k1 => ?_⟩
    cases t with
    | true => exact ⟨w1, e, S1, d, S', re.mono s1, k1, hm, fun w2 H2 v s2 k2 r2 => q w2 H2 v (s1.trans s2) k2 r2⟩
    | false => exact ⟨w1, e, S1, d, S', re.mono s1, k1, hm, fun w2 H2 v s2 k2 r2 => q w2 H2 v (s1.trans s2) k2 r2⟩
def fNeg : D → Option D
  | .int i => some (.int (-i))
  | _ => none
def mUn (f : D → Option D) (a : ME) : ME := fun e S => (a e S).bind fun (d, S1) => (f d).bind fun r => some (r, S1)
theorem ae_neg (ha : AE X a ma) : AE X (.UnaryOp .USub a pos) (mUn fNeg ma) :=
  PE.imp (pe_un un_neg ha) fun σ H Q ⟨w, e, S, c, S', re, k, hm, q⟩ => by
    unfold mUn at hm
    obtain ⟨⟨d, S1⟩, h1, hm⟩ := Option.bind_eq_some_iff.mp hm
    obtain ⟨t, h2, hm⟩ := Option.bind_eq_some_iff.mp hm
    cases hm
    unfold fNeg at h2
    split at h2
    · cases h2
      exact ⟨w, e, S, _, _, re, k, h1, fun w1 H1 v s1 k1 r1 => ⟨_, r1.int_inv, q w1 H1 _ s1 k1 (.int _)⟩⟩
    · cases h2
/-- a < b < c -/
def mChain (f g : D → D → Store → Option (D × Store)) (ma mb mc : ME) : ME := fun e S => (ma e S).bind fun (a, S1) => (mb e S1).bind fun (b, S2) => (f a b S2).bind fun (z, S3) => match z with
  | .bl true => (mc e S3).bind fun (c, S4) => g b c S4
  | .bl false => some (.bl false, S3)
  | _ => none
end
/-! ### calls of built-ins -/
def mCB (f : List D → Store → Option (D × Store)) (ms : ML) : ME := fun e S => (ms e S).bind fun (ds, S1) => f ds S1
def CallS (K : PySem.W.Frag) (r : List V → Hp → VK → Prop) (f : List D → Store → Option (D × Store)) : Prop := ∀ (w : Wd) (S : Store) (H : Hp) (ds : List D) (vs : List V) (d : D) (S' : Store) (Q : VK), Ok K w S H → RpL K w H ds vs → f ds S = some (d, S') → Post K w H S' d Q → r vs H Q
theorem cb_imp {K : PySem.W.Frag} {r : List V → Hp → VK → Prop} {f : List D → Store → Option (D × Store)} {ms : ML} (h : CallS K r f) {σ : L2.St} {H : Hp} {Q : VK} (q : tD K (mCB f ms) σ H Q) : tCB r (tL K ms) σ H Q := by
  obtain ⟨w, e, S, d, S', re, k, hm, q⟩ := q
  unfold mCB at hm
  obtain ⟨⟨ds, S1⟩, h1, hm⟩ := Option.bind_eq_some_iff.mp hm
  exact ⟨w, e, S, ds, S1, re, k, h1, fun w1 H1 vs s1 k1 r1 => h w1 S1 H1 ds vs d S' Q k1 r1 hm fun w2 H2 v s2 k2 r2 => q w2 H2 v (s1.trans s2) k2 r2⟩
section
variable {x : Str} {p pos : Pos} {e : Expr} {es : List Expr} {ms : ML} {id T : String} {r : List V → Hp → VK → Prop} {f : List D → Store → Option (D × Store)}
theorem ae_callB (hc : CallR X (.builtin id) r) (h : CallS X.K r f) (hm : X.mg x = none) (ha : AA X (e :: es) ms) (hg : Gl X x := by rfl) (hv : bootBuiltins x = some (.builtin id) := by decide +kernel) (hn : x ≠ "__name__" := by decide) (hdb : (x == ("__debug__" : Str)) = false := by decide)
    (he : starEach (e :: es) X.env = (false, eval e X.env) :: starEach es X.env := by rfl) (hpl : (backTo pos (starEach es X.env)).any (·.1) = false := by rfl) : AE X (.Call (.Name x p) (e :: es) [] pos) (mCB f ms) :=
  PE.imp (pe_callB hc hg hm hv ha hn hdb he hpl) fun _ _ _ => cb_imp h
theorem ae_callTy (hc : CallR X (.type T) r) (h : CallS X.K r f) (hm : X.mg x = none) (ha : AA X (e :: es) ms) (hg : Gl X x := by rfl) (hv : bootBuiltins x = some (.type T) := by decide +kernel) (hn : x ≠ "__name__" := by decide) (hdb : (x == ("__debug__" : Str)) = false := by decide)
    (he : starEach (e :: es) X.env = (false, eval e X.env) :: starEach es X.env := by rfl) (hpl : (backTo pos (starEach es X.env)).any (·.1) = false := by rfl) : AE X (.Call (.Name x p) (e :: es) [] pos) (mCB f ms) :=
  PE.imp (pe_callTy hc hg hm hv ha hn hdb he hpl) fun _ _ _ => cb_imp h
end
theorem RpL.one_inv {w : Wd} {H : Hp} {d : D} {vs : List V} (r : RpL K w H [d] vs) : ∃ v, vs = [v] ∧ Rp K w H d v := by
  cases r with
  | cons r t => cases t; exact ⟨_, rfl, r⟩
theorem RpL.two_inv {w : Wd} {H : Hp} {d1 d2 : D} {vs : List V} (r : RpL K w H [d1, d2] vs) : ∃ v1 v2, vs = [v1, v2] ∧ Rp K w H d1 v1 ∧ Rp K w H d2 v2 := by
  cases r with
  | cons r t => obtain ⟨v, e, q⟩ := t.one_inv; exact ⟨_, _, by rw [e], r, q⟩
def fLen : List D → Store → Option (D × Store)
  | [.str y], S => if y.length ≤ LIM then some (.int y.length, S) else none
  | [d], S => (seqOf d S).bind fun xs => some (.int xs.length, S)
  | _, _ => none
theorem fLen_s : CallS K (fun xs H Q => ∃ x n, xs = [x] ∧ LenV K x H n ∧ Q (.int n) H) fLen := by
  intro w S H ds vs d S' Q k r hm q
  unfold fLen at hm
  split at hm
  · split at hm
    · cases hm
      obtain ⟨v, rfl, r1⟩ := r.one_inv
      rw [r1.str_inv]
      exact ⟨_, _, rfl, ⟨by rw [lim_eq]; assumption, rfl⟩, q w H _ .refl k (.int _)⟩
    · cases hm
  · obtain ⟨xs, h1, hm⟩ := Option.bind_eq_some_iff.mp hm
    cases hm
    obtain ⟨v, rfl, r1⟩ := r.one_inv
    obtain ⟨a, us, rfl, h2, h3⟩ := seq_rd k r1 h1
    refine ⟨_, us.length, rfl, ?_, ?_⟩
    · rcases h2 with h2 | h2
      · exact .inl ⟨us, h2, rfl⟩
      · exact .inr ⟨us, h2, rfl⟩
    · rw [← h3.length]
      exact q w H _ .refl k (.int _)
  · cases hm
def fInt : List D → Store → Option (D × Store)
  | [.int i], S => some (.int i, S)
  | [.bl b], S => some (.int (if b then 1 else 0), S)
  | _, _ => none
theorem fInt_s : CallS K (fun xs H Q => (∃ i, xs = [.int i] ∧ Q (.int i) H) ∨ ∃ k, xs = [.bl k] ∧ Q (.int (if k then 1 else 0)) H) fInt := by
  intro w S H ds vs d S' Q k r hm q
  unfold fInt at hm
  split at hm
  · cases hm
    obtain ⟨v, rfl, r1⟩ := r.one_inv
    exact .inl ⟨_, by rw [r1.int_inv], q w H _ .refl k (.int _)⟩
  · cases hm
    obtain ⟨v, rfl, r1⟩ := r.one_inv
    exact .inr ⟨_, by rw [r1.bl_inv], q w H _ .refl k (.int _)⟩
  · cases hm
def fAbs : List D → Store → Option (D × Store)
  | [.int i], S => some (.int (if i < 0 then -i else i), S)
  | _, _ => none
theorem fAbs_s : CallS K (fun xs H Q => ∃ i, xs = [.int i] ∧ Q (.int (if i < 0 then -i else i)) H) fAbs := by
  intro w S H ds vs d S' Q k r hm q
  unfold fAbs at hm
  split at hm
  · cases hm
    obtain ⟨v, rfl, r1⟩ := r.one_inv
    exact ⟨_, by rw [r1.int_inv], q w H _ .refl k (.int _)⟩
  · cases hm
/-- all ints -/
def intsOf : List D → Option (List Int)
  | [] => some []
  | .int i :: r => (intsOf r).bind fun ns => some (i :: ns)
  | _ => none
theorem intsOf_map : ∀ ns : List Int, intsOf (ns.map D.int) = some ns
  | [] => rfl
  | n :: ns => by simp [intsOf, intsOf_map ns]
theorem intsOf_iff : ∀ {ds : List D} {ns : List Int}, intsOf ds = some ns → ds = ns.map D.int
  | [], _, h => by cases h; rfl
  | d :: ds, ns, h => by
    unfold intsOf at h
    split at h
    · rename_i e; cases e
    · rename_i i r e
      cases e
      obtain ⟨ms, h1, h2⟩ := Option.bind_eq_some_iff.mp h
      cases h2
      rw [intsOf_iff h1]; rfl
    · cases h
def blsOf : List D → Option (List Bool)
  | [] => some []
  | .bl i :: r => (blsOf r).bind fun ns => some (i :: ns)
  | _ => none
theorem blsOf_map : ∀ ns : List Bool, blsOf (ns.map D.bl) = some ns
  | [] => rfl
  | n :: ns => by simp [blsOf, blsOf_map ns]
theorem blsOf_iff : ∀ {ds : List D} {ns : List Bool}, blsOf ds = some ns → ds = ns.map D.bl
  | [], _, h => by cases h; rfl
  | d :: ds, ns, h => by
    unfold blsOf at h
    split at h
    · rename_i e; cases e
    · rename_i i r e
      cases e
      obtain ⟨ms, h1, h2⟩ := Option.bind_eq_some_iff.mp h
      cases h2
      rw [blsOf_iff h1]; rfl
    · cases h
theorem RpL.bls : ∀ {w : Wd} {H : Hp} {ns : List Bool} {vs : List V}, RpL K w H (ns.map D.bl) vs → vs = ns.map V.bl
  | _, _, [], _, h => by cases h; rfl
  | _, _, n :: ns, _, h => by
    cases h with
    | cons r t => rw [r.bl_inv, RpL.bls t]; rfl
def fSum : List D → Store → Option (D × Store)
  | [d], S => (lstOf d S).bind fun xs => (intsOf xs).bind fun ns => some (.int ns.sum, S)
  | _, _ => none
theorem fSum_s : CallS K (rSum K) fSum := by
  intro w S H ds vs d S' Q k r hm q
  unfold fSum at hm
  split at hm
  · obtain ⟨xs, h1, hm⟩ := Option.bind_eq_some_iff.mp hm
    obtain ⟨ns, h2, hm⟩ := Option.bind_eq_some_iff.mp hm
    cases hm
    obtain ⟨v, rfl, r1⟩ := r.one_inv
    obtain ⟨a, us, rfl, h3, h4⟩ := lst_rd k r1 h1
    rw [intsOf_iff h2] at h4
    rw [h4.ints] at h3
    exact ⟨a, ns, rfl, h3, q w H _ .refl k (.int _)⟩
  · cases hm
def maxI : Int → List Int → Int := fun m l => l.foldl max m
def minI : Int → List Int → Int := fun m l => l.foldl min m
theorem maxI_eq : ∀ (l : List Int) (a m : Int), m ∈ a :: l → (∀ y ∈ a :: l, y ≤ m) → m = maxI a l
  | [], a, m, h, _ => by simpa [maxI] using h
  | b :: l, a, m, h, g => by
    show m = maxI (max a b) l
    refine maxI_eq l (max a b) m ?_ fun y hy => ?_
    · have g1 := g a (by simp)
      have g2 := g b (by simp)
      simp only [List.mem_cons] at h ⊢
      rcases h with h | h | h
      · left; omega
      · left; omega
      · right; exact h
    · simp only [List.mem_cons] at hy
      rcases hy with rfl | hy
      · have g1 := g a (by simp)
        have g2 := g b (by simp)
        omega
      · exact g y (by simp [hy])
theorem minI_eq : ∀ (l : List Int) (a m : Int), m ∈ a :: l → (∀ y ∈ a :: l, m ≤ y) → m = minI a l
  | [], a, m, h, _ => by simpa [minI] using h
  | b :: l, a, m, h, g => by
    show m = minI (min a b) l
    refine minI_eq l (min a b) m ?_ fun y hy => ?_
    · have g1 := g a (by simp)
      have g2 := g b (by simp)
      simp only [List.mem_cons] at h ⊢
      rcases h with h | h | h
      · left; omega
      · left; omega
      · right; exact h
    · simp only [List.mem_cons] at hy
      rcases hy with rfl | hy
      · have g1 := g a (by simp)
        have g2 := g b (by simp)
        omega
      · exact g y (by simp [hy])
def fMax : List D → Store → Option (D × Store)
  | [.int i, .int j], S => some (.int (if j > i then j else i), S)
  | [d], S => (lstOf d S).bind fun xs => (intsOf xs).bind fun ns => match ns with
    | [] => none
    | n :: ns => some (.int (maxI n ns), S)
  | _, _ => none
theorem fMax_s : CallS K (fun xs H Q => (∃ i j, xs = [.int i, .int j] ∧ Q (.int (if j > i then j else i)) H) ∨ rMax K xs H Q) fMax := by
  intro w S H ds vs d S' Q k r hm q
  unfold fMax at hm
  split at hm
  · cases hm
    obtain ⟨v1, v2, rfl, r1, r2⟩ := r.two_inv
    exact .inl ⟨_, _, by rw [r1.int_inv, r2.int_inv], q w H _ .refl k (.int _)⟩
  · obtain ⟨xs, h1, hm⟩ := Option.bind_eq_some_iff.mp hm
    obtain ⟨ns, h2, hm⟩ := Option.bind_eq_some_iff.mp hm
    obtain ⟨v, rfl, r1⟩ := r.one_inv
    obtain ⟨a, us, rfl, h3, h4⟩ := lst_rd k r1 h1
    rw [intsOf_iff h2] at h4
    rw [h4.ints] at h3
    split at hm
    · cases hm
    · cases hm
      refine .inr ⟨a, _, rfl, h3, by simp, fun m h5 h6 => ?_⟩
      rw [maxI_eq _ _ m h5 h6]
      exact q w H _ .refl k (.int _)
  · cases hm
def fMin : List D → Store → Option (D × Store)
  | [.int i, .int j], S => some (.int (if j < i then j else i), S)
  | [d], S => (lstOf d S).bind fun xs => (intsOf xs).bind fun ns => match ns with
    | [] => none
    | n :: ns => some (.int (minI n ns), S)
  | _, _ => none
theorem fMin_s : CallS K (fun xs H Q => (∃ i j, xs = [.int i, .int j] ∧ Q (.int (if j < i then j else i)) H) ∨ rMin K xs H Q) fMin := by
  intro w S H ds vs d S' Q k r hm q
  unfold fMin at hm
  split at hm
  · cases hm
    obtain ⟨v1, v2, rfl, r1, r2⟩ := r.two_inv
    exact .inl ⟨_, _, by rw [r1.int_inv, r2.int_inv], q w H _ .refl k (.int _)⟩
  · obtain ⟨xs, h1, hm⟩ := Option.bind_eq_some_iff.mp hm
    obtain ⟨ns, h2, hm⟩ := Option.bind_eq_some_iff.mp hm
    obtain ⟨v, rfl, r1⟩ := r.one_inv
    obtain ⟨a, us, rfl, h3, h4⟩ := lst_rd k r1 h1
    rw [intsOf_iff h2] at h4
    rw [h4.ints] at h3
    split at hm
    · cases hm
    · cases hm
      refine .inr ⟨a, _, rfl, h3, by simp, fun m h5 h6 => ?_⟩
      rw [minI_eq _ _ m h5 h6]
      exact q w H _ .refl k (.int _)
  · cases hm
def fAny : List D → Store → Option (D × Store)
  | [d], S => (lstOf d S).bind fun xs => (blsOf xs).bind fun bs => some (.bl (bs.any id), S)
  | _, _ => none
def fAll : List D → Store → Option (D × Store)
  | [d], S => (lstOf d S).bind fun xs => (blsOf xs).bind fun bs => some (.bl (bs.all id), S)
  | _, _ => none
theorem fAny_s : CallS K (rAny K) fAny := by
  intro w S H ds vs d S' Q k r hm q
  unfold fAny at hm
  split at hm
  · obtain ⟨xs, h1, hm⟩ := Option.bind_eq_some_iff.mp hm
    obtain ⟨ns, h2, hm⟩ := Option.bind_eq_some_iff.mp hm
    cases hm
    obtain ⟨v, rfl, r1⟩ := r.one_inv
    obtain ⟨a, us, rfl, h3, h4⟩ := lst_rd k r1 h1
    rw [blsOf_iff h2] at h4
    rw [h4.bls] at h3
    exact ⟨a, ns, rfl, h3, q w H _ .refl k (.bl _)⟩
  · cases hm
theorem fAll_s : CallS K (rAll K) fAll := by
  intro w S H ds vs d S' Q k r hm q
  unfold fAll at hm
  split at hm
  · obtain ⟨xs, h1, hm⟩ := Option.bind_eq_some_iff.mp hm
    obtain ⟨ns, h2, hm⟩ := Option.bind_eq_some_iff.mp hm
    cases hm
    obtain ⟨v, rfl, r1⟩ := r.one_inv
    obtain ⟨a, us, rfl, h3, h4⟩ := lst_rd k r1 h1
    rw [blsOf_iff h2] at h4
    rw [h4.bls] at h3
    exact ⟨a, ns, rfl, h3, q w H _ .refl k (.bl _)⟩
  · cases hm
def fTuple : List D → Store → Option (D × Store)
  | [d], S => (seqOf d S).bind fun xs => some (.tup xs, S)
  | _, _ => none
theorem fTuple_s : CallS K (fun xs H Q => ∃ p ys, xs = [.ref p] ∧ ((SqL K H p ys ∧ ∀ l o, H l = none → Firm o → Q (.ref l) (upd H l (.frz o (.tup ys)))) ∨ (SqT K H p ys ∧ Q (.ref p) H))) fTuple := by
  intro w S H ds vs d S' Q k r hm q
  unfold fTuple at hm
  split at hm
  · obtain ⟨xs, h1, hm⟩ := Option.bind_eq_some_iff.mp hm
    cases hm
    obtain ⟨v, rfl, r1⟩ := r.one_inv
    rename_i dd
    cases dd with
    | tup ys =>
      obtain ⟨a, us, rfl, h3, h4⟩ := r1.tup_inv
      cases h1
      exact ⟨a, us, rfl, .inr ⟨h3, q w H _ .refl k r1⟩⟩
    | lst ys =>
      obtain ⟨a, us, rfl, h3, h4⟩ := lst_rd k r1 (show lstOf _ S = some xs from h1)
      exact ⟨a, us, rfl, .inl ⟨h3, fun p ob hp fm => Post.newT q k hp fm h4⟩⟩
    | fr ys =>
      obtain ⟨a, us, rfl, h3, h4⟩ := lst_rd k r1 (show lstOf _ S = some xs from h1)
      exact ⟨a, us, rfl, .inl ⟨h3, fun p ob hp fm => Post.newT q k hp fm h4⟩⟩
    | ref ys =>
      obtain ⟨a, us, rfl, h3, h4⟩ := lst_rd k r1 (show lstOf _ S = some xs from h1)
      exact ⟨a, us, rfl, .inl ⟨h3, fun p ob hp fm => Post.newT q k hp fm h4⟩⟩
    | _ => cases h1
  · cases hm
/-- list(x): a new list -/
def mListOf (m : ME) : ML := fun e S => (m e S).bind fun (d, S1) => (seqOf d S1).bind fun xs => some (xs, S1)
theorem af_list {x : Str} {p pos : Pos} {a : Expr} {m : ME} (hm : X.mg x = none) (ha : AE X a m) (hg : Gl X x := by rfl) (hv : bootBuiltins x = some (.type "list") := by decide +kernel) (hn : x ≠ "__name__" := by decide) (hdb : (x == ("__debug__" : Str)) = false := by decide)
    (he : starEach [a] X.env = (false, eval a X.env) :: starEach [] X.env := by rfl) (hpl : (backTo pos (starEach [] X.env)).any (·.1) = false := by rfl) : AF X (.Call (.Name x p) [a] [] pos) (mListOf m) :=
  PE.imp (pe_callTy call_list_of hg hm hv (pa_cons ha pa_nil he) hn hdb he hpl) fun σ H Q ⟨w, e, S, d, S', re, k, hm, q⟩ => by
    unfold mListOf at hm
    obtain ⟨⟨d1, S1⟩, h1, hm⟩ := Option.bind_eq_some_iff.mp hm
    obtain ⟨xs, h2, hm⟩ := Option.bind_eq_some_iff.mp hm
    cases hm
    refine ⟨w, e, S, d1, _, re, k, h1, fun w1 H1 v s1 k1 r1 => ?_⟩
    obtain ⟨a, us, rfl, h3, h4⟩ := seq_rd k1 r1 h2
    exact ⟨a, us, rfl, h3, fun p hp => q w1 H1 p us s1 k1 hp h4⟩
/-- range(a, b) as a value -/
def fRng2 : List D → Store → Option (D × Store)
  | [.int a, .int b], S => some (.rng a b, S)
  | _, _ => none
theorem fRng2_s : CallS K (fun vs H Q => ∃ i j, vs = [V.int i, V.int j] ∧ ∀ p, H p = none → Q (.ref p) (upd H p (.rng i j))) fRng2 := by
  intro w S H ds vs d S' Q k r hm q
  unfold fRng2 at hm
  split at hm
  · cases hm
    obtain ⟨v1, v2, rfl, r1, r2⟩ := r.two_inv
    exact ⟨_, _, by rw [r1.int_inv, r2.int_inv], fun p hp => q w _ _ (.new hp) (k.laid hp) (.rng (k.new hp) upd_same)⟩
  · cases hm
theorem cr_range1 : CallR X (.type "range") (fun vs H Q => ∃ j, vs = [V.int j] ∧ ∀ p, H p = none → Q (.ref p) (upd H p (.rng 0 j))) := by
  intro pins s σ H vs us Q I r h
  obtain ⟨j, rfl, q⟩ := h
  obtain ⟨u2, rfl, rj⟩ := vals1 r
  obtain ⟨u, rfl⟩ := rj
  refine call_range_1 ⟨.ref s.heap.objs.size, upd H s.heap.objs.size (.rng 0 j), I.laid (fun b o e => Heap.get?_push_of_some _ e) (Nat.le_refl _) ?_, rfl, q _ (I.hok.fresh (Nat.le_refl _))⟩
  exact ⟨_, _, _, Heap.get?_push_size _ rfl⟩
def fRng1 : List D → Store → Option (D × Store)
  | [.int b], S => some (.rng 0 b, S)
  | _, _ => none
theorem fRng1_s : CallS K (fun vs H Q => ∃ j, vs = [V.int j] ∧ ∀ p, H p = none → Q (.ref p) (upd H p (.rng 0 j))) fRng1 := by
  intro w S H ds vs d S' Q k r hm q
  unfold fRng1 at hm
  split at hm
  · cases hm
    obtain ⟨v1, rfl, r1⟩ := r.one_inv
    exact ⟨_, by rw [r1.int_inv], fun p hp => q w _ _ (.new hp) (k.laid hp) (.rng (k.new hp) upd_same)⟩
  · cases hm
/-! ### isinstance -/
def tyOf : D → Store → Option String
  | .non, _ => some "NoneType"
  | .bl _, _ => some "bool"
  | .int _, _ => some "int"
  | .str _, _ => some "str"
  | .tup _, _ => some "tuple"
  | .lst _, _ => some "list"
  | .fr _, _ => some "list"
  | .ref i, S => match S[i]? with
    | some (.lst _) => some "list"
    | _ => none
  | .rng _ _, _ => none
theorem tyOf_ok {w : Wd} {S : Store} {H : Hp} {d : D} {v : V} {t : String} (k : Ok K w S H) (r : Rp K w H d v) (h : tyOf d S = some t) : TyX K H v (.type t) := by
  unfold tyOf at h
  split at h
  · cases h; rw [r.non_inv]; exact .base .non
  · cases h; rw [r.bl_inv]; exact .base (.bl _)
  · cases h; rw [r.int_inv]; exact .base (.int _)
  · cases h; rw [r.str_inv]; exact .base (.str _)
  · cases h
    obtain ⟨a, vs, rfl, h1, h2⟩ := r.tup_inv
    rcases h1 with (h1 | ⟨o, h1⟩) | ⟨o, its, n, h1, h3, _⟩
    · exact .base (.tup h1)
    · exact .fTuple h1
    · exact .kTuple h1 h3
  · cases h
    obtain ⟨a, vs, rfl, _, h1, h2⟩ := r.lst_inv
    exact .base (.lst h1)
  · cases h
    obtain ⟨a, vs, rfl, h1, h2⟩ := r.fr_inv
    rcases h1 with (h1 | ⟨o, h1⟩) | ⟨o, its, n, h1, h3, _⟩
    · exact .base (.lst h1)
    · exact .base (.frz h1)
    · exact .kList h1 h3
  · split at h
    · cases h
      obtain ⟨a, rfl, h1⟩ := r.ref_inv
      obtain ⟨vs, h2, h3⟩ := k.lst h1 (by assumption)
      exact .base (.lst h2)
    · cases h
  · cases h
def isT (t T : String) : Bool := t == T || (t == "bool" && T == "int")
def tyNames : List String := ["NoneType", "bool", "int", "str", "tuple", "list"]
def tyAsk : List String := ["bool", "int", "str", "tuple", "list"]
theorem isT_ok : ∀ t ∈ tyNames, ∀ T ∈ tyAsk, kitB t T = some (isT t T) := by decide +kernel
theorem tyOf_mem {d : D} {S : Store} {t : String} (h : tyOf d S = some t) : t ∈ tyNames := by
  unfold tyOf at h
  split at h
  all_goals first
    | (cases h; decide; done)
    | (split at h <;> first | (cases h; decide; done) | cases h)
    | cases h
def mIsi (T : String) (m : ME) : ME := fun e S => (m e S).bind fun (d, S1) => (tyOf d S1).bind fun t => some (.bl (isT t T), S1)
theorem ae_isi {x : Str} {T : String} {a : Expr} {m : ME} {p p2 pos : Pos} (hmi : X.mg "isinstance" = none) (hmT : X.mg x = none) (ha : AE X a m) (hT : T ∈ tyAsk := by decide) (hgi : Gl X "isinstance" := by rfl) (hgT : Gl X x := by rfl) (hv : bootBuiltins x = some (.type T) := by decide +kernel)
    (hn : x ≠ "__name__" := by decide) (hdb : (x == ("__debug__" : Str)) = false := by decide) (hvi : bootBuiltins "isinstance" = some (.builtin "isinstance") := by decide +kernel)
    (he : starEach [a, .Name x p2] X.env = (false, eval a X.env) :: starEach [.Name x p2] X.env := by rfl) (he2 : starEach [.Name x p2] X.env = (false, eval (.Name x p2) X.env) :: starEach [] X.env := by rfl) (hpl : (backTo pos (starEach [.Name x p2] X.env)).any (·.1) = false := by rfl) :
    AE X (.Call (.Name "isinstance" p) [a, .Name x p2] [] pos) (mIsi T m) :=
  PE.imp (pe_callB call_isi hgi hmi hvi (pa_cons ha (pa_cons (pe_bltn (v := .ty T) hgT hmT hv rfl hn hdb) pa_nil he2) he) (by decide) (by decide) he hpl) fun σ H Q ⟨w, e, S, d, S', re, k, hm, q⟩ => by
    unfold mIsi at hm
    obtain ⟨⟨d1, S1⟩, h1, hm⟩ := Option.bind_eq_some_iff.mp hm
    obtain ⟨t, h2, hm⟩ := Option.bind_eq_some_iff.mp hm
    cases hm
    refine ⟨w, e, S, d1, _, re, k, h1, fun w1 H1 v s1 k1 r1 => ?_⟩
    exact ⟨v, .ty T, .type t, .type T, _, rfl, .ty T, tyOf_ok k1 r1 h2, kit_ty (isT_ok t (tyOf_mem h2) T hT), q w1 H1 _ s1 k1 (.bl _)⟩
/-- isinstance(x, (T1, T2)) -/
def mIsi2 (T1 T2 : String) (m : ME) : ME := fun e S => (m e S).bind fun (d, S1) => (tyOf d S1).bind fun t => some (.bl (isT t T1 || isT t T2), S1)
theorem ae_isi2 {x y : Str} {T1 T2 : String} {a : Expr} {m : ME} {p p2 p3 pt pos : Pos} {kk} (hmi : X.mg "isinstance" = none) (hmT : X.mg x = none) (hmT2 : X.mg y = none) (ha : AE X a m) (hT : T1 ∈ tyAsk := by decide) (hT2 : T2 ∈ tyAsk := by decide) (hgi : Gl X "isinstance" := by rfl) (hgT : Gl X x := by rfl) (hgT2 : Gl X y := by rfl)
    (hv : bootBuiltins x = some (.type T1) := by decide +kernel) (hv2 : bootBuiltins y = some (.type T2) := by decide +kernel)
    (hn : x ≠ "__name__" := by decide) (hdb : (x == ("__debug__" : Str)) = false := by decide) (hn2 : y ≠ "__name__" := by decide) (hdb2 : (y == ("__debug__" : Str)) = false := by decide) (hvi : bootBuiltins "isinstance" = some (.builtin "isinstance") := by decide +kernel)
    (he : starEach [a, .Tuple [.Name x p2, .Name y p3] kk pt] X.env = (false, eval a X.env) :: starEach [.Tuple [.Name x p2, .Name y p3] kk pt] X.env := by rfl) (he2 : starEach [.Tuple [.Name x p2, .Name y p3] kk pt] X.env = (false, eval (.Tuple [.Name x p2, .Name y p3] kk pt) X.env) :: starEach [] X.env := by rfl)
    (he3 : starEach [.Name x p2, .Name y p3] X.env = (false, eval (.Name x p2) X.env) :: starEach [.Name y p3] X.env := by rfl) (he4 : starEach [.Name y p3] X.env = (false, eval (.Name y p3) X.env) :: starEach [] X.env := by rfl)
    (hpl : (backTo pos (starEach [.Tuple [.Name x p2, .Name y p3] kk pt] X.env)).any (·.1) = false := by rfl) :
    AE X (.Call (.Name "isinstance" p) [a, .Tuple [.Name x p2, .Name y p3] kk pt] [] pos) (mIsi2 T1 T2 m) :=
  PE.imp (pe_callB call_isiT hgi hmi hvi (pa_cons ha (pa_cons (pe_tup (pa_cons (pe_bltn (v := .ty T1) hgT hmT hv rfl hn hdb) (pa_cons (pe_bltn (v := .ty T2) hgT2 hmT2 hv2 rfl hn2 hdb2) pa_nil he4) he3)) pa_nil he2) he) (by decide) (by decide) he hpl) fun σ H Q ⟨w, e, S, d, S', re, k, hm, q⟩ => by
    unfold mIsi2 at hm
    obtain ⟨⟨d1, S1⟩, h1, hm⟩ := Option.bind_eq_some_iff.mp hm
    obtain ⟨t, h2, hm⟩ := Option.bind_eq_some_iff.mp hm
    cases hm
    refine ⟨w, e, S, d1, _, re, k, h1, fun w1 H1 v s1 k1 r1 => ?_⟩
    refine ⟨by rw [lim_eq]; show 2 ≤ LIM; decide, fun tp htp => ?_⟩
    have k2 := k1.laid (o := .tup [.ty T1, .ty T2]) htp
    have s2 : Stp w1 H1 w1 (upd H1 tp (.tup [.ty T1, .ty T2])) := .new htp
    refine ⟨v, tp, [.ty T1, .ty T2], .type t, [.type T1, .type T2], _, rfl, upd_same, .cons (.ty T1) (.cons (.ty T2) .nil), tyOf_ok k2 (r1.mono s2) h2, ?_, q w1 _ _ (s1.trans s2) k2 (.bl _)⟩
    have a1 := kit_ty (K := X.K) (isT_ok t (tyOf_mem h2) T1 hT)
    have a2 := kit_ty (K := X.K) (isT_ok t (tyOf_mem h2) T2 hT2)
    refine kitAny_cons a1 (fun e => ?_) (fun e => by rw [e]; rfl)
    refine kitAny_cons a2 (fun e2 => ?_) (fun e2 => by rw [e, e2]; rfl)
    rw [e, e2]; rfl
end
end DV

namespace DV
open PySem PySem.Spec PyProof.Rows L2
section
variable {X : Cx} {K : PySem.W.Frag}
/-! ### statements -/
def mSkip : MS := fun e S => some (.nx e, S)
def mSeq (a b : MS) : MS := fun e S => (a e S).bind fun (f, S1) => match f with
  | .nx e1 => b e1 S1
  | f => some (f, S1)
theorem ass_nil : ASs X [] mSkip := PSs.imp pss_nil fun D σ H ⟨w, e, S, f, S', re, k, hm, q⟩ => by
  cases hm
  exact q w H .refl k σ re
theorem tS_seq {ma mb : MS} {D : Ends} {σ : L2.St} {H : Hp} (h : tS K (mSeq ma mb) D σ H) : tSeq (tS K ma) (tS K mb) D σ H := by
  obtain ⟨w, e, S, f, S', re, k, hm, q⟩ := h
  unfold mSeq at hm
  obtain ⟨⟨f1, S1⟩, h1, hm⟩ := Option.bind_eq_some_iff.mp hm
  refine ⟨w, e, S, f1, S1, re, k, h1, fun w1 H1 s1 k1 => ?_⟩
  cases f1 with
  | nx e1 => exact fun σ1 re1 => ⟨w1, e1, S1, f, S', re1, k1, hm, fun w2 H2 s2 k2 => q w2 H2 (s1.trans s2) k2⟩
  | rt d => cases hm; exact q w1 H1 s1 k1
  | bk e1 => cases hm; exact q w1 H1 s1 k1
  | ct e1 => cases hm; exact q w1 H1 s1 k1
theorem ass_cons {st : Stmt} {rest : List Stmt} {ma mb : MS} (ha : AS X st ma) (hb : ASs X rest mb) : ASs X (st :: rest) (mSeq ma mb) := PSs.imp (pss_cons ha hb) fun _ _ _ => tS_seq
theorem ass_one {st : Stmt} {ma : MS} (ha : AS X st ma) : ASs X [st] ma := pss_one ha
section
variable {pos : Pos} {e : Expr} {m : ME}
theorem as_pass : AS X (.Pass pos) mSkip := PS.imp ps_pass fun D σ H ⟨w, e, S, f, S', re, k, hm, q⟩ => by
  cases hm
  exact q w H .refl k σ re
def mBk : MS := fun e S => some (.bk e, S)
def mCt : MS := fun e S => some (.ct e, S)
theorem as_break : AS X (.Break pos) mBk := PS.imp ps_break fun D σ H ⟨w, e, S, f, S', re, k, hm, q⟩ => by
  cases hm
  exact q w H .refl k σ re
theorem as_continue : AS X (.Continue pos) mCt := PS.imp ps_continue fun D σ H ⟨w, e, S, f, S', re, k, hm, q⟩ => by
  cases hm
  exact q w H .refl k σ re
def mRet (m : ME) : MS := fun e S => (m e S).bind fun (d, S1) => some (.rt d, S1)
theorem as_ret (h : AE X e m) : AS X (.Return (some e) pos) (mRet m) := PS.imp (ps_ret h) fun D σ H ⟨w, e, S, f, S', re, k, hm, q⟩ => by
  unfold mRet at hm
  obtain ⟨⟨d, S1⟩, h1, hm⟩ := Option.bind_eq_some_iff.mp hm
  cases hm
  exact ⟨w, e, S, d, _, re, k, h1, fun w1 H1 v s1 k1 r1 => q w1 H1 s1 k1 v r1⟩
theorem as_retN : AS X (.Return none pos) (mRet (mC .non)) := PS.imp ps_retN fun D σ H ⟨w, e, S, f, S', re, k, hm, q⟩ => by
  cases hm
  exact q w H .refl k _ .non
def mDrop (m : ME) : MS := fun e S => (m e S).bind fun (d, S1) => some (.nx e, S1)
theorem as_expr (h : AE X e m) (hs : swapsWith e none pos.line X.env = pure false := by rfl) : AS X (.Expr e pos) (mDrop m) := PS.imp (ps_expr h hs) fun D σ H ⟨w, e, S, f, S', re, k, hm, q⟩ => by
  unfold mDrop at hm
  obtain ⟨⟨d, S1⟩, h1, hm⟩ := Option.bind_eq_some_iff.mp hm
  cases hm
  exact ⟨w, e, S, d, _, re, k, h1, fun w1 H1 v s1 k1 r1 => q w1 H1 s1 k1 σ (re.mono s1)⟩
def mIfS (c : MT) (a b : MS) : MS := fun e S => (c e S).bind fun (t, S1) => if t then a e S1 else b e S1
theorem as_if {c : Expr} {sa sb : List Stmt} {mc : MT} {ma mb : MS} (hc : AT X c mc) (ha : ASs X sa ma) (hb : ASs X sb mb) : AS X (.If c sa sb pos) (mIfS mc ma mb) := PS.imp (ps_if hc ha hb) fun D σ H ⟨w, e, S, f, S', re, k, hm, q⟩ => by
  unfold mIfS at hm
  obtain ⟨⟨t, S1⟩, h1, hm⟩ := Option.bind_eq_some_iff.mp hm
  refine ⟨w, e, S, t, S1, re, k, h1, fun w1 H1 s1 k1 => ?_⟩
  cases t with
  | true => exact ⟨w1, e, S1, f, S', re.mono s1, k1, hm, fun w2 H2 s2 k2 => q w2 H2 (s1.trans s2) k2⟩
  | false => exact ⟨w1, e, S1, f, S', re.mono s1, k1, hm, fun w2 H2 s2 k2 => q w2 H2 (s1.trans s2) k2⟩
/-- targets -/
inductive Tg where
  | nm (i : Nat)
  | tp (is : List Nat)
def gNames : List Nat → TGs
  | [] => gNil
  | i :: is => gCons (gName i) (gNames is)
def gSeq (K : PySem.W.Frag) (n : Nat) (t : TGs) : TG := fun v σ H Q => gTup K n t v σ H Q ∨ gLst K n t v σ H Q
def Tg.g (K : PySem.W.Frag) : Tg → TG
  | .nm i => gName i
  | .tp is => gSeq K is.length (gNames is)
def setAll : List Nat → List D → Ev → Ev
  | i :: is, d :: ds, e => setAll is ds (e.set i (some d))
  | _, _, e => e
def Tg.f : Tg → D → Ev → Option Ev
  | .nm i, d, e => some (e.set i (some d))
  | .tp is, .tup ds, e => if ds.length = is.length then some (setAll is ds e) else none
  | .tp is, .lst ds, e => if ds.length = is.length then some (setAll is ds e) else none
  | .tp _, _, _ => none
def Tg.slots : Tg → List Nat
  | .nm i => [i]
  | .tp is => is
theorem wipe_set {σ : L2.St} {i : Nat} {o : Option V} : ∀ {vs : List Nat}, i ∈ vs → wipe (σ.set i o) vs = wipe σ vs
  | [], h => by simp at h
  | v :: vs, h => by
    unfold wipe
    by_cases hv : i = v
    · subst hv
      by_cases hm : i ∈ vs
      · rw [wipe_set hm]
      · have comm : ∀ (l : List Nat) (τ : L2.St), i ∉ l → wipe (τ.set i o) l = (wipe τ l).set i o := by
          intro l
          induction l with
          | nil => intro τ _; rfl
          | cons x xs ih =>
            intro τ hx
            simp only [List.mem_cons, not_or] at hx
            unfold wipe
            rw [ih τ hx.2, List.set_comm _ _ hx.1]
        rw [comm vs σ hm, List.set_set]
    · have hm : i ∈ vs := by
        rcases List.mem_cons.mp h with z | z
        · exact absurd z hv
        · exact z
      rw [wipe_set hm]
theorem gNames_ok {w : Wd} {H : Hp} : ∀ (is : List Nat) (ds : List D) (vs : List V) (e : Ev) (σ : L2.St) (Q : L2.St → Hp → Prop), ds.length = is.length → RpE K w H e σ → RpL K w H ds vs →
    (∀ σ', RpE K w H (setAll is ds e) σ' → (∀ us, (∀ t ∈ is, t ∈ us) → wipe σ' us = wipe σ us) → Q σ' H) → gNames is vs σ H Q
  | [], [], _, e, σ, Q, _, re, r, q => by
    cases r
    exact ⟨rfl, q σ re fun _ _ => rfl⟩
  | i :: is, d :: ds, _, e, σ, Q, hl, re, r, q => by
    cases r with
    | cons r t =>
      refine ⟨_, _, rfl, ?_⟩
      show gNames is _ (σ.set i (some _)) H Q
      refine gNames_ok is ds _ (e.set i (some d)) _ Q (by simpa using hl) (re.set r) t fun σ' re' hw => q σ' re' fun us hus => ?_
      rw [hw us fun t ht => hus t (by simp [ht]), wipe_set (hus i (by simp))]
  | [], _ :: _, _, _, _, _, h, _, _, _ => by simp at h
  | _ :: _, [], _, _, _, _, h, _, _, _ => by simp at h
theorem Tg.ok {w : Wd} {H : Hp} {S : Store} (t : Tg) {d : D} {v : V} {e e' : Ev} {σ : L2.St} {Q : L2.St → Hp → Prop} (k : Ok K w S H) (re : RpE K w H e σ) (r : Rp K w H d v) (h : t.f d e = some e')
    (q : ∀ σ', RpE K w H e' σ' → (∀ us, (∀ i ∈ t.slots, i ∈ us) → wipe σ' us = wipe σ us) → Q σ' H) : t.g K v σ H Q := by
  cases t with
  | nm i =>
    cases h
    exact q _ (re.set r) fun us hus => wipe_set (hus i (by simp [Tg.slots]))
  | tp is =>
    unfold Tg.f at h
    split at h
    · rename_i heq; cases heq
    · rename_i heq
      cases heq
      split at h
      · rename_i hl
        cases h
        obtain ⟨a, vs, rfl, h1, h2⟩ := r.tup_inv
        exact .inl ⟨a, vs, rfl, h1, by rw [← h2.length]; exact hl, gNames_ok _ _ vs _ σ Q hl re h2 q⟩
      · cases h
    · rename_i heq
      cases heq
      split at h
      · rename_i hl
        cases h
        obtain ⟨a, vs, rfl, _, h1, h2⟩ := r.lst_inv
        exact .inr ⟨a, vs, rfl, .of h1, by rw [← h2.length]; exact hl, gNames_ok _ _ vs _ σ Q hl re h2 q⟩
      · cases h
    · cases h
abbrev AG (X : Cx) (tg : Expr) (t : Tg) : Prop := PG X tg (t.g X.K)
theorem ag_name (i : Nat) {x : Str} {pos : Pos} (hN : X.N.Nodup) (hi : X.N[i]? = some x := by rfl) (hx : Loc X.env.scope x := by first | exact Or.inl rfl | exact Or.inr rfl) (hf : X.fn x = true ∨ X.env.scope.names.lookup x = some .local := by first | exact .inl rfl | exact .inr rfl) : AG X (.Name x pos) (.nm i) := pg_name hN hi hx hf
theorem ag_tup {es : List Expr} {k : Nat} {is : List Nat} {pos : Pos} (hc : X.calm = true) (h : PGs X es (gNames is)) (hn : (assignEach es X.env).length = is.length := by rfl) (hst : (assignEach es X.env).findIdx? (·.1) = none := by rfl) : AG X (.Tuple es k pos) (.tp is) :=
  ⟨fun pins s σ H v u Q I r hw => hw.elim (fun hw => (pg_tup (k := k) (pos := pos) hc h hn hst).run pins s σ H v u Q I r hw) fun hw => (pg_lst (k := k) (pos := pos) hc h hn hst).run pins s σ H v u Q I r hw⟩
theorem agn_nil : PGs X [] (gNames []) := pgs_nil
/-- target = e -/
def mAsg (m : ME) (t : Tg) : MS := fun e S => (m e S).bind fun (d, S1) => (t.f d e).bind fun e1 => some (.nx e1, S1)
theorem asg_imp {m : ME} {t : Tg} {D : Ends} {σ : L2.St} {H : Hp} (h : tS K (mAsg m t) D σ H) : tAsg (tD K m) (t.g K) D σ H := by
  obtain ⟨w, e, S, f, S', re, k, hm, q⟩ := h
  unfold mAsg at hm
  obtain ⟨⟨d, S1⟩, h1, hm⟩ := Option.bind_eq_some_iff.mp hm
  obtain ⟨e1, h2, hm⟩ := Option.bind_eq_some_iff.mp hm
  cases hm
  exact ⟨w, e, S, d, _, re, k, h1, fun w1 H1 v s1 k1 r1 => t.ok k1 (re.mono s1) r1 h2 fun σ' re' _ => q w1 H1 s1 k1 σ' re'⟩
theorem as_asg {tg : Expr} {t : Tg} (he : AE X e m) (hg : AG X tg t) (hs : swapsWithSole [tg] e pos.line X.env = pure false := by rfl) (hw : swappedStores [tg] e X.env = pure none := by rfl) (h1 : (assignEach [tg] X.env).map (·.2) = [assign tg X.env] := by rfl) : AS X (.Assign [tg] e pos) (mAsg m t) := PS.imp (ps_asg he hg hs hw h1) fun _ _ _ => asg_imp
theorem as_set {i : Nat} {x : Str} {pos' : Pos} (hN : X.N.Nodup) (he : AE X e m) (hi : X.N[i]? = some x := by rfl) (hx : Loc X.env.scope x := by first | exact Or.inl rfl | exact Or.inr rfl) (hs : swapsWith e (some (.Name x pos')) pos.line X.env = pure false := by rfl) (hf : X.fn x = true ∨ X.env.scope.names.lookup x = some .local := by first | exact .inl rfl | exact .inr rfl) :
    AS X (.Assign [.Name x pos'] e pos) (mAsg m (.nm i)) := PS.imp (ps_set hN hi hx he hs hf) fun D σ H q => asg_imp q
/-- x += e -/
def mAug (i : Nat) (m : ME) (f : D → D → Store → Option (D × Store)) : MS := fun e S => match e[i]? with
  | some (some x) => (m e S).bind fun (y, S1) => (f x y S1).bind fun (z, S2) => some (.nx (e.set i (some z)), S2)
  | _ => none
def IpS (K : PySem.W.Frag) (r : TIp) (f : D → D → Store → Option (D × Store)) : Prop := OpS K r f
theorem as_aug {i : Nat} {x : Str} {op : Operator} {r : TIp} {f : D → D → Store → Option (D × Store)} {pos' : Pos} (hN : X.N.Nodup) (ho : PIp X op r) (h : IpS X.K r f) (he : AE X e m) (hi : X.N[i]? = some x := by rfl) (hx : Loc X.env.scope x := by first | exact Or.inl rfl | exact Or.inr rfl)
    (hf : X.fn x = true ∨ X.env.scope.names.lookup x = some .local := by first | exact .inl rfl | exact .inr rfl) : AS X (.AugAssign (.Name x pos') op e pos) (mAug i m f) := PS.imp (ps_aug hN hi hx he ho hf) fun D σ H ⟨w, e, S, fl, S', re, k, hm, q⟩ => by
  unfold mAug at hm
  split at hm
  · rename_i d hd
    obtain ⟨⟨y, S1⟩, h1, hm⟩ := Option.bind_eq_some_iff.mp hm
    obtain ⟨⟨z, S2⟩, h2, hm⟩ := Option.bind_eq_some_iff.mp hm
    cases hm
    obtain ⟨v, hv, rv⟩ := re.2 i d hd
    refine ⟨v, hv, w, e, S, y, S1, re, k, h1, fun w1 H1 u s1 k1 r1 => ?_⟩
    exact h w1 S1 H1 d y z v u _ _ k1 (rv.mono s1) r1 h2 fun w2 H2 x2 s2 k2 r2 => q w2 H2 (s1.trans s2) k2 _ (((re.mono s1).mono s2).set r2)
  · cases hm
def fAddI : D → D → Store → Option (D × Store)
  | .int i, .int j, S => some (.int (i + j), S)
  | _, _, _ => none
theorem ipS_add : IpS K (ipI fun i j => i + j) fAddI := by
  intro w S H a b d x y S' Q k ra rb hm q
  unfold fAddI at hm
  split at hm
  · cases hm
    exact ⟨_, _, ra.int_inv, rb.int_inv, q w H _ .refl k (.int _)⟩
  · cases hm
theorem ipS_sub : IpS K (ipI fun i j => i - j) fSub := by
  intro w S H a b d x y S' Q k ra rb hm q
  unfold fSub at hm
  split at hm
  · cases hm
    exact ⟨_, _, ra.int_inv, rb.int_inv, q w H _ .refl k (.int _)⟩
  · cases hm
/-- o[i] = e, a list of the store -/
def mSetIx (m mo mi : ME) : MS := fun e S => (m e S).bind fun (v, S1) => (mo e S1).bind fun (o, S2) => (mi e S2).bind fun (i, S3) => match o, i with
  | .ref p, .int k => match S3[p]? with
    | some (.lst xs) => (ixN xs.length k).bind fun j => some (.nx e, S3.set p (.lst (xs.set j v)))
    | _ => none
  | _, _ => none
theorem as_setIx {o i : Expr} {mo mi : ME} {pos' : Pos} (he : AE X e m) (ho : AE X o mo) (hi : AE X i mi) (hs : swapsWithSole [.Subscript o i pos'] e pos.line X.env = pure false := by rfl) (hw : swappedStores [.Subscript o i pos'] e X.env = pure none := by rfl)
    (ha : ∀ v, assign (.Subscript o i pos') X.env v = (do
      let ov ← holding [v] (eval o X.env)
      let iv ← holding [v, ov] (eval i X.env)
      standAt pos'
      holding [v, ov, iv] (setItem ov iv v)
      release [v, ov, iv] []) := by intro _; rfl) (h1 : (assignEach [.Subscript o i pos'] X.env).map (·.2) = [assign (.Subscript o i pos') X.env] := by rfl) :
    AS X (.Assign [.Subscript o i pos'] e pos) (mSetIx m mo mi) := PS.imp (ps_asg he (pg_sub ho hi set_list ha) hs hw h1) fun D σ H ⟨w, e, S, fl, S', re, k, hm, q⟩ => by
  unfold mSetIx at hm
  obtain ⟨⟨v, S1⟩, h1, hm⟩ := Option.bind_eq_some_iff.mp hm
  obtain ⟨⟨o1, S2⟩, h2, hm⟩ := Option.bind_eq_some_iff.mp hm
  obtain ⟨⟨i1, S3⟩, h3, hm⟩ := Option.bind_eq_some_iff.mp hm
  simp only at hm
  split at hm
  · split at hm
    · rename_i xs hx
      obtain ⟨j, h4, hm⟩ := Option.bind_eq_some_iff.mp hm
      cases hm
      refine ⟨w, e, S, v, S1, re, k, h1, fun w1 H1 u s1 k1 r1 => ⟨w1, e, S1, _, S2, re.mono s1, k1, h2, fun w2 H2 u2 s2 k2 r2 => ⟨w2, e, S2, _, S3, (re.mono s1).mono s2, k2, h3, fun w3 H3 u3 s3 k3 r3 => ?_⟩⟩⟩
      obtain ⟨a, rfl, ha⟩ := (r2.mono s3).ref_inv
      obtain ⟨vs, h5, h6⟩ := k3.lst ha hx
      refine ⟨a, vs, _, j, rfl, r3.int_inv, h5, by rw [← h6.length]; exact h4, ?_⟩
      have rv := ((r1.mono s2).mono s3)
      have st : Stp w3 H3 w3 (upd H3 a (.lst (vs.set j u))) := .put (List.mem_of_getElem? ha)
      exact q w3 _ (((s1.trans s2).trans s3).trans st) (k3.put ha (.lst (h6.set rv j))) σ ((((re.mono s1).mono s2).mono s3).mono st)
    · cases hm
  · cases hm
end

/-! ### what is walked -/
structure Src where
  n : Nat
  get : Nat → Store → Option (Option D)
def Src.seq (xs : List D) : Src := ⟨xs.length, fun i _ => some xs[i]?⟩
def Src.live (p n : Nat) : Src := ⟨n, fun i S => match S[p]? with
  | some (.lst xs) => some xs[i]?
  | _ => none⟩
def Src.enum (s : Src) : Src := ⟨s.n, fun i S => (s.get i S).map fun o => o.map fun d => .tup [.int (i : Nat), d]⟩
abbrev MI := Ev → Store → Option (Src × Store)
def WalkOk (K : PySem.W.Frag) (w0 : Wd) (H0 : Hp) (J : It) (src : Src) : Prop := ∀ (i : Nat) (w : Wd) (H : Hp) (S : Store), Wst w0 H0 w H → Ok K w S H →
  (∀ d, src.get i S = some (some d) → J.go i H ∧ ∀ x H', J.yld i H x H' → Stp w H w H' ∧ Ok K w S H' ∧ Rp K w H' d x) ∧ (src.get i S = some none → J.stop i H)
def tI (K : PySem.W.Frag) (m : MI) : TI := fun σ H R => ∃ w e S src S', RpE K w H e σ ∧ Ok K w S H ∧ m e S = some (src, S') ∧ ∀ w' H' J, Stp w H w' H' → Ok K w' S' H' → WalkOk K w' H' J src → R J H'
abbrev AI (X : Cx) (tg it : Expr) (m : MI) : Prop := PI X tg it (tI X.K m)
theorem pi_any {tg l : Expr} {tl : TE} (hl : PE X l tl) : PI X tg l (fun σ H R => tl σ H fun x H1 => ∃ a, x = .ref a ∧ (((∃ xs, SqL X.K H1 a xs) ∧ R (Itl X.K a) H1) ∨ ((∃ xs, SqT X.K H1 a xs) ∧ R (Itt X.K a) H1) ∨
    ∃ lo hi, H1 a = some (.rng lo hi) ∧ -(2 ^ 62) ≤ lo ∧ lo < 2 ^ 62 ∧ -(2 ^ 62) ≤ hi ∧ hi < 2 ^ 62 ∧ R (Itr lo (hi - lo).toNat) H1)) := by
  refine ⟨fun pins s σ H R I h => ?_⟩
  refine thn (hl.run pins s σ H _ I h) fun v s1 ⟨x, H1, I1, r1, q1⟩ => ?_
  obtain ⟨a, e, q⟩ := q1
  subst e
  cases r1
  rcases q with ⟨⟨xs, hq⟩, q⟩ | ⟨⟨xs, hq⟩, q⟩ | ⟨lo, hi, hq, h1, h2, h3, h4, q⟩
  · obtain ⟨its, rv, p, hz⟩ := I1.list hq
    refine wpAny_pyIter_list p.isList ?_
    refine ⟨s1.heap.objs.size, [s1.heap.objs.size], _, _, H1, rfl, I1.kept (t' := s1.toks) fun b o e => Heap.get?_push_of_some _ e, turn_list a _, ⟨_, Heap.get?_push_size _ rfl, rfl, rfl⟩, fun b hb => ?_, q⟩
    have e : b = s1.heap.objs.size := by simpa using hb
    subst e
    exact I1.fpOk (Nat.le_refl _) (I1.hok.fresh (Nat.le_refl _))
  · obtain ⟨its, rv, p, hz⟩ := I1.tuple hq
    refine wpAny_pyIter_tuple (show s1.heap.IsTuple a its.toArray from p) ?_
    refine ⟨s1.heap.objs.size, [s1.heap.objs.size], _, _, H1, rfl, I1.kept (t' := s1.toks) fun b o e => Heap.get?_push_of_some _ e, turn_tuple a _, ⟨_, Heap.get?_push_size _ rfl, rfl, rfl⟩, fun b hb => ?_, q⟩
    have e : b = s1.heap.objs.size := by simpa using hb
    subst e
    exact I1.fpOk (Nat.le_refl _) (I1.hok.fresh (Nat.le_refl _))
  · obtain ⟨t, u, v, ho⟩ := I1.hok a _ hq
    refine wpAny_pyIter_range ho (small_one h1 h2 h3 h4) ?_
    refine ⟨s1.heap.objs.size, [s1.heap.objs.size], _, _, H1, rfl, I1.kept (t' := s1.toks) fun b o e => Heap.get?_push_of_some _ e, turn_range _ lo (hi - lo).toNat, ?_, fun b hb => ?_, q⟩
    · have e1 : lo + ((0 : Nat) : Int) * 1 = lo := by simp
      have e2 : (((hi - lo).toNat : Nat) : Int) - ((0 : Nat) : Int) = Builtin.Range.rangeSize lo hi 1 := by rw [rangeSize_one]; split <;> omega
      show IsRangeIter _ _ (lo + ((0 : Nat) : Int) * 1) ((((hi - lo).toNat : Nat) : Int) - ((0 : Nat) : Int)) 1
      rw [e1, e2]
      exact Heap.get?_push_size _ rfl
    · have e : b = s1.heap.objs.size := by simpa using hb
      subst e
      exact I1.fpOk (Nat.le_refl _) (I1.hok.fresh (Nat.le_refl _))
def rngL (lo hi : Int) : List D := (List.range (hi - lo).toNat).map fun i => .int (lo + (i : Nat))
abbrev I62 (i : Int) : Prop := -(2 ^ 62) ≤ i ∧ i < 2 ^ 62
def srcOf : D → Store → Option Src
  | .tup xs, _ => some (.seq xs)
  | .lst xs, _ => some (.seq xs)
  | .fr xs, _ => some (.seq xs)
  | .rng lo hi, _ => if I62 lo ∧ I62 hi then some (.seq (rngL lo hi)) else none
  | .ref p, S => match S[p]? with
    | some (.lst xs) => some (.live p xs.length)
    | _ => none
  | _, _ => none
section
variable {w : Wd} {H : Hp} {S : Store}
theorem walk_L {a : Addr} {vs : List V} {ds : List D} (h : SqL K H a vs) (ho : ∀ o, H a = some o → Out w a) (r : RpL K w H ds vs) : WalkOk K w H (Itl K a) (.seq ds) := fun i w1 H1 S1 s1 k1 => by
  have h1 : SqL K H1 a vs := by
    rcases h with h | h
    · refine .inl ?_
      rcases h with h | ⟨u, h⟩
      · exact .inl (s1.keep _ _ h (ho _ h).1 (ho _ h).2).1
      · exact .inr ⟨u, (s1.keep _ _ h (ho _ h).1 (ho _ h).2).1⟩
    · exact .inr h
  refine ⟨fun d hd => ?_, fun hn => ?_⟩
  · have hd : ds[i]? = some d := Option.some.inj hd
    obtain ⟨v, hv, rv⟩ := r.get hd
    exact ⟨⟨vs, v, h1, hv⟩, fun x H' y => by
      obtain ⟨rfl, y⟩ := y
      have := y vs h1
      rw [hv] at this
      cases this
      exact ⟨.refl, k1, rv.monoW s1⟩⟩
  · have hn : ds[i]? = none := Option.some.inj hn
    exact ⟨vs, h1, by rw [← r.length]; exact List.getElem?_eq_none_iff.mp hn⟩
theorem walk_T {a : Addr} {vs : List V} {ds : List D} (h : SqT K H a vs) (ho : ∀ o, H a = some o → Out w a) (r : RpL K w H ds vs) : WalkOk K w H (Itt K a) (.seq ds) := fun i w1 H1 S1 s1 k1 => by
  have h1 : SqT K H1 a vs := by
    rcases h with h | h
    · refine .inl ?_
      rcases h with h | ⟨u, h⟩
      · exact .inl (s1.keep _ _ h (ho _ h).1 (ho _ h).2).1
      · exact .inr ⟨u, (s1.keep _ _ h (ho _ h).1 (ho _ h).2).1⟩
    · exact .inr h
  refine ⟨fun d hd => ?_, fun hn => ?_⟩
  · have hd : ds[i]? = some d := Option.some.inj hd
    obtain ⟨v, hv, rv⟩ := r.get hd
    exact ⟨⟨vs, v, h1, hv⟩, fun x H' y => by
      obtain ⟨rfl, y⟩ := y
      have := y vs h1
      rw [hv] at this
      cases this
      exact ⟨.refl, k1, rv.monoW s1⟩⟩
  · have hn : ds[i]? = none := Option.some.inj hn
    exact ⟨vs, h1, by rw [← r.length]; exact List.getElem?_eq_none_iff.mp hn⟩
theorem walk_S {a : Addr} {p n : Nat} (h : w.rho[p]? = some a) : WalkOk K w H (Itl K a) (.live p n) := fun i w1 H1 S1 s1 k1 => by
  have h1 : w1.rho[p]? = some a := by
    obtain ⟨m, e⟩ := s1.pre
    rw [e, List.getElem?_append_left (List.getElem?_eq_some_iff.mp h).1]; exact h
  refine ⟨fun d hd => ?_, fun hn => ?_⟩
  · simp only [Src.live] at hd
    split at hd
    · rename_i xs hx
      have hd : xs[i]? = some d := Option.some.inj hd
      obtain ⟨vs, h2, r⟩ := k1.lst h1 hx
      obtain ⟨v, hv, rv⟩ := r.get hd
      exact ⟨⟨vs, v, .of h2, hv⟩, fun x H' y => by
        obtain ⟨rfl, y⟩ := y
        have := y vs (.of h2)
        rw [hv] at this
        cases this
        exact ⟨.refl, k1, rv⟩⟩
    · cases hd
  · simp only [Src.live] at hn
    split at hn
    · rename_i xs hx
      have hn : xs[i]? = none := Option.some.inj hn
      obtain ⟨vs, h2, r⟩ := k1.lst h1 hx
      exact ⟨vs, .of h2, by rw [← r.length]; exact List.getElem?_eq_none_iff.mp hn⟩
    · cases hn
theorem walk_R {lo : Int} {n : Nat} : WalkOk K w H (Itr lo n) (.seq ((List.range n).map fun (i : Nat) => .int (lo + (i : Nat)))) := fun i w1 H1 S1 s1 k1 => by
  refine ⟨fun d hd => ?_, fun hn => ?_⟩
  · have hd : ((List.range n).map fun (i : Nat) => D.int (lo + (i : Nat)))[i]? = some d := Option.some.inj hd
    have hi : i < n := by
      have := (List.getElem?_eq_some_iff.mp hd).1
      simpa using this
    rw [List.getElem?_map, List.getElem?_range hi] at hd
    cases hd
    exact ⟨hi, fun x H' ⟨e1, e2⟩ => by subst e1 e2; exact ⟨.refl, k1, .int _⟩⟩
  · have hn : ((List.range n).map fun (i : Nat) => D.int (lo + (i : Nat)))[i]? = none := Option.some.inj hn
    have := List.getElem?_eq_none_iff.mp hn
    show n ≤ i
    simpa using this
theorem Rp.tup_inv' {d : List D} {v : V} (r : Rp K w H (.tup d) v) : ∃ a vs, v = .ref a ∧ SqT K H a vs ∧ RpL K w H d vs ∧ (SqT K (fun _ => none) a vs ∨ Out w a) := by
  cases r with
  | tup o h l => exact ⟨_, _, rfl, .inl h.rd, l, .inr o⟩
  | tupK _ h l => exact ⟨_, _, rfl, SqT.none_mono h, l, .inl h⟩
end
/-- K's own things are no tracked ones -/
theorem walkT_of {w : Wd} {H : Hp} {a : Addr} {vs : List V} {ds : List D} (h : SqT K (fun _ => none) a vs) (r : RpL K w H ds vs) : WalkOk K w H (Itt K a) (.seq ds) := fun i w1 H1 S1 s1 k1 => by
  have h1 : SqT K H1 a vs := SqT.none_mono h
  refine ⟨fun d hd => ?_, fun hn => ?_⟩
  · have hd : ds[i]? = some d := Option.some.inj hd
    obtain ⟨v, hv, rv⟩ := r.get hd
    exact ⟨⟨vs, v, h1, hv⟩, fun x H' y => by
      obtain ⟨rfl, y⟩ := y
      have := y vs h1
      rw [hv] at this
      cases this
      exact ⟨.refl, k1, rv.monoW s1⟩⟩
  · have hn : ds[i]? = none := Option.some.inj hn
    exact ⟨vs, h1, by rw [← r.length]; exact List.getElem?_eq_none_iff.mp hn⟩
theorem walkL_of {w : Wd} {H : Hp} {a : Addr} {vs : List V} {ds : List D} (h : SqL K (fun _ => none) a vs) (r : RpL K w H ds vs) : WalkOk K w H (Itl K a) (.seq ds) := fun i w1 H1 S1 s1 k1 => by
  have h1 : SqL K H1 a vs := SqL.none_mono h
  refine ⟨fun d hd => ?_, fun hn => ?_⟩
  · have hd : ds[i]? = some d := Option.some.inj hd
    obtain ⟨v, hv, rv⟩ := r.get hd
    exact ⟨⟨vs, v, h1, hv⟩, fun x H' y => by
      obtain ⟨rfl, y⟩ := y
      have := y vs h1
      rw [hv] at this
      cases this
      exact ⟨.refl, k1, rv.monoW s1⟩⟩
  · have hn : ds[i]? = none := Option.some.inj hn
    exact ⟨vs, h1, by rw [← r.length]; exact List.getElem?_eq_none_iff.mp hn⟩
def mIt (m : ME) : MI := fun e S => (m e S).bind fun (d, S1) => (srcOf d S1).bind fun s => some (s, S1)
theorem ai_any {tg l : Expr} {m : ME} (hl : AE X l m) : AI X tg l (mIt m) := PI.imp (pi_any hl) fun σ H R ⟨w, e, S, src, S', re, k, hm, q⟩ => by
  unfold mIt at hm
  obtain ⟨⟨d, S1⟩, h1, hm⟩ := Option.bind_eq_some_iff.mp hm
  obtain ⟨s, h2, hm⟩ := Option.bind_eq_some_iff.mp hm
  cases hm
  refine ⟨w, e, S, d, _, re, k, h1, fun w1 H1 v s1 k1 r1 => ?_⟩
  unfold srcOf at h2
  split at h2
  · cases h2
    cases r1 with
    | tup o h l => exact ⟨_, rfl, .inr (.inl ⟨⟨_, .inl h.rd⟩, q w1 H1 _ s1 k1 (walk_T (.inl h.rd) (fun _ _ => o) l)⟩)⟩
    | tupK _ h l => exact ⟨_, rfl, .inr (.inl ⟨⟨_, SqT.none_mono h⟩, q w1 H1 _ s1 k1 (walkT_of h l)⟩)⟩
  · cases h2
    obtain ⟨a, vs, rfl, o, h, l⟩ := r1.lst_inv
    exact ⟨a, rfl, .inl ⟨⟨_, .of h⟩, q w1 H1 _ s1 k1 (walk_L (.of h) (fun _ _ => o) l)⟩⟩
  · cases h2
    cases r1 with
    | fr o h l => exact ⟨_, rfl, .inl ⟨⟨_, .inl h⟩, q w1 H1 _ s1 k1 (walk_L (.inl h) (fun _ _ => o) l)⟩⟩
    | frK h l => exact ⟨_, rfl, .inl ⟨⟨_, SqL.none_mono h⟩, q w1 H1 _ s1 k1 (walkL_of h l)⟩⟩
  · split at h2
    · rename_i hb
      cases h2
      obtain ⟨a, rfl, h⟩ := r1.rng_inv
      exact ⟨a, rfl, .inr (.inr ⟨_, _, h, hb.1.1, hb.1.2, hb.2.1, hb.2.2, q w1 H1 _ s1 k1 walk_R⟩)⟩
    · cases h2
  · split at h2
    · rename_i xs hx
      cases h2
      obtain ⟨a, rfl, h⟩ := r1.ref_inv
      obtain ⟨vs, h3, h4⟩ := k1.lst h hx
      exact ⟨a, rfl, .inl ⟨⟨vs, .of h3⟩, q w1 H1 _ s1 k1 (walk_S h)⟩⟩
    · cases h2
  · cases h2
/-- range(b), range(a, b) -/
def mRg1 (ms : ML) : MI := fun e S => (ms e S).bind fun (ds, S1) => match ds with
  | [.int b] => if I62 b then some (.seq (rngL 0 b), S1) else none
  | _ => none
def mRg2 (ms : ML) : MI := fun e S => (ms e S).bind fun (ds, S1) => match ds with
  | [.int a, .int b] => if I62 a ∧ I62 b then some (.seq (rngL a b), S1) else none
  | _ => none
theorem rngL0 (b : Int) : rngL 0 b = (List.range b.toNat).map fun (i : Nat) => .int (0 + (i : Nat)) := by unfold rngL; rw [Int.sub_zero]
theorem ai_range1 {tg a : Expr} {ms : ML} {p pos : Pos} (hm : X.mg "range" = none) (ha : AA X [a] ms) (hg : Gl X "range" := by rfl) (hs : starEach [a] X.env = [(false, eval a X.env)] := by rfl) : AI X tg (.Call (.Name "range" p) [a] [] pos) (mRg1 ms) :=
  PI.imp (pi_range1 hg hm ha hs) fun σ H R ⟨w, e, S, src, S', re, k, hm, q⟩ => by
    unfold mRg1 at hm
    obtain ⟨⟨d, S1⟩, h1, hm⟩ := Option.bind_eq_some_iff.mp hm
    simp only at hm
    split at hm
    · split at hm
      · rename_i hb
        cases hm
        refine ⟨w, e, S, _, _, re, k, h1, fun w1 H1 vs s1 k1 r1 => ?_⟩
        obtain ⟨v, rfl, r2⟩ := r1.one_inv
        refine ⟨_, by rw [r2.int_inv], hb.1, hb.2, q w1 H1 _ s1 k1 ?_⟩
        rw [rngL0]
        exact walk_R
      · cases hm
    · cases hm
theorem ai_range2 {tg a b : Expr} {ms : ML} {p pos : Pos} (hm : X.mg "range" = none) (ha : AA X [a, b] ms) (hg : Gl X "range" := by rfl) (hs : starEach [a, b] X.env = [(false, eval a X.env), (false, eval b X.env)] := by rfl) (hs2 : starEach [b] X.env = [(false, eval b X.env)] := by rfl) : AI X tg (.Call (.Name "range" p) [a, b] [] pos) (mRg2 ms) :=
  PI.imp (pi_range2 hg hm ha hs hs2) fun σ H R ⟨w, e, S, src, S', re, k, hm, q⟩ => by
    unfold mRg2 at hm
    obtain ⟨⟨d, S1⟩, h1, hm⟩ := Option.bind_eq_some_iff.mp hm
    simp only at hm
    split at hm
    · split at hm
      · rename_i hb
        cases hm
        refine ⟨w, e, S, _, _, re, k, h1, fun w1 H1 vs s1 k1 r1 => ?_⟩
        obtain ⟨v, v2, rfl, r3, r4⟩ := r1.two_inv
        exact ⟨_, _, by rw [r3.int_inv, r4.int_inv], ⟨hb.1.1, hb.1.2, hb.2.1, hb.2.2⟩, q w1 H1 _ s1 k1 walk_R⟩
      · cases hm
    · cases hm

/-! ### for -/
def forGo (get : Nat → Store → Option (Option D)) (bind : D → Ev → Option Ev) (body : MS) : Nat → Nat → Ev → Store → Option (Fl × Store)
  | 0, i, e, S => match get i S with
    | some none => some (.nx e, S)
    | _ => none
  | n + 1, i, e, S => match get i S with
    | some none => some (.nx e, S)
    | some (some d) => (bind d e).bind fun e1 => (body e1 S).bind fun (f, S1) => match f with
      | .nx e2 => forGo get bind body n (i + 1) e2 S1
      | .ct e2 => forGo get bind body n (i + 1) e2 S1
      | .bk e2 => some (.nx e2, S1)
      | .rt d => some (.rt d, S1)
    | none => none
def mFor (mi : MI) (t : Tg) (body : MS) : MS := fun e S => (mi e S).bind fun (s, S1) => forGo s.get t.f body s.n 0 e S1
theorem as_for {tg it : Expr} {bd : List Stmt} {pos : Pos} {mi : MI} {t : Tg} {mb : MS} (hp : PassesOwn (model X.prog X.w) X.A X.env X.xe) (hc : X.calm = true) (hi : AI X tg it mi) (hg : AG X tg t) (hb : ASs X bd mb) (hs : ∀ x, foldedSetIterable it X.env x = pure x := by intro _; rfl) :
    AS X (.For tg it bd [] pos) (mFor mi t mb) := PS.imp (ps_for hp hc hi hg hb hs) fun D σ H ⟨w, e, S, fl, S', re, k, hm, q⟩ => by
  unfold mFor at hm
  obtain ⟨⟨src, S1⟩, h1, hm⟩ := Option.bind_eq_some_iff.mp hm
  refine ⟨w, e, S, src, S1, re, k, h1, fun w1 H1 J s1 k1 W => ?_⟩
  refine ⟨fun i m σ H2 => ∃ w2 e2 S2, Stp w1 H1 w2 H2 ∧ Ok X.K w2 S2 H2 ∧ RpE X.K w2 H2 e2 σ ∧ forGo src.get t.f mb m i e2 S2 = some (fl, S'), ⟨src.n, w1, e, S1, .refl, k1, re.mono s1, hm⟩, ?_⟩
  rintro i m σ2 H2 ⟨w2, e2, S2, s2, k2, re2, hm2⟩
  obtain ⟨go, stop⟩ := W i w2 H2 S2 s2.toW k2
  have fin : some (Fl.nx e2, S2) = some (fl, S') → D.nx σ2 H2 := fun z => by
    cases z
    exact q w2 H2 (s1.trans s2) k2 σ2 re2
  cases hget : src.get i S2 with
  | none => cases m <;> (simp only [forGo, hget] at hm2; cases hm2)
  | some o =>
    cases o with
    | none =>
      refine .inl ⟨stop hget, fin ?_⟩
      cases m <;> (simp only [forGo, hget] at hm2; exact hm2)
    | some d =>
      cases m with
      | zero => simp only [forGo, hget] at hm2; cases hm2
      | succ m =>
        simp only [forGo, hget] at hm2
        obtain ⟨e3, h3, hm2⟩ := Option.bind_eq_some_iff.mp hm2
        obtain ⟨⟨f4, S4⟩, h4, hm2⟩ := Option.bind_eq_some_iff.mp hm2
        obtain ⟨g1, g2⟩ := go d hget
        refine .inr ⟨g1, fun σ5 H5 => ∃ w5 e5, Stp w1 H1 w5 H5 ∧ Ok X.K w5 S4 H5 ∧ RpE X.K w5 H5 e5 σ5 ∧ forGo src.get t.f mb m (i + 1) e5 S4 = some (fl, S'), fun σ5 H5 ⟨w5, e5, a1, a2, a3, a4⟩ => ⟨m, Nat.lt_succ_self m, w5, e5, S4, a1, a2, a3, a4⟩, fun x H3 y => ?_⟩
        obtain ⟨st, k3, rx⟩ := g2 x H3 y
        refine t.ok k3 (re2.mono st) rx h3 fun σ4 re4 _ => ?_
        refine ⟨w2, e3, S2, f4, S4, re4, k3, h4, fun w5 H5 s5 k5 => ?_⟩
        have st5 : Stp w1 H1 w5 H5 := (s2.trans st).trans s5
        cases f4 with
        | nx e5 => exact fun σ5 re5 => ⟨w5, e5, st5, k5, re5, hm2⟩
        | ct e5 => exact fun σ5 re5 => ⟨w5, e5, st5, k5, re5, hm2⟩
        | bk e5 => cases hm2; exact fun σ5 re5 => q w5 H5 (s1.trans st5) k5 σ5 re5
        | rt d => cases hm2; exact fun v rv => q w5 H5 (s1.trans st5) k5 v rv
/-! ### while -/
def whileGo (c : MT) (body : MS) : Nat → Ev → Store → Option (Fl × Store)
  | 0, _, _ => none
  | n + 1, e, S => (c e S).bind fun (b, S1) => if b then (body e S1).bind fun (f, S2) => match f with
      | .nx e2 => whileGo c body n e2 S2
      | .ct e2 => whileGo c body n e2 S2
      | .bk e2 => some (.nx e2, S2)
      | .rt d => some (.rt d, S2)
    else some (.nx e, S1)
def mWhile (n : Nat) (c : MT) (body : MS) : MS := whileGo c body n
theorem as_while {c : Expr} {bd : List Stmt} {pos : Pos} {mc : MT} {mb : MS} (n : Nat) (hp : PassesOwn (model X.prog X.w) X.A X.env X.xe) (hc : AT X c mc) (hb : ASs X bd mb) : AS X (.While c bd [] pos) (mWhile n mc mb) :=
  PS.imp (ps_while hp hc hb) fun D σ H ⟨w, e, S, fl, S', re, k, hm, q⟩ => by
  refine ⟨fun m σ H2 => ∃ w2 e2 S2, Stp w H w2 H2 ∧ Ok X.K w2 S2 H2 ∧ RpE X.K w2 H2 e2 σ ∧ whileGo mc mb m e2 S2 = some (fl, S'), ⟨n, w, e, S, .refl, k, re, hm⟩, ?_⟩
  rintro m σ2 H2 ⟨w2, e2, S2, s2, k2, re2, hm2⟩
  cases m with
  | zero => simp only [whileGo] at hm2; cases hm2
  | succ m =>
    simp only [whileGo] at hm2
    obtain ⟨⟨b, S3⟩, h3, hm2⟩ := Option.bind_eq_some_iff.mp hm2
    refine ⟨w2, e2, S2, b, S3, re2, k2, h3, fun w3 H3 s3 k3 => ?_⟩
    cases b with
    | true =>
      obtain ⟨⟨f4, S4⟩, h4, hm2⟩ := Option.bind_eq_some_iff.mp hm2
      rw [if_pos rfl]
      refine ⟨fun σ5 H5 => ∃ w5 e5, Stp w H w5 H5 ∧ Ok X.K w5 S4 H5 ∧ RpE X.K w5 H5 e5 σ5 ∧ whileGo mc mb m e5 S4 = some (fl, S'), fun σ5 H5 ⟨w5, e5, a1, a2, a3, a4⟩ => ⟨m, Nat.lt_succ_self m, w5, e5, S4, a1, a2, a3, a4⟩, ?_⟩
      refine ⟨w3, e2, S3, f4, S4, re2.mono s3, k3, h4, fun w5 H5 s5 k5 => ?_⟩
      have st5 : Stp w H w5 H5 := (s2.trans s3).trans s5
      cases f4 with
      | nx e5 => exact fun σ5 re5 => ⟨w5, e5, st5, k5, re5, hm2⟩
      | ct e5 => exact fun σ5 re5 => ⟨w5, e5, st5, k5, re5, hm2⟩
      | bk e5 => cases hm2; exact fun σ5 re5 => q w5 H5 st5 k5 σ5 re5
      | rt d => cases hm2; exact fun v rv => q w5 H5 st5 k5 v rv
    | false =>
      rw [if_neg Bool.false_ne_true] at hm2 ⊢
      cases hm2
      exact q w3 H3 (s2.trans s3) k3 σ2 (re2.mono s3)
end
end DV

namespace DV
open PySem PySem.Spec PyProof.Rows L2
section
variable {K : PySem.W.Frag}
/-! ### hiding an address and showing it again -/
def Wd.hide (w : Wd) (L : Addr) : Wd := ⟨w.rho, fun a => w.B a ∨ a = L⟩
section
variable {w w' : Wd} {H H' : Hp} {L : Addr} {o : HO} {S : Store}
theorem Stp.hide (h : H L = none) : Stp w H (w.hide L) (upd H L o) :=
  ⟨fun b u e _ => ⟨fun z => z.elim id fun z => absurd z (ne_of_none e h), .inl⟩, ⟨[], by simp [Wd.hide]⟩, fun b u e n => ⟨by rw [upd_ne (ne_of_none e h)]; exact e, n⟩⟩
theorem Ok.hide (k : Ok K w S H) (h : H L = none) : Ok K (w.hide L) S (upd H L o) where
  len := k.len
  nd := k.nd
  ob := fun i a x h1 h2 => by
    obtain ⟨u, e, r⟩ := k.ob i a x h1 h2
    exact ⟨u, by rw [upd_ne (ne_of_none e h)]; exact e, r.mono (Stp.hide h)⟩
  nb := fun a ha z => by
    rcases z with z | z
    · exact k.nb a ha z
    · subst z; exact (k.new h).1 ha
  bt := fun a z => by
    rcases z with z | z
    · obtain ⟨u, e⟩ := k.bt a z
      exact ⟨u, by rw [upd_ne (ne_of_none e h)]; exact e⟩
    · subst z; exact ⟨o, upd_same⟩
mutual
theorem Rp.back (hr : w.rho = w'.rho) (hB : ∀ a, w.B a → w'.B a) (hH : ∀ a o, ¬ w'.B a → H' a = some o → H a = some o) : ∀ {d : D} {v : V}, Rp K w' H' d v → Rp K w H d v
  | _, _, .non => .non
  | _, _, .bl b => .bl b
  | _, _, .int i => .int i
  | _, _, .str x => .str x
  | _, _, .tup u h l => .tup ⟨by rw [hr]; exact u.1, fun z => u.2 (hB _ z)⟩ (let ⟨ob, h, f⟩ := h; ⟨ob, hH _ _ u.2 h, f⟩) (RpL.back hr hB hH l)
  | _, _, .tupK f h l => .tupK f h (RpL.back hr hB hH l)
  | _, _, .lst u h l => .lst ⟨by rw [hr]; exact u.1, fun z => u.2 (hB _ z)⟩ (hH _ _ u.2 h) (RpL.back hr hB hH l)
  | _, _, .fr u h l => .fr ⟨by rw [hr]; exact u.1, fun z => u.2 (hB _ z)⟩ (h.elim (fun h => .inl (hH _ _ u.2 h)) fun ⟨ob, h⟩ => .inr ⟨ob, hH _ _ u.2 h⟩) (RpL.back hr hB hH l)
  | _, _, .frK h l => .frK h (RpL.back hr hB hH l)
  | _, _, .ref h => .ref (by rw [hr]; exact h)
  | _, _, .rng u h => .rng ⟨by rw [hr]; exact u.1, fun z => u.2 (hB _ z)⟩ (hH _ _ u.2 h)
theorem RpL.back (hr : w.rho = w'.rho) (hB : ∀ a, w.B a → w'.B a) (hH : ∀ a o, ¬ w'.B a → H' a = some o → H a = some o) : ∀ {ds : List D} {vs : List V}, RpL K w' H' ds vs → RpL K w H ds vs
  | _, _, .nil => .nil
  | _, _, .cons r t => .cons (Rp.back hr hB hH r) (RpL.back hr hB hH t)
end
theorem RDk.back (hr : w.rho = w'.rho) (hB : ∀ a, w.B a → w'.B a) (hH : ∀ a o, ¬ w'.B a → H' a = some o → H a = some o) : ∀ {ds : List (D × D)} {vs : List (Key × V)}, RDk K w' H' ds vs → RDk K w H ds vs
  | _, _, .nil => .nil
  | _, _, .cons k r t => .cons k (r.back hr hB hH) (RDk.back hr hB hH t)
theorem RDt.back (hr : w.rho = w'.rho) (hB : ∀ a, w.B a → w'.B a) (hH : ∀ a o, ¬ w'.B a → H' a = some o → H a = some o) : ∀ {ds : List (D × D)} {vs : List (List Key × V)}, RDt K w' H' ds vs → RDt K w H ds vs
  | _, _, .nil => .nil
  | _, _, .cons k r t => .cons k (r.back hr hB hH) (RDt.back hr hB hH t)
theorem RFs.back (hr : w.rho = w'.rho) (hB : ∀ a, w.B a → w'.B a) (hH : ∀ a o, ¬ w'.B a → H' a = some o → H a = some o) : ∀ {ds : List (Str × D)} {vs : List (Str × V)}, RFs K w' H' ds vs → RFs K w H ds vs
  | _, _, .nil => .nil
  | _, _, .cons r t => .cons (r.back hr hB hH) (RFs.back hr hB hH t)
theorem RpO.back (hr : w.rho = w'.rho) (hB : ∀ a, w.B a → w'.B a) (hH : ∀ a o, ¬ w'.B a → H' a = some o → H a = some o) {x : Ob} {h : HO} (r : RpO K w' H' x h) : RpO K w H x h := by
  cases r with
  | lst r => exact .lst (r.back hr hB hH)
  | dK r => exact .dK (r.back hr hB hH)
  | dT r => exact .dT (r.back hr hB hH)
  | ins r => exact .ins (r.back hr hB hH)
def er (L : Addr) (H : Hp) : Hp := fun b => if b = L then none else H b
theorem er_same : er L H L = none := by unfold er; rw [if_pos rfl]
theorem er_ne {b : Addr} (h : b ≠ L) : er L H b = H b := by unfold er; rw [if_neg h]
theorem upd_er (h : H L = some o) : upd (er L H) L o = H := by
  funext b
  unfold upd er
  by_cases e : b = L
  · subst e; rw [if_pos rfl, h]
  · rw [if_neg e, if_neg e]
/-- behind a step with L hidden: without L -/
theorem unhide {w2 w3 : Wd} {He H3 : Hp} {S2 S3 : Store} (k2 : Ok K w2 S2 He) (hD : He L = none) (s : Stp (w2.hide L) (upd He L o) w3 H3) (k3 : Ok K w3 S3 H3) :
    H3 = upd (er L H3) L o ∧ er L H3 L = none ∧ Stp w2 He ⟨w3.rho, w2.B⟩ (er L H3) ∧ Ok K ⟨w3.rho, w2.B⟩ S3 (er L H3) ∧ (∀ d v, Rp K w3 H3 d v → Rp K ⟨w3.rho, w2.B⟩ (er L H3) d v) := by
  have nD : L ∉ w2.rho := (k2.new hD).1
  have hD3 : H3 L = some o := (s.keep L o upd_same nD).1
  have bD : w3.B L := (s.B L o upd_same nD).mpr (.inr rfl)
  have hB : ∀ a, w2.B a → w3.B a := fun a z => by
    obtain ⟨u, e⟩ := k2.bt a z
    have na : a ∉ w2.rho := fun q => k2.nb a q z
    exact (s.B a u (by rw [upd_ne (ne_of_none e hD)]; exact e) na).mpr (.inl z)
  have hH : ∀ a o, ¬ w3.B a → H3 a = some o → er L H3 a = some o := fun a u n e => by
    rw [er_ne (fun z => n (by rw [z]; exact bD))]; exact e
  have st : Stp w2 He ⟨w3.rho, w2.B⟩ (er L H3) := ⟨fun _ _ _ _ => Iff.rfl, s.pre, fun b u e n => by
    have hb : b ≠ L := ne_of_none e hD
    obtain ⟨e3, n3⟩ := s.keep b u (by rw [upd_ne hb]; exact e) n
    exact ⟨by rw [er_ne hb]; exact e3, n3⟩⟩
  refine ⟨(upd_er hD3).symm, er_same, st, ⟨k3.len, k3.nd, fun i a x h1 h2 => ?_, fun a ha z => k3.nb a ha (hB a z), fun a z => ?_⟩, fun d v r => Rp.back (w := ⟨w3.rho, w2.B⟩) (w' := w3) (H' := H3) rfl hB hH r⟩
  · obtain ⟨u, e, r⟩ := k3.ob i a x h1 h2
    exact ⟨u, hH a u (k3.nb a (List.mem_of_getElem? h1)) e, RpO.back (w := ⟨w3.rho, w2.B⟩) (w' := w3) (H' := H3) rfl hB hH r⟩
  · obtain ⟨u, e⟩ := k2.bt a z
    exact ⟨u, (st.keep a u e fun q => k2.nb a q z).1⟩
end
/-! ### comprehensions -/
def wipeE (e : Ev) : List Nat → Ev
  | [] => e
  | v :: vs => (wipeE e vs).set v none
theorem RpE.wipe {w : Wd} {H : Hp} {e : Ev} {σ : L2.St} (r : RpE K w H e σ) : ∀ vs : List Nat, RpE K w H (wipeE e vs) (L2.wipe σ vs)
  | [] => r
  | _ :: vs => (RpE.wipe r vs).forget
def lcGo (get : Nat → Store → Option (Option D)) (bind : D → Ev → Option Ev) (tt : MT) (elt : ME) (e0 : Ev) : Nat → Nat → Store → Option (List D × Store)
  | 0, i, S => match get i S with
    | some none => some ([], S)
    | _ => none
  | n + 1, i, S => match get i S with
    | some none => some ([], S)
    | some (some d) => (bind d e0).bind fun e1 => (tt e1 S).bind fun (b, S1) => if b then (elt e1 S1).bind fun (y, S2) => (lcGo get bind tt elt e0 n (i + 1) S2).bind fun (ys, S3) => some (y :: ys, S3) else lcGo get bind tt elt e0 n (i + 1) S1
    | none => none
def mLC (mi : MI) (t : Tg) (tt : MT) (elt : ME) (vs : List Nat) : ML := fun e S => (mi e S).bind fun (s, S1) => (lcGo s.get t.f tt elt (wipeE e vs) s.n 0 S1).bind fun (ys, S2) => if ys.length ≤ LIM then some (ys, S2) else none
def mYes : MT := fun _ S => some (true, S)
abbrev ATs (X : Cx) (ifs : List Expr) (m : MT) : Prop := PTs X ifs (tB X.K m)
theorem PTs.imp {X : Cx} {e : List Expr} {t t' : TT} (h : PTs X e t) (i : ∀ σ H Q, t' σ H Q → t σ H Q) : PTs X e t' := ⟨fun pins s σ H Q I q => h.run pins s σ H Q I (i σ H Q q)⟩
theorem ats_nil {X : Cx} : ATs X [] mYes := PTs.imp pts_nil fun σ H Q ⟨w, e, S, b, S', re, k, hm, q⟩ => by
  cases hm
  exact q w H .refl k
theorem ats_one {X : Cx} {c : Expr} {m : MT} (h : AT X c m) : ATs X [c] m := pts_one h
theorem lc_imp {mi : MI} {t : Tg} {tt : MT} {elt : ME} {vs : List Nat} (hv : ∀ i ∈ t.slots, i ∈ vs) {σ : L2.St} {H : Hp} {Q : VK} (h : tF K (mLC mi t tt elt vs) σ H Q) : tLc (tI K mi) (t.g K) (tB K tt) (tD K elt) vs σ H Q := by
  obtain ⟨w, e, S, ds, S', re, k, hm, q⟩ := h
  unfold mLC at hm
  obtain ⟨⟨src, S1⟩, h1, hm⟩ := Option.bind_eq_some_iff.mp hm
  obtain ⟨⟨ys, S2⟩, h2, hm⟩ := Option.bind_eq_some_iff.mp hm
  simp only at h2 hm
  split at hm
  rotate_left
  · cases hm
  rename_i hz
  cases hm
  refine ⟨w, e, S, src, S1, re, k, h1, fun w1 H1 J s1 k1 W => fun D hD => ?_⟩
  refine ⟨fun i m H2 => ∃ w2 He S2 accd accv rest, H2 = upd He D (.lst accv) ∧ He D = none ∧ Stp w1 H1 w2 He ∧ Ok K w2 S2 He ∧ RpL K w2 He accd accv ∧ lcGo src.get t.f tt elt (wipeE e vs) m i S2 = some (rest, S') ∧ ds = accd ++ rest,
    ⟨src.n, w1, H1, S1, [], [], ds, rfl, hD, .refl, k1, .nil, h2, rfl⟩, ?_⟩
  rintro i m _ ⟨w2, He, S2, accd, accv, rest, rfl, hDe, s2, k2, racc, hm2, hds⟩
  have k2h : Ok K (w2.hide D) S2 (upd He D (.lst accv)) := k2.hide hDe
  have s2h : Stp w1 H1 (w2.hide D) (upd He D (.lst accv)) := s2.trans (.hide hDe)
  obtain ⟨go, stop⟩ := W i _ _ S2 s2h.toW k2h
  have fin : some (([] : List DV.D), S2) = some (rest, S') → Q (.ref D) (upd He D (.lst accv)) := fun z => by
    cases z
    rw [List.append_nil] at hds
    subst hds
    exact q w2 He D accv (s1.trans s2) k2 hDe racc
  cases hget : src.get i S2 with
  | none => cases m <;> (simp only [lcGo, hget] at hm2; cases hm2)
  | some o =>
    cases o with
    | none =>
      refine .inl ⟨stop hget, fin ?_⟩
      cases m <;> (simp only [lcGo, hget] at hm2; exact hm2)
    | some d =>
      cases m with
      | zero => simp only [lcGo, hget] at hm2; cases hm2
      | succ m =>
        simp only [lcGo, hget] at hm2
        obtain ⟨e3, h3, hm2⟩ := Option.bind_eq_some_iff.mp hm2
        obtain ⟨⟨b, S4⟩, h4, hm2⟩ := Option.bind_eq_some_iff.mp hm2
        obtain ⟨g1, g2⟩ := go d hget
        refine .inr ⟨g1, fun H5 => ∃ w2 He S2 accd accv rest, H5 = upd He D (.lst accv) ∧ He D = none ∧ Stp w1 H1 w2 He ∧ Ok K w2 S2 He ∧ RpL K w2 He accd accv ∧ lcGo src.get t.f tt elt (wipeE e vs) m (i + 1) S2 = some (rest, S') ∧ ds = accd ++ rest,
          fun H5 h5 => ⟨m, Nat.lt_succ_self m, h5⟩, fun x H3 y => ?_⟩
        obtain ⟨st, k3, rx⟩ := g2 x H3 y
        have re3 : RpE K (w2.hide D) H3 (wipeE e vs) (L2.wipe σ vs) := ((re.mono s1).mono (s2h.trans st)).wipe vs
        refine t.ok k3 re3 rx h3 fun σ4 re4 hw => ?_
        have ww : ∀ l : List Nat, L2.wipe (L2.wipe σ l) l = L2.wipe σ l := by
          intro l
          apply List.ext_getElem?
          intro j
          by_cases hj : j ∈ l
          · by_cases hjl : j < σ.length
            · have a1 : ∀ τ : L2.St, τ.length = σ.length → (L2.wipe τ l)[j]? = some none := fun τ hτ => by
                cases hq : (L2.wipe τ l)[j]? with
                | none =>
                  have := List.getElem?_eq_none_iff.mp hq
                  rw [wipe_length, hτ] at this
                  omega
                | some u =>
                  cases u with
                  | none => rfl
                  | some u => exact absurd hj (wipe_some hq).2
              rw [a1 _ (wipe_length σ l), a1 σ rfl]
            · rw [List.getElem?_eq_none (by rw [wipe_length, wipe_length]; omega), List.getElem?_eq_none (by rw [wipe_length]; omega)]
          · rw [wipe_out hj]
        refine ⟨by rw [hw vs hv, ww], ⟨_, e3, S2, b, S4, re4, k3, h4, fun w5 H5 s5 k5 => ?_⟩⟩
        cases b with
        | true =>
          rw [if_pos rfl]
          rw [if_pos rfl] at hm2
          obtain ⟨⟨z, S6⟩, h6, hm2⟩ := Option.bind_eq_some_iff.mp hm2
          obtain ⟨⟨zs, S7⟩, h7, hm2⟩ := Option.bind_eq_some_iff.mp hm2
          cases hm2
          refine ⟨w5, e3, S4, z, S6, re4.mono s5, k5, h6, fun w6 H6 v6 s6 k6 r6 => ?_⟩
          obtain ⟨u1, u2, u3, u4, u5⟩ := unhide k2 hDe ((st.trans s5).trans s6) k6
          have lz : accd.length < LIM := by
            have := hz
            rw [hds] at this
            simp at this
            omega
          refine ⟨accv, by rw [u1, upd_same], by rw [lim_eq, ← racc.length]; exact lz, ?_⟩
          refine ⟨_, er D H6, S6, accd ++ [z], accv ++ [v6], zs, ?_, u2, s2.trans u3, u4, (racc.mono u3).append (.cons (u5 _ _ r6) .nil), h7, by rw [hds]; simp⟩
          conv => lhs; rw [u1]
          rw [upd_upd]
        | false =>
          rw [if_neg Bool.false_ne_true]
          rw [if_neg Bool.false_ne_true] at hm2
          obtain ⟨u1, u2, u3, u4, u5⟩ := unhide k2 hDe (st.trans s5) k5
          exact ⟨_, er D H5, S4, accd, accv, rest, u1, u2, s2.trans u3, u4, racc.mono u3, hm2, hds⟩
end
section
variable {X : Cx}
theorem af_lc {elt tg iter : Expr} {ifs : List Expr} {scope : Scope} {pos : Pos} {mi : MI} {t : Tg} {tt : MT} {me : ME} (own : List (Str × Nat)) (hc : X.calm = true) (hN : X.N.Nodup) (hi : AI X tg iter mi) (ok : BlkOk X.N X.env.scope scope own)
    (hg : ∀ (s : Shared) (H : Hp) (C : Addr) (cl : List (Str × Addr)) (fp : List Addr), AG (X.blk s H scope (compEnvC scope cl C X.env) fp) tg t) (ht : ∀ (s : Shared) (H : Hp) (C : Addr) (cl : List (Str × Addr)) (fp : List Addr), ATs (X.blk s H scope (compEnvC scope cl C X.env) fp) ifs tt)
    (he : ∀ (s : Shared) (H : Hp) (C : Addr) (cl : List (Str × Addr)) (fp : List Addr), AE (X.blk s H scope (compEnvC scope cl C X.env) fp) elt me) (hs : ∀ x, foldedSetIterable iter X.env x = pure x := by intro _; rfl) (hv : ∀ i ∈ t.slots, i ∈ own.map (·.2) := by decide) :
    AF X (.ListComp elt [⟨tg, iter, ifs, 0⟩] scope pos) (mLC mi t tt me (own.map (·.2))) := PE.imp (pe_lc hc hN hi ok hg ht he hs) fun _ _ _ => lc_imp hv
/-- y = [..] -/
theorem as_setLc {i : Nat} {y : Str} {py : Pos} {elt tg iter : Expr} {ifs : List Expr} {scope : Scope} {pos spos : Pos} {mi : MI} {t : Tg} {tt : MT} {me : ME} (own : List (Str × Nat)) (hc : X.calm = true) (hN : X.N.Nodup) (hi : AI X tg iter mi) (ok : BlkOk X.N X.env.scope scope own)
    (hg : ∀ (s : Shared) (H : Hp) (C : Addr) (cl : List (Str × Addr)) (fp : List Addr), AG (X.blk s H scope (compEnvC scope cl C X.env) fp) tg t) (ht : ∀ (s : Shared) (H : Hp) (C : Addr) (cl : List (Str × Addr)) (fp : List Addr), ATs (X.blk s H scope (compEnvC scope cl C X.env) fp) ifs tt)
    (he : ∀ (s : Shared) (H : Hp) (C : Addr) (cl : List (Str × Addr)) (fp : List Addr), AE (X.blk s H scope (compEnvC scope cl C X.env) fp) elt me) (hy : X.N[i]? = some y := by rfl) (hyl : X.env.scope.names.lookup y = some .local := by rfl)
    (hsw : swapsWith (.ListComp elt [⟨tg, iter, ifs, 0⟩] scope pos) (some (.Name y py)) spos.line X.env = pure true := by exact sw_true rfl rfl rfl (by decide +kernel)) (hs : ∀ x, foldedSetIterable iter X.env x = pure x := by intro _; rfl) (hv : ∀ i ∈ t.slots, i ∈ own.map (·.2) := by decide) (sto : Bool) :
    AS X (.Assign [.Name y py] (.ListComp elt [⟨tg, iter, ifs, 0⟩] scope pos) spos) (mAsg ((if sto then mSto else mVal) (mLC mi t tt me (own.map (·.2)))) (.nm i)) := PS.imp (ps_setLc hc hN hy hyl hsw hi ok hg ht he hs) fun D σ H h => by
  obtain ⟨w, e, S, f, S', re, k, hm, q⟩ := h
  unfold mAsg at hm
  obtain ⟨⟨d, S1⟩, h1, hm⟩ := Option.bind_eq_some_iff.mp hm
  obtain ⟨e1, h2, hm⟩ := Option.bind_eq_some_iff.mp hm
  cases hm
  have fin : ∀ w' H' v, Stp w H w' H' → Ok X.K w' S' H' → Rp X.K w' H' d v → gName i v σ H' D.nx := fun w' H' v s' k' r' => by
    cases h2
    exact q w' H' s' k' _ ((re.mono s').set r')
  cases sto with
  | true =>
    rw [if_pos rfl] at h1
    unfold mSto at h1
    obtain ⟨⟨ds, S2⟩, h3, h1⟩ := Option.bind_eq_some_iff.mp h1
    cases h1
    exact lc_imp hv ⟨w, e, S, ds, S2, re, k, h3, fun w' H' p vs s' k' hp r => Post.addL (fun w2 H2 v s2 k2 r2 => fin w2 H2 v (s'.trans s2) k2 r2) k' hp r⟩
  | false =>
    rw [if_neg Bool.false_ne_true] at h1
    unfold mVal at h1
    obtain ⟨⟨ds, S2⟩, h3, h1⟩ := Option.bind_eq_some_iff.mp h1
    cases h1
    exact lc_imp hv ⟨w, e, S, ds, _, re, k, h3, fun w' H' p vs s' k' hp r => Post.newL (fun w2 H2 v s2 k2 r2 => fin w2 H2 v (s'.trans s2) k2 r2) k' hp r⟩
end
end DV

namespace DV
open PySem PySem.Spec PyProof.Rows L2
section
variable {X : Cx} {K : PySem.W.Frag}
/-! ### methods of lists -/
/-- o.m(..) on a list of the store -/
def mMt (f : List D → List D → Option (D × List D)) (mo : ME) (ms : ML) : ME := fun e S => (mo e S).bind fun (o, S1) => match o with
  | .ref p => (ms e S1).bind fun (ds, S2) => match S2[p]? with
    | some (.lst xs) => (f xs ds).bind fun (d, ys) => some (d, S2.set p (.lst ys))
    | _ => none
  | _ => none
def MtS (K : PySem.W.Frag) (r : V → List V → Hp → VK → Prop) (f : List D → List D → Option (D × List D)) : Prop := ∀ (w : Wd) (S : Store) (H : Hp) (p : Nat) (a : Addr) (xs ds ys : List D) (vs us : List V) (d : D) (Q : VK), Ok K w S H → w.rho[p]? = some a → H a = some (.lst us) → RpL K w H xs us →
  RpL K w H ds vs → f xs ds = some (d, ys) → Post K w H (S.set p (.lst ys)) d Q → r (.ref a) vs H Q
theorem Ok.tyList {w : Wd} {S : Store} {H : Hp} (k : Ok K w S H) {a : Addr} {us : List V} (h : H a = some (.lst us)) : tyV K "list" (.ref a) H := .inl ⟨rfl, us, .of h⟩
theorem mt_imp {r : V → List V → Hp → VK → Prop} {f : List D → List D → Option (D × List D)} {mo : ME} {ms : ML} (h : MtS K r f) (hp : ∀ e S p S1 ds S2, mo e S = some (.ref p, S1) → ms e S1 = some (ds, S2) → ∃ ys, S1[p]? = some (.lst ys)) {σ : L2.St} {H : Hp} {Q : VK} (q : tD K (mMt f mo ms) σ H Q) : tBM K "list" r (tD K mo) (tL K ms) σ H Q := by
  obtain ⟨w, e, S, d, S', re, k, hm, q⟩ := q
  unfold mMt at hm
  obtain ⟨⟨o, S1⟩, h1, hm⟩ := Option.bind_eq_some_iff.mp hm
  simp only at hm
  split at hm
  · rename_i p
    obtain ⟨⟨ds, S2⟩, h2, hm⟩ := Option.bind_eq_some_iff.mp hm
    simp only at hm
    split at hm
    · rename_i xs hx
      obtain ⟨⟨d1, ys⟩, h3, hm⟩ := Option.bind_eq_some_iff.mp hm
      cases hm
      obtain ⟨zs, hz⟩ := hp _ _ _ _ _ _ h1 h2
      refine ⟨w, e, S, _, S1, re, k, h1, fun w1 H1 v s1 k1 r1 => ?_⟩
      obtain ⟨a, rfl, ha⟩ := r1.ref_inv
      obtain ⟨us0, hu0, _⟩ := k1.lst ha hz
      refine ⟨k1.tyList hu0, w1, e, S1, ds, S2, re.mono s1, k1, h2, fun w2 H2 vs s2 k2 r2 => ?_⟩
      have ha2 : w2.rho[p]? = some a := by
        obtain ⟨m, e⟩ := s2.pre
        rw [e, List.getElem?_append_left (List.getElem?_eq_some_iff.mp ha).1]; exact ha
      obtain ⟨us, hu, ru⟩ := k2.lst ha2 hx
      exact h w2 S2 H2 p a xs ds ys vs us _ Q k2 ha2 hu ru r2 h3 fun w' H' v s' k' r' => q w' H' v ((s1.trans s2).trans s') k' r'
    · cases hm
  · cases hm
theorem mt0_imp {r : V → List V → Hp → VK → Prop} {f : List D → List D → Option (D × List D)} {mo : ME} (h : MtS K r f) {σ : L2.St} {H : Hp} {Q : VK} (q : tD K (mMt f mo mNil) σ H Q) : tBM0 K "list" r (tD K mo) σ H Q := by
  obtain ⟨w, e, S, d, S', re, k, hm, q⟩ := q
  unfold mMt at hm
  obtain ⟨⟨o, S1⟩, h1, hm⟩ := Option.bind_eq_some_iff.mp hm
  simp only at hm
  split at hm
  · rename_i p
    obtain ⟨⟨ds, S2⟩, h2, hm⟩ := Option.bind_eq_some_iff.mp hm
    cases h2
    simp only at hm
    split at hm
    · rename_i xs hx
      obtain ⟨⟨d1, ys⟩, h3, hm⟩ := Option.bind_eq_some_iff.mp hm
      cases hm
      refine ⟨w, e, S, _, S1, re, k, h1, fun w1 H1 v s1 k1 r1 => ?_⟩
      obtain ⟨a, rfl, ha⟩ := r1.ref_inv
      obtain ⟨us, hu, ru⟩ := k1.lst ha hx
      exact ⟨k1.tyList hu, h w1 S1 H1 p a xs [] ys [] us _ Q k1 ha hu ru .nil h3 fun w' H' v s' k' r' => q w' H' v (s1.trans s') k' r'⟩
    · cases hm
  · cases hm
theorem Post.putL {w : Wd} {S : Store} {H : Hp} {Q : VK} {d : D} {v : V} {p : Nat} {a : Addr} {ys : List D} {us : List V} (q : Post K w H (S.set p (.lst ys)) d Q) (k : Ok K w S H) (ha : w.rho[p]? = some a) (r : RpL K w H ys us) (rd : Rp K w H d v) : Q v (upd H a (.lst us)) :=
  q w _ _ (.put (List.mem_of_getElem? ha)) (k.put ha (.lst r)) (rd.mono (.put (List.mem_of_getElem? ha)))
def fAppend : List D → List D → Option (D × List D)
  | xs, [y] => if xs.length < LIM then some (.non, xs ++ [y]) else none
  | _, _ => none
theorem fAppend_s : MtS K rAppend fAppend := by
  intro w S H p a xs ds ys vs us d Q k ha hu ru rd hf q
  unfold fAppend at hf
  split at hf
  · split at hf
    · rename_i y hz
      cases hf
      obtain ⟨v, rfl, rv⟩ := rd.one_inv
      exact ⟨a, us, v, rfl, rfl, hu, by rw [lim_eq, ← ru.length]; exact hz, Post.putL q k ha (ru.append (.cons rv .nil)) .non⟩
    · cases hf
  · cases hf
def fPop : List D → List D → Option (D × List D)
  | xs, [] => (xs[xs.length - 1]?).bind fun y => some (y, xs.dropLast)
  | _, _ => none
theorem fPop_s : MtS K rPop fPop := by
  intro w S H p a xs ds ys vs us d Q k ha hu ru rd hf q
  unfold fPop at hf
  split at hf
  · obtain ⟨y, hy, hf⟩ := Option.bind_eq_some_iff.mp hf
    cases hf
    cases rd
    obtain ⟨v, hv, rv⟩ := ru.get hy
    exact ⟨a, us, v, rfl, rfl, hu, by rw [← ru.length]; exact hv, Post.putL q k ha ru.dropLast rv⟩
  · cases hf
section
variable {o e : Expr} {es : List Expr} {mo : ME} {ms : ML} {apos cpos : Pos}
/-- the list is there ahead of the arguments (argument expressions of these programs take nothing out of the store) -/
def mMt' (f : List D → List D → Option (D × List D)) (mo : ME) (ms : ML) : ME := fun e S => (mo e S).bind fun (o, S1) => match o with
  | .ref p => match S1[p]? with
    | some (.lst _) => (ms e S1).bind fun (ds, S2) => match S2[p]? with
      | some (.lst xs) => (f xs ds).bind fun (d, ys) => some (d, S2.set p (.lst ys))
      | _ => none
    | _ => none
  | _ => none
theorem mt_imp' {r : V → List V → Hp → VK → Prop} {f : List D → List D → Option (D × List D)} (h : MtS K r f) {σ : L2.St} {H : Hp} {Q : VK} (q : tD K (mMt' f mo ms) σ H Q) : tBM K "list" r (tD K mo) (tL K ms) σ H Q := by
  obtain ⟨w, e, S, d, S', re, k, hm, q⟩ := q
  unfold mMt' at hm
  obtain ⟨⟨o, S1⟩, h1, hm⟩ := Option.bind_eq_some_iff.mp hm
  simp only at hm
  split at hm
  · rename_i p
    split at hm
    · rename_i zs hz
      obtain ⟨⟨ds, S2⟩, h2, hm⟩ := Option.bind_eq_some_iff.mp hm
      simp only at hm
      split at hm
      · rename_i xs hx
        obtain ⟨⟨d1, ys⟩, h3, hm⟩ := Option.bind_eq_some_iff.mp hm
        cases hm
        refine ⟨w, e, S, _, S1, re, k, h1, fun w1 H1 v s1 k1 r1 => ?_⟩
        obtain ⟨a, rfl, ha⟩ := r1.ref_inv
        obtain ⟨us0, hu0, _⟩ := k1.lst ha hz
        refine ⟨k1.tyList hu0, w1, e, S1, ds, S2, re.mono s1, k1, h2, fun w2 H2 vs s2 k2 r2 => ?_⟩
        have ha2 : w2.rho[p]? = some a := by
          obtain ⟨m, e⟩ := s2.pre
          rw [e, List.getElem?_append_left (List.getElem?_eq_some_iff.mp ha).1]; exact ha
        obtain ⟨us, hu, ru⟩ := k2.lst ha2 hx
        exact h w2 S2 H2 p a xs ds ys vs us _ Q k2 ha2 hu ru r2 h3 fun w' H' v s' k' r' => q w' H' v ((s1.trans s2).trans s') k' r'
      · cases hm
    · cases hm
  · cases hm
theorem ae_append (ho : AE X o mo) (ha : AA X (e :: es) ms) (hbase : attributeBase o "append" X.env (eval o X.env) = eval o X.env := by rfl)
    (hfew : ((backTo cpos (starEach (e :: es) X.env)).all (fun x => !x.1) && (backToKw cpos (keywordEach [] X.env)).all (fun x => x.1.isSome)
      && decide ((e :: es).length + ([] : List Keyword).length + (if ([] : List Keyword).isEmpty then 0 else 1) < 30)) = true := by rfl)
    (hline : (apos.endLine == cpos.line) = true := by rfl) (hs : starEach (e :: es) X.env = (false, eval e X.env) :: starEach es X.env := by rfl) (hplain : (backTo cpos (starEach es X.env)).any (·.1) = false := by rfl) :
    AE X (.Call (.Attribute o "append" apos) (e :: es) [] cpos) (mMt' fAppend mo ms) := PE.imp (pe_bm PySem.F.plainAttrs_list PySem.F.slot_list_append PySem.F.type_list_append mt_append ho ha hbase hfew hline hs hplain) fun _ _ _ => mt_imp' fAppend_s
theorem ae_pop (ho : AE X o mo) (hbase : attributeBase o "pop" X.env (eval o X.env) = eval o X.env := by rfl) (hline : (apos.endLine == cpos.line) = true := by rfl) :
    AE X (.Call (.Attribute o "pop" apos) [] [] cpos) (mMt fPop mo mNil) := PE.imp (pe_bm0 PySem.F.plainAttrs_list PySem.F.slot_list_pop PySem.F.type_list_pop mt_pop ho hbase hline) fun _ _ _ => mt0_imp fPop_s
end

/-! ### defs -/
mutual
def D.cl (n : Nat) : D → Bool
  | .ref i => decide (i < n)
  | .tup xs => D.clL n xs
  | .lst xs => D.clL n xs
  | .fr xs => D.clL n xs
  | _ => true
def D.clL (n : Nat) : List D → Bool
  | [] => true
  | x :: xs => D.cl n x && D.clL n xs
end
def Ob.cl (n : Nat) : Ob → Bool
  | .lst xs => D.clL n xs
  | .dct kvs => kvs.all fun p => D.cl n p.2
  | .dtt kvs => kvs.all fun p => D.cl n p.2
  | .ins _ fs => fs.all fun p => D.cl n p.2
section
variable {w w' : Wd} {H H' : Hp}
mutual
theorem Rp.cl : ∀ {d : D} {v : V}, Rp K w H d v → D.cl w.rho.length d = true
  | _, _, .non => by simp [D.cl]
  | _, _, .bl b => by simp [D.cl]
  | _, _, .int i => by simp [D.cl]
  | _, _, .str x => by simp [D.cl]
  | _, _, .tup _ _ l => by simp only [D.cl]; exact RpL.cl l
  | _, _, .tupK _ _ l => by simp only [D.cl]; exact RpL.cl l
  | _, _, .lst _ _ l => by simp only [D.cl]; exact RpL.cl l
  | _, _, .fr _ _ l => by simp only [D.cl]; exact RpL.cl l
  | _, _, .frK _ l => by simp only [D.cl]; exact RpL.cl l
  | _, _, .ref h => by simp only [D.cl]; exact decide_eq_true (List.getElem?_eq_some_iff.mp h).1
  | _, _, .rng _ _ => by simp [D.cl]
theorem RpL.cl : ∀ {ds : List D} {vs : List V}, RpL K w H ds vs → D.clL w.rho.length ds = true
  | _, _, .nil => by simp [D.clL]
  | _, _, .cons r t => by simp only [D.clL, Bool.and_eq_true]; exact ⟨Rp.cl r, RpL.cl t⟩
end
theorem RDk.cl : ∀ {ds : List (D × D)} {vs : List (Key × V)}, RDk K w H ds vs → (ds.all fun p => D.cl w.rho.length p.2) = true
  | _, _, .nil => rfl
  | _, _, .cons _ r t => by simp only [List.all_cons, Bool.and_eq_true]; exact ⟨r.cl, RDk.cl t⟩
theorem RDt.cl : ∀ {ds : List (D × D)} {vs : List (List Key × V)}, RDt K w H ds vs → (ds.all fun p => D.cl w.rho.length p.2) = true
  | _, _, .nil => rfl
  | _, _, .cons _ r t => by simp only [List.all_cons, Bool.and_eq_true]; exact ⟨r.cl, RDt.cl t⟩
theorem RFs.cl : ∀ {ds : List (Str × D)} {vs : List (Str × V)}, RFs K w H ds vs → (ds.all fun p => D.cl w.rho.length p.2) = true
  | _, _, .nil => rfl
  | _, _, .cons r t => by simp only [List.all_cons, Bool.and_eq_true]; exact ⟨r.cl, RFs.cl t⟩
theorem RpO.cl {o : Ob} {h : HO} (r : RpO K w H o h) : o.cl w.rho.length = true := by
  cases r with
  | lst r => exact r.cl
  | dK r => exact r.cl
  | dT r => exact r.cl
  | ins r => exact r.cl
mutual
theorem Rp.cut {n : Nat} (hr : w'.rho = w.rho.take n) (hB : ∀ a, w'.B a → w.B a) : ∀ {d : D} {v : V}, Rp K w H d v → D.cl n d = true → Rp K w' H d v
  | _, _, .non, _ => .non
  | _, _, .bl b, _ => .bl b
  | _, _, .int i, _ => .int i
  | _, _, .str x, _ => .str x
  | _, _, .tup o h l, c => .tup ⟨fun z => o.1 (List.mem_of_mem_take (by rw [hr] at z; exact z)), fun z => o.2 (hB _ z)⟩ h (RpL.cut hr hB l (by simpa only [D.cl] using c))
  | _, _, .tupK f h l, c => .tupK f h (RpL.cut hr hB l (by simpa only [D.cl] using c))
  | _, _, .lst o h l, c => .lst ⟨fun z => o.1 (List.mem_of_mem_take (by rw [hr] at z; exact z)), fun z => o.2 (hB _ z)⟩ h (RpL.cut hr hB l (by simpa only [D.cl] using c))
  | _, _, .fr o h l, c => .fr ⟨fun z => o.1 (List.mem_of_mem_take (by rw [hr] at z; exact z)), fun z => o.2 (hB _ z)⟩ h (RpL.cut hr hB l (by simpa only [D.cl] using c))
  | _, _, .frK h l, c => .frK h (RpL.cut hr hB l (by simpa only [D.cl] using c))
  | _, _, .ref h, c => .ref (by
      have hi : _ < n := of_decide_eq_true (by simpa only [D.cl] using c)
      rw [hr, List.getElem?_take_of_lt hi]; exact h)
  | _, _, .rng o h, _ => .rng ⟨fun z => o.1 (List.mem_of_mem_take (by rw [hr] at z; exact z)), fun z => o.2 (hB _ z)⟩ h
theorem RpL.cut {n : Nat} (hr : w'.rho = w.rho.take n) (hB : ∀ a, w'.B a → w.B a) : ∀ {ds : List D} {vs : List V}, RpL K w H ds vs → D.clL n ds = true → RpL K w' H ds vs
  | _, _, .nil, _ => .nil
  | _, _, .cons r t, c => by
    simp only [D.clL, Bool.and_eq_true] at c
    exact .cons (Rp.cut hr hB r c.1) (RpL.cut hr hB t c.2)
end
theorem RDk.cut {n : Nat} (hr : w'.rho = w.rho.take n) (hB : ∀ a, w'.B a → w.B a) : ∀ {ds : List (D × D)} {vs : List (Key × V)}, RDk K w H ds vs → (ds.all fun p => D.cl n p.2) = true → RDk K w' H ds vs
  | _, _, .nil, _ => .nil
  | _, _, .cons k r t, c => by
    simp only [List.all_cons, Bool.and_eq_true] at c
    exact .cons k (r.cut hr hB c.1) (RDk.cut hr hB t c.2)
theorem RDt.cut {n : Nat} (hr : w'.rho = w.rho.take n) (hB : ∀ a, w'.B a → w.B a) : ∀ {ds : List (D × D)} {vs : List (List Key × V)}, RDt K w H ds vs → (ds.all fun p => D.cl n p.2) = true → RDt K w' H ds vs
  | _, _, .nil, _ => .nil
  | _, _, .cons k r t, c => by
    simp only [List.all_cons, Bool.and_eq_true] at c
    exact .cons k (r.cut hr hB c.1) (RDt.cut hr hB t c.2)
theorem RFs.cut {n : Nat} (hr : w'.rho = w.rho.take n) (hB : ∀ a, w'.B a → w.B a) : ∀ {ds : List (Str × D)} {vs : List (Str × V)}, RFs K w H ds vs → (ds.all fun p => D.cl n p.2) = true → RFs K w' H ds vs
  | _, _, .nil, _ => .nil
  | _, _, .cons r t, c => by
    simp only [List.all_cons, Bool.and_eq_true] at c
    exact .cons (r.cut hr hB c.1) (RFs.cut hr hB t c.2)
theorem RpO.cut {n : Nat} (hr : w'.rho = w.rho.take n) (hB : ∀ a, w'.B a → w.B a) {o : Ob} {h : HO} (r : RpO K w H o h) (c : o.cl n = true) : RpO K w' H o h := by
  cases r with
  | lst r => exact .lst (r.cut hr hB c)
  | dK r => exact .dK (r.cut hr hB c)
  | dT r => exact .dT (r.cut hr hB c)
  | ins r => exact .ins (r.cut hr hB c)
end
/-- lists of the store behind n as content -/
def frz (n : Nat) (S : Store) : Nat → D → Option D
  | 0, _ => none
  | k + 1, .ref i => if i < n then some (.ref i) else match S[i]? with
    | some (.lst xs) => (frzL k xs).map .lst
    | _ => none
  | k + 1, .tup xs => (frzL k xs).map .tup
  | k + 1, .lst xs => (frzL k xs).map .lst
  | _ + 1, .fr xs => if D.clL n xs then some (.fr xs) else none
  | _ + 1, d => some d
where frzL (k : Nat) : List D → Option (List D)
  | [] => some []
  | x :: xs => (frz n S k x).bind fun y => (frzL k xs).bind fun ys => some (y :: ys)
theorem frz_ok {w w' : Wd} {H : Hp} {S : Store} {n : Nat} (k0 : Ok K w S H) (hr : w'.rho = w.rho.take n) (hB : ∀ a, w'.B a → w.B a) : ∀ (k : Nat) {d d' : D} {v : V}, Rp K w H d v → frz n S k d = some d' → Rp K w' H d' v
  | 0, _, _, _, _, h => by simp [frz] at h
  | k + 1, d, d', v, r, h => by
    have out : ∀ {a : Addr}, Out w a → Out w' a := fun o => ⟨fun z => o.1 (List.mem_of_mem_take (by rw [hr] at z; exact z)), fun z => o.2 (hB _ z)⟩
    have hL : ∀ (xs ys : List D) (vs : List V), RpL K w H xs vs → frz.frzL n S k xs = some ys → RpL K w' H ys vs := by
      intro xs
      induction xs with
      | nil => intro ys vs r h; simp only [frz.frzL] at h; cases h; cases r; exact .nil
      | cons x xs ih =>
        intro ys vs r h
        simp only [frz.frzL] at h
        obtain ⟨y, h1, h⟩ := Option.bind_eq_some_iff.mp h
        obtain ⟨zs, h2, h⟩ := Option.bind_eq_some_iff.mp h
        cases h
        cases r with
        | cons r t => exact .cons (frz_ok k0 hr hB k r h1) (ih _ _ t h2)
    cases d with
    | ref i =>
      simp only [frz] at h
      obtain ⟨a, rfl, ha⟩ := r.ref_inv
      split at h
      · rename_i hi
        cases h
        exact .ref (by rw [hr, List.getElem?_take_of_lt hi]; exact ha)
      · rename_i hi
        split at h
        · rename_i xs hx
          obtain ⟨ys, h1, h⟩ := Option.map_eq_some_iff.mp h
          subst h
          obtain ⟨vs, h2, h3⟩ := k0.lst ha hx
          refine .lst ⟨fun z => ?_, fun z => k0.nb a (List.mem_of_getElem? ha) (hB _ z)⟩ h2 (hL _ _ _ h3 h1)
          rw [hr] at z
          obtain ⟨j, hj, e⟩ := List.getElem_of_mem z
          rw [List.getElem_take] at e
          obtain ⟨l1, e1⟩ := List.getElem?_eq_some_iff.mp ha
          have hjn : j < n := by rw [List.length_take] at hj; omega
          have := (List.getElem_inj k0.nd).mp (e.trans e1.symm)
          omega
        · cases h
    | tup xs =>
      simp only [frz] at h
      obtain ⟨ys, h1, h⟩ := Option.map_eq_some_iff.mp h
      subst h
      cases r with
      | tup o q l => exact .tup (out o) q (hL _ _ _ l h1)
      | tupK f q l => exact .tupK f q (hL _ _ _ l h1)
    | lst xs =>
      simp only [frz] at h
      obtain ⟨ys, h1, h⟩ := Option.map_eq_some_iff.mp h
      subst h
      cases r with
      | lst o q l => exact .lst (out o) q (hL _ _ _ l h1)
    | fr xs =>
      simp only [frz] at h
      split at h
      · rename_i hc
        cases h
        exact r.cut hr hB (by simp only [D.cl]; exact hc)
      · cases h
    | rng lo hi => simp only [frz] at h; cases h; exact r.cut hr hB (by simp [D.cl])
    | non => simp only [frz] at h; cases h; exact r.cut hr hB (by simp [D.cl])
    | bl b => simp only [frz] at h; cases h; exact r.cut hr hB (by simp [D.cl])
    | int i => simp only [frz] at h; cases h; exact r.cut hr hB (by simp [D.cl])
    | str i => simp only [frz] at h; cases h; exact r.cut hr hB (by simp [D.cl])
/-- how a def ends: pure (its own lists as content); as it is; its own lists thrown away -/
inductive Mode where
  | pure
  | keep
  | cut
def fin (m : Mode) (S : Store) (d : D) (S' : Store) : Option (D × Store) := match m with
  | .pure => if S'.take S.length = S then (frz S.length S' 12 d).map fun d => (d, S) else none
  | .keep => some (d, S')
  | .cut => if (((S'.take S.length).zip S).all fun p => decide (p.1 = p.2) || Ob.cl S.length p.1) = true ∧ S.length ≤ S'.length then (frz S.length S' 12 d).map fun d => (d, S'.take S.length) else none
abbrev Fn := List D → Store → Option (D × Store)
def fnM (nN np : Nat) (m : Mode) (body : MS) : Fn := fun ds S => if ds.length = np then (body (ds.map some ++ List.replicate (nN - np) none) S).bind fun (f, S') => match f with
    | .rt d => fin m S d S'
    | .nx _ => fin m S .non S'
    | _ => none
  else none
def spD (K : PySem.W.Frag) (np : Nat) (M : Fn) : Sp := fun vs H Q _ => vs.length = np ∧ ∃ w S ds d S', RpL K w H ds vs ∧ Ok K w S H ∧ M ds S = some (d, S') ∧ Post K w H S' d Q
theorem cut_ok {w w1 : Wd} {H H1 : Hp} {S S1 S2 : Store} (k : Ok K w S H) (s : Stp w H w1 H1) (k1 : Ok K w1 S1 H1) (hl : S.length ≤ S1.length) (e : S2 = S1.take S.length) (hc : ∀ x ∈ S2, Ob.cl S.length x = true) :
    ∃ w2 : Wd, w2.rho = w1.rho.take S.length ∧ (∀ a, w2.B a → w1.B a) ∧ Stp w H w2 H1 ∧ Ok K w2 S2 H1 := by
  have hr : w.rho = w1.rho.take S.length := by
    obtain ⟨m, em⟩ := s.pre
    rw [em, ← k.len, List.take_left']
    rfl
  refine ⟨⟨w.rho, w1.B⟩, hr, fun _ z => z, ⟨s.B, ⟨[], by simp⟩, fun b o h n => ⟨(s.keep b o h n).1, n⟩⟩, ⟨?_, k.nd, fun i a o h1 h2 => ?_, fun a ha z => ?_, k1.bt⟩⟩
  · show w.rho.length = S2.length
    rw [k.len, e, List.length_take]; omega
  · have h1 : w.rho[i]? = some a := h1
    have hi : i < S.length := by rw [← k.len]; exact (List.getElem?_eq_some_iff.mp h1).1
    have h2' : S1[i]? = some o := by rw [e, List.getElem?_take_of_lt hi] at h2; exact h2
    have h1' : w1.rho[i]? = some a := by rw [hr, List.getElem?_take_of_lt hi] at h1; exact h1
    obtain ⟨x, e1, r1⟩ := k1.ob i a o h1' h2'
    exact ⟨x, e1, RpO.cut (w := w1) (w' := ⟨w.rho, w1.B⟩) hr (fun _ z => z) r1 (hc o (List.mem_of_getElem? h2))⟩
  · have ha : a ∈ w.rho := ha
    rw [hr] at ha
    exact k1.nb a (List.mem_of_mem_take ha) z
theorem fin_ok {m : Mode} {w w1 : Wd} {H H1 : Hp} {S S1 S2 : Store} {d d2 : D} {v : V} {Q : VK} (k : Ok K w S H) (s : Stp w H w1 H1) (k1 : Ok K w1 S1 H1) (r : Rp K w1 H1 d v) (h : fin m S d S1 = some (d2, S2)) (q : Post K w H S2 d2 Q) : Q v H1 := by
  have hlen : S.length ≤ S1.length := by
    obtain ⟨m, em⟩ := s.pre
    rw [← k.len, ← k1.len, em, List.length_append]; omega
  cases m with
  | keep => cases h; exact q w1 H1 v s k1 r
  | pure =>
    simp only [fin] at h
    split at h
    · rename_i e
      obtain ⟨d3, h1, h⟩ := Option.map_eq_some_iff.mp h
      cases h
      obtain ⟨w2, a1, a2, a3, a4⟩ := cut_ok k s k1 hlen e.symm fun x hx => by
        obtain ⟨i, hi, e⟩ := List.getElem_of_mem hx
        have hiw : i < w.rho.length := by rw [k.len]; exact hi
        obtain ⟨y, _, ry⟩ := k.ob i _ x (List.getElem?_eq_getElem hiw) (by rw [List.getElem?_eq_getElem hi, e])
        rw [← k.len]; exact ry.cl
      exact q w2 H1 v a3 a4 (frz_ok k1 a1 a2 12 r h1)
    · cases h
  | cut =>
    simp only [fin] at h
    split at h
    · rename_i e
      obtain ⟨d3, h1, h⟩ := Option.map_eq_some_iff.mp h
      cases h
      obtain ⟨w2, a1, a2, a3, a4⟩ := cut_ok k s k1 hlen rfl fun x hx => by
        obtain ⟨i, hi, ex⟩ := List.getElem_of_mem hx
        have hi2 : i < S.length := by rw [List.length_take] at hi; omega
        have hz : (x, S[i]) ∈ (S1.take S.length).zip S := by
          rw [← ex]
          have hl : i < ((S1.take S.length).zip S).length := by rw [List.length_zip]; omega
          have := List.getElem_mem hl
          rwa [List.getElem_zip] at this
        have := List.all_eq_true.mp e.1 _ hz
        rw [Bool.or_eq_true] at this
        rcases this with z | z
        · have z : x = S[i] := of_decide_eq_true z
          have hiw : i < w.rho.length := by rw [k.len]; exact hi2
          obtain ⟨y, _, ry⟩ := k.ob i _ x (List.getElem?_eq_getElem hiw) (by rw [List.getElem?_eq_getElem hi2, z])
          rw [← k.len]; exact ry.cl
        · exact z
      exact q w2 H1 v a3 a4 (frz_ok k1 a1 a2 12 r h1)
    · cases h
section
variable {P : Program} {w : World} {mg : Str → Option Value} {base : Heap}
theorem fn_D {x qual : Str} {st : Stmt} {f : Addr} {fd : FuncData} {N ps : List Str} {k : Nat} {m : Mode} {body : MS} (F : Fun K x qual st f fd) (S : FnScope N ps (defScope st))
    (hb : ∀ (cdv : Value) (A : Around) (outer : List Env) (s : Shared) (H : Hp) (E : XK), Room k (A.deeper (envOfC qual (defScope st) s.heap.objs.size f cdv)) →
      ASs (cxOf CX0 P w K mg base N qual (defScope st) f cdv A outer s H E).nox (defBody st) body) (hN : ps.length ≤ N.length := by decide) : FnOk P w K mg base CX0 (k + 1) f fd ps (spD K ps.length (fnM N.length ps.length m body)) := by
  refine F.ok S (fun vs H Q E h => h.1) (fun cdv A outer s H vs Q E hr h => ⟨_, hb cdv A outer s H E hr, ?_⟩)
  obtain ⟨hl, w0, S0, ds, d, S', r, k0, hm, q⟩ := h
  unfold fnM at hm
  split at hm
  · rename_i hl2
    obtain ⟨⟨fl, S1⟩, h1, hm⟩ := Option.bind_eq_some_iff.mp hm
    refine ⟨w0, _, S0, fl, S1, ?_, k0, h1, fun w1 H1 s1 k1 => ?_⟩
    · unfold L2.start
      refine ⟨by simp [r.length, hl], fun i x hx => ?_⟩
      by_cases hi : i < ds.length
      · rw [List.getElem?_append_left (by simpa using hi), List.getElem?_map] at hx
        cases hd : ds[i]? with
        | none => rw [hd] at hx; cases hx
        | some y =>
          rw [hd] at hx
          have e : y = x := by simpa using hx
          subst e
          obtain ⟨v, hv, rv⟩ := r.get hd
          refine ⟨v, ?_, rv⟩
          rw [List.getElem?_append_left (by simp; rw [← r.length]; exact hi), List.getElem?_map, hv]
          rfl
      · rw [List.getElem?_append_right (by simp; omega)] at hx
        rw [List.getElem?_replicate] at hx
        split at hx <;> cases hx
    · cases fl with
      | rt d1 => exact fun v rv => fin_ok k0 s1 k1 rv hm q
      | nx e1 => exact fun σ re => fin_ok k0 s1 k1 .non hm q
      | bk e1 => cases hm
      | ct e1 => cases hm
  · cases hm
end
def mCall (M : Fn) (ms : ML) : ME := fun e S => (ms e S).bind fun (ds, S1) => M ds S1
theorem ae_call {x : Str} {p pos : Pos} {e : Expr} {es : List Expr} {ms : ML} {k j : Nat} {f : Addr} {fd : FuncData} {ps : List Str} {M : Fn} {np : Nat} (F : FnOk X.prog X.w X.K X.mg X.base CX0 k f fd ps (spD X.K np M)) (hr : Room j X.A) (hm : X.mg x = some (.ref f))
    (hk : PySem.W.keepIn X.K (.ref f) = true) (hb : Binds X.K fd ps []) (ha : AA X (e :: es) ms) (hnp : ∀ e0 S ds S', ms e0 S = some (ds, S') → ds.length = np) (hkj : k ≤ j := by decide) (hg : Gl X x := by rfl) (hdb : (x == ("__debug__" : Str)) = false := by decide)
    (he : starEach (e :: es) X.env = (false, eval e X.env) :: starEach es X.env := by rfl) (hpl : (backTo pos (starEach es X.env)).any (·.1) = false := by rfl) : AE X (.Call (.Name x p) (e :: es) [] pos) (mCall M ms) :=
  PE.imp (pe_call F (hr.mono hkj) hg hm hk hb .nil pass0 ha hdb he hpl) fun σ H Q ⟨w, e, S, d, S', re, k, hm, q⟩ => by
    unfold mCall at hm
    obtain ⟨⟨ds, S1⟩, h1, hm⟩ := Option.bind_eq_some_iff.mp hm
    refine ⟨w, e, S, ds, S1, re, k, h1, fun w1 H1 vs s1 k1 r1 => ?_⟩
    show spD X.K np M (vs ++ []) H1 Q E0
    rw [List.append_nil]
    exact ⟨by rw [← r1.length]; exact hnp _ _ _ _ h1, w1, S1, ds, d, S', r1, k1, hm, fun w2 H2 v s2 k2 r2 => q w2 H2 v (s1.trans s2) k2 r2⟩
theorem np_nil {e0 : Ev} {S : Store} {ds : List D} {S' : Store} (h : mNil e0 S = some (ds, S')) : ds.length = 0 := by cases h; rfl
theorem np_cons {m : ME} {ms : ML} {n : Nat} (h : ∀ e0 S ds S', ms e0 S = some (ds, S') → ds.length = n) (e0 : Ev) (S : Store) (ds : List D) (S' : Store) (q : mCons m ms e0 S = some (ds, S')) : ds.length = n + 1 := by
  unfold mCons at q
  obtain ⟨⟨d1, S1⟩, h1, q⟩ := Option.bind_eq_some_iff.mp q
  obtain ⟨⟨ds2, S2⟩, h2, q⟩ := Option.bind_eq_some_iff.mp q
  cases q
  simp [h _ _ _ _ h2]
end
end DV

namespace DV
open PySem PySem.Spec PyProof.Rows L2
section
variable {X : Cx} {K : PySem.W.Frag} {a b : Expr} {ma mb : ME} {pos : Pos}
theorem ae_add (ha : AE X a ma) (hb : AE X b mb) : AE X (.BinOp a .Add b pos) (mBin fAdd ma mb) := by obtain ⟨r, h1, h2⟩ := opS_add (X := X); exact ae_op h1 h2 ha hb
theorem ae_sub (ha : AE X a ma) (hb : AE X b mb) : AE X (.BinOp a .Sub b pos) (mBin fSub ma mb) := by obtain ⟨r, h1, h2⟩ := opS_sub (X := X); exact ae_op h1 h2 ha hb
theorem ae_mul (ha : AE X a ma) (hb : AE X b mb) : AE X (.BinOp a .Mult b pos) (mBin fMul ma mb) := by obtain ⟨r, h1, h2⟩ := opS_mul (X := X); exact ae_op h1 h2 ha hb
theorem ae_mod (ha : AE X a ma) (hb : AE X b mb) : AE X (.BinOp a .Mod b pos) (mBin fMod ma mb) := by obtain ⟨r, h1, h2⟩ := opS_mod (X := X); exact ae_op h1 h2 ha hb
theorem ae_div (ha : AE X a ma) (hb : AE X b mb) : AE X (.BinOp a .FloorDiv b pos) (mBin fDiv ma mb) := by obtain ⟨r, h1, h2⟩ := opS_div (X := X); exact ae_op h1 h2 ha hb
theorem ae_pow (ha : AE X a ma) (hb : AE X b mb) : AE X (.BinOp a .Pow b pos) (mBin fPow ma mb) := by obtain ⟨r, h1, h2⟩ := opS_pow (X := X); exact ae_op h1 h2 ha hb
/-- a + b, a new list -/
def mCat (ma mb : ME) : ML := fun e S => (ma e S).bind fun (a, S1) => (mb e S1).bind fun (b, S2) => (lstTr a S2).bind fun xs => (lstTr b S2).bind fun ys => if xs.length + ys.length ≤ LIM then some (xs ++ ys, S2) else none
theorem af_cat (ha : AE X a ma) (hb : AE X b mb) : AF X (.BinOp a .Add b pos) (mCat ma mb) := PE.imp (pe_op op_cat ha hb) fun σ H Q ⟨w, e, S, d, S', re, k, hm, q⟩ => by
  unfold mCat at hm
  obtain ⟨⟨d1, S1⟩, h1, hm⟩ := Option.bind_eq_some_iff.mp hm
  obtain ⟨⟨d2, S2⟩, h2, hm⟩ := Option.bind_eq_some_iff.mp hm
  obtain ⟨xs, h3, hm⟩ := Option.bind_eq_some_iff.mp hm
  obtain ⟨ys, h4, hm⟩ := Option.bind_eq_some_iff.mp hm
  split at hm
  · rename_i hz
    cases hm
    refine ⟨w, e, S, d1, S1, re, k, h1, fun w1 H1 x s1 k1 r1 => ⟨w1, e, S1, d2, _, re.mono s1, k1, h2, fun w2 H2 y s2 k2 r2 => ?_⟩⟩
    obtain ⟨p, vs, e1, g1, q1⟩ := lst_tr k2 (r1.mono s2) h3
    obtain ⟨p2, us, e2, g2, q2⟩ := lst_tr k2 r2 h4
    exact ⟨p, p2, vs, us, e1, e2, g1, g2, by rw [lim_eq, ← q1.length, ← q2.length]; exact hz, fun z hz => q w2 H2 z _ (s1.trans s2) k2 hz (q1.append q2)⟩
  · cases hm
/-- [x] * n, a new list -/
def mRepL (ma mb : ME) : ML := fun e S => (ma e S).bind fun (a, S1) => (mb e S1).bind fun (b, S2) => (lstTr a S2).bind fun xs => match b with
  | .int j => if -(2 ^ 63) ≤ j ∧ j < 2 ^ 63 ∧ xs.length * j.toNat ≤ LIM then some ((List.replicate j.toNat xs).flatten, S2) else none
  | _ => none
theorem af_rep (ha : AE X a ma) (hb : AE X b mb) : AF X (.BinOp a .Mult b pos) (mRepL ma mb) := PE.imp (pe_op op_rep ha hb) fun σ H Q ⟨w, e, S, d, S', re, k, hm, q⟩ => by
  unfold mRepL at hm
  obtain ⟨⟨d1, S1⟩, h1, hm⟩ := Option.bind_eq_some_iff.mp hm
  obtain ⟨⟨d2, S2⟩, h2, hm⟩ := Option.bind_eq_some_iff.mp hm
  obtain ⟨xs, h3, hm⟩ := Option.bind_eq_some_iff.mp hm
  split at hm
  · split at hm
    · rename_i hz
      cases hm
      refine ⟨w, e, S, d1, S1, re, k, h1, fun w1 H1 x s1 k1 r1 => ⟨w1, e, S1, _, _, re.mono s1, k1, h2, fun w2 H2 y s2 k2 r2 => ?_⟩⟩
      obtain ⟨p, vs, e1, g1, q1⟩ := lst_tr k2 (r1.mono s2) h3
      exact ⟨p, _, vs, e1, r2.int_inv, g1, hz.1, hz.2.1, by rw [lim_eq, ← q1.length]; exact hz.2.2, fun z hz => q w2 H2 z _ (s1.trans s2) k2 hz (q1.rep _)⟩
    · cases hm
  · cases hm

/-! ### order of data -/
def dlt (a b : D) : Bool := PySem.W.dataLt a.py b.py
def dalike (a b : D) : Bool := PySem.W.alike a.py b.py
def notNonB : D → Bool
  | .non => false
  | _ => true
/-- numbers by their order, data that are alike by theirs -/
def fCmp (pI : Int → Int → Bool) (pD : D → D → Bool) : D → D → Store → Option (D × Store)
  | .int i, .int j, S => some (.bl (pI i j), S)
  | a, b, S => if D.fit 32 a ∧ D.fit 32 b ∧ dalike a b ∧ notNonB a then some (.bl (pD a b), S) else none
def rCmpD (K : PySem.W.Frag) (p : PyData → PyData → Bool) : R2 := fun x y H Q => ∃ d e, Dp K H x d ∧ Dp K H y e ∧ PySem.W.alike d e = true ∧ d ≠ .none ∧ d.depth ≤ 64 ∧ Q (.bl (p d e)) H
theorem op_ltD (hu : X.A.units + 64 < cLine) : OpR X (compareOp .Lt) (rCmpD X.K fun d e => PySem.W.dataLt d e) := by
  intro pins s σ H x y v u Q I rx ry h
  obtain ⟨d, e, hd, he, ha, hn, hz, q⟩ := h
  obtain ⟨as, r1⟩ := Dp.reads I d x v hd rx
  obtain ⟨bs, r2⟩ := Dp.reads I e y u he ry
  exact PySem.W.lt_data r1 r2 ha hn (by omega) ⟨.bl _, H, I, rfl, q⟩
theorem op_gtD (hu : X.A.units + 64 < cLine) : OpR X (compareOp .Gt) (rCmpD X.K fun d e => PySem.W.dataLt e d) := by
  intro pins s σ H x y v u Q I rx ry h
  obtain ⟨d, e, hd, he, ha, hn, hz, q⟩ := h
  obtain ⟨as, r1⟩ := Dp.reads I d x v hd rx
  obtain ⟨bs, r2⟩ := Dp.reads I e y u he ry
  exact PySem.W.gt_data r1 r2 ha hn (by omega) ⟨.bl _, H, I, rfl, q⟩
theorem op_leD (hu : X.A.units + 64 < cLine) : OpR X (compareOp .LtE) (rCmpD X.K fun d e => !PySem.W.dataLt e d) := by
  intro pins s σ H x y v u Q I rx ry h
  obtain ⟨d, e, hd, he, ha, hn, hz, q⟩ := h
  obtain ⟨as, r1⟩ := Dp.reads I d x v hd rx
  obtain ⟨bs, r2⟩ := Dp.reads I e y u he ry
  exact PySem.W.le_data r1 r2 ha hn (by omega) ⟨.bl _, H, I, rfl, q⟩
theorem op_geD (hu : X.A.units + 64 < cLine) : OpR X (compareOp .GtE) (rCmpD X.K fun d e => !PySem.W.dataLt d e) := by
  intro pins s σ H x y v u Q I rx ry h
  obtain ⟨d, e, hd, he, ha, hn, hz, q⟩ := h
  obtain ⟨as, r1⟩ := Dp.reads I d x v hd rx
  obtain ⟨bs, r2⟩ := Dp.reads I e y u he ry
  exact PySem.W.ge_data r1 r2 ha hn (by omega) ⟨.bl _, H, I, rfl, q⟩
theorem notNon_py : ∀ {d : D}, D.fit 32 d = true → notNonB d = true → d.py ≠ .none
  | .non, _, h => by simp [notNonB] at h
  | .bl _, _, _ => by simp [D.py]
  | .int _, _, _ => by simp [D.py]
  | .str _, _, _ => by simp [D.py]
  | .tup _, _, _ => by simp [D.py]
  | .lst _, _, _ => by simp [D.py]
  | .ref _, h, _ => by simp [D.fit] at h
  | .fr _, h, _ => by simp [D.fit] at h
  | .rng _ _, h, _ => by simp [D.fit] at h
theorem fCmp_s {pI : Int → Int → Bool} {pD : D → D → Bool} {p : PyData → PyData → Bool} (hp : ∀ a b, pD a b = p a.py b.py) : OpS K (fun x y H Q => rI0 (fun i j => .bl (pI i j)) x y H Q ∨ rCmpD K p x y H Q) (fCmp pI pD) := by
  intro w S H a b d x y S' Q k ra rb hm q
  unfold fCmp at hm
  split at hm
  · cases hm
    exact .inl ⟨_, _, ra.int_inv, rb.int_inv, q w H _ .refl k (.bl _)⟩
  · split at hm
    · rename_i h
      cases hm
      have h1 := D.fit_lay a 32 h.1
      exact .inr ⟨a.py, b.py, ra.dp _ _ _ h.1, rb.dp _ _ _ h.2.1, h.2.2.1, notNon_py h.1 h.2.2.2, by omega, by rw [← hp]; exact q w H _ .refl k (.bl _)⟩
    · cases hm
abbrev fLtD := fCmp (fun i j => decide (i < j)) fun a b => dlt a b
abbrev fLeD := fCmp (fun i j => decide (i ≤ j)) fun a b => !dlt b a
abbrev fGtD := fCmp (fun i j => decide (j < i)) fun a b => dlt b a
abbrev fGeD := fCmp (fun i j => decide (j ≤ i)) fun a b => !dlt a b
section
variable {j : Nat} (hr : Room j X.A)
include hr
theorem ae_lt (ha : AE X a ma) (hb : AE X b mb) : AE X (.Compare a [.Lt] [b] pos) (mBin fLtD ma mb) := ae_cmp (op_lt.or (op_ltD hr.units)) (fCmp_s fun _ _ => rfl) ha hb (nomark _)
theorem ae_le (ha : AE X a ma) (hb : AE X b mb) : AE X (.Compare a [.LtE] [b] pos) (mBin fLeD ma mb) := ae_cmp (op_le.or (op_leD hr.units)) (fCmp_s fun _ _ => rfl) ha hb (nomark _)
theorem ae_gt (ha : AE X a ma) (hb : AE X b mb) : AE X (.Compare a [.Gt] [b] pos) (mBin fGtD ma mb) := ae_cmp (op_gt.or (op_gtD hr.units)) (fCmp_s fun _ _ => rfl) ha hb (nomark _)
theorem ae_ge (ha : AE X a ma) (hb : AE X b mb) : AE X (.Compare a [.GtE] [b] pos) (mBin fGeD ma mb) := ae_cmp (op_ge.or (op_geD hr.units)) (fCmp_s fun _ _ => rfl) ha hb (nomark _)
theorem ae_eq (ha : AE X a ma) (hb : AE X b mb) : AE X (.Compare a [.Eq] [b] pos) (mBin fEq ma mb) := ae_cmp (op_eqD hr.units) fEq_s ha hb (nomark _)
theorem ae_ne (ha : AE X a ma) (hb : AE X b mb) : AE X (.Compare a [.NotEq] [b] pos) (mBin fNe ma mb) := ae_cmp (op_neD hr.units) fNe_s ha hb (nomark _)
theorem ae_in (ha : AE X a ma) (hb : AE X b mb) (hm : behindInMarks .In b = false := by rfl) : AE X (.Compare a [.In] [b] pos) (mBin fIn ma mb) := ae_cmp (op_inA (by have := hr.un; omega)) (fInB_s false) ha hb hm
theorem ae_nin (ha : AE X a ma) (hb : AE X b mb) (hm : behindInMarks .NotIn b = false := by rfl) : AE X (.Compare a [.NotIn] [b] pos) (mBin fNotIn ma mb) := ae_cmp (op_notInA (by have := hr.un; omega)) (fInB_s true) ha hb hm
theorem at_lt (ha : AE X a ma) (hb : AE X b mb) : AT X (.Compare a [.Lt] [b] pos) (mTV (mBin fLtD ma mb)) := at_cmp (op_lt.or (op_ltD hr.units)) (fCmp_s fun _ _ => rfl) ha hb (nomark _)
theorem at_le (ha : AE X a ma) (hb : AE X b mb) : AT X (.Compare a [.LtE] [b] pos) (mTV (mBin fLeD ma mb)) := at_cmp (op_le.or (op_leD hr.units)) (fCmp_s fun _ _ => rfl) ha hb (nomark _)
theorem at_gt (ha : AE X a ma) (hb : AE X b mb) : AT X (.Compare a [.Gt] [b] pos) (mTV (mBin fGtD ma mb)) := at_cmp (op_gt.or (op_gtD hr.units)) (fCmp_s fun _ _ => rfl) ha hb (nomark _)
theorem at_ge (ha : AE X a ma) (hb : AE X b mb) : AT X (.Compare a [.GtE] [b] pos) (mTV (mBin fGeD ma mb)) := at_cmp (op_ge.or (op_geD hr.units)) (fCmp_s fun _ _ => rfl) ha hb (nomark _)
theorem at_eq (ha : AE X a ma) (hb : AE X b mb) : AT X (.Compare a [.Eq] [b] pos) (mTV (mBin fEq ma mb)) := at_cmp (op_eqD hr.units) fEq_s ha hb (nomark _)
theorem at_ne (ha : AE X a ma) (hb : AE X b mb) : AT X (.Compare a [.NotEq] [b] pos) (mTV (mBin fNe ma mb)) := at_cmp (op_neD hr.units) fNe_s ha hb (nomark _)
theorem at_in (ha : AE X a ma) (hb : AE X b mb) (hm : behindInMarks .In b = false := by rfl) : AT X (.Compare a [.In] [b] pos) (mTV (mBin fIn ma mb)) := at_cmp (op_inA (by have := hr.un; omega)) (fInB_s false) ha hb hm
theorem at_nin (ha : AE X a ma) (hb : AE X b mb) (hm : behindInMarks .NotIn b = false := by rfl) : AT X (.Compare a [.NotIn] [b] pos) (mTV (mBin fNotIn ma mb)) := at_cmp (op_notInA (by have := hr.un; omega)) (fInB_s true) ha hb hm
end
theorem ae_is (ha : AE X a ma) (hb : AE X b mb) : AE X (.Compare a [.Is] [b] pos) (mBin fIsN ma mb) := ae_cmp (op_isN.or op_isBl) fIsN_s ha hb (nomark _)
theorem ae_isnot (ha : AE X a ma) (hb : AE X b mb) : AE X (.Compare a [.IsNot] [b] pos) (mBin fNotN ma mb) := ae_cmp (op_notN.or op_notBl) fNotN_s ha hb (nomark _)
theorem at_is (ha : AE X a ma) (hb : AE X b mb) : AT X (.Compare a [.Is] [b] pos) (mTV (mBin fIsN ma mb)) := at_cmp (op_isN.or op_isBl) fIsN_s ha hb (nomark _)
theorem at_isnot (ha : AE X a ma) (hb : AE X b mb) : AT X (.Compare a [.IsNot] [b] pos) (mTV (mBin fNotN ma mb)) := at_cmp (op_notN.or op_notBl) fNotN_s ha hb (nomark _)
theorem ae_sub' (ha : AE X a ma) (hb : AE X b mb) (hs : PlainIx b := by exact fun _ _ => rfl) : AE X (.Subscript a b pos) (mBin fIx ma mb) := ae_ix ix_seq fIx_s ha hb hs
section
variable {p : Pos} {e : Expr} {es : List Expr} {ms : ML}
theorem ae_len (hm : X.mg "len" = none) (ha : AA X (e :: es) ms) (hg : Gl X "len" := by rfl) (he : starEach (e :: es) X.env = (false, eval e X.env) :: starEach es X.env := by rfl) (hpl : (backTo pos (starEach es X.env)).any (·.1) = false := by rfl) : AE X (.Call (.Name "len" p) (e :: es) [] pos) (mCB fLen ms) :=
  ae_callB call_len fLen_s hm ha hg (by decide +kernel) (by decide) (by decide) he hpl
theorem ae_sum (hc : X.calm = true) (hm : X.mg "sum" = none) (ha : AA X (e :: es) ms) (hg : Gl X "sum" := by rfl) (he : starEach (e :: es) X.env = (false, eval e X.env) :: starEach es X.env := by rfl) (hpl : (backTo pos (starEach es X.env)).any (·.1) = false := by rfl) : AE X (.Call (.Name "sum" p) (e :: es) [] pos) (mCB fSum ms) :=
  ae_callB (cr_sum hc) fSum_s hm ha hg (by decide +kernel) (by decide) (by decide) he hpl
theorem ae_any (hc : X.calm = true) (hm : X.mg "any" = none) (ha : AA X (e :: es) ms) (hg : Gl X "any" := by rfl) (he : starEach (e :: es) X.env = (false, eval e X.env) :: starEach es X.env := by rfl) (hpl : (backTo pos (starEach es X.env)).any (·.1) = false := by rfl) : AE X (.Call (.Name "any" p) (e :: es) [] pos) (mCB fAny ms) :=
  ae_callB (cr_any hc) fAny_s hm ha hg (by decide +kernel) (by decide) (by decide) he hpl
theorem ae_all (hc : X.calm = true) (hm : X.mg "all" = none) (ha : AA X (e :: es) ms) (hg : Gl X "all" := by rfl) (he : starEach (e :: es) X.env = (false, eval e X.env) :: starEach es X.env := by rfl) (hpl : (backTo pos (starEach es X.env)).any (·.1) = false := by rfl) : AE X (.Call (.Name "all" p) (e :: es) [] pos) (mCB fAll ms) :=
  ae_callB (cr_all hc) fAll_s hm ha hg (by decide +kernel) (by decide) (by decide) he hpl
theorem ae_abs (hm : X.mg "abs" = none) (ha : AA X (e :: es) ms) (hg : Gl X "abs" := by rfl) (he : starEach (e :: es) X.env = (false, eval e X.env) :: starEach es X.env := by rfl) (hpl : (backTo pos (starEach es X.env)).any (·.1) = false := by rfl) : AE X (.Call (.Name "abs" p) (e :: es) [] pos) (mCB fAbs ms) :=
  ae_callB call_abs fAbs_s hm ha hg (by decide +kernel) (by decide) (by decide) he hpl
theorem ae_intC (hm : X.mg "int" = none) (ha : AA X (e :: es) ms) (hg : Gl X "int" := by rfl) (he : starEach (e :: es) X.env = (false, eval e X.env) :: starEach es X.env := by rfl) (hpl : (backTo pos (starEach es X.env)).any (·.1) = false := by rfl) : AE X (.Call (.Name "int" p) (e :: es) [] pos) (mCB fInt ms) :=
  ae_callTy call_int1 fInt_s hm ha hg (by decide +kernel) (by decide) (by decide) he hpl
theorem ae_tuple (hm : X.mg "tuple" = none) (ha : AA X (e :: es) ms) (hg : Gl X "tuple" := by rfl) (he : starEach (e :: es) X.env = (false, eval e X.env) :: starEach es X.env := by rfl) (hpl : (backTo pos (starEach es X.env)).any (·.1) = false := by rfl) : AE X (.Call (.Name "tuple" p) (e :: es) [] pos) (mCB fTuple ms) :=
  ae_callTy call_tuple_ofF fTuple_s hm ha hg (by decide +kernel) (by decide) (by decide) he hpl
theorem ae_rng1 (hm : X.mg "range" = none) (ha : AA X (e :: es) ms) (hg : Gl X "range" := by rfl) (he : starEach (e :: es) X.env = (false, eval e X.env) :: starEach es X.env := by rfl) (hpl : (backTo pos (starEach es X.env)).any (·.1) = false := by rfl) : AE X (.Call (.Name "range" p) (e :: es) [] pos) (mCB fRng1 ms) :=
  ae_callTy cr_range1 fRng1_s hm ha hg (by decide +kernel) (by decide) (by decide) he hpl
theorem ae_rng2 (hm : X.mg "range" = none) (ha : AA X (e :: es) ms) (hg : Gl X "range" := by rfl) (he : starEach (e :: es) X.env = (false, eval e X.env) :: starEach es X.env := by rfl) (hpl : (backTo pos (starEach es X.env)).any (·.1) = false := by rfl) : AE X (.Call (.Name "range" p) (e :: es) [] pos) (mCB fRng2 ms) :=
  ae_callTy cr_range2 fRng2_s hm ha hg (by decide +kernel) (by decide) (by decide) he hpl
end
/-! ### min, max, sorted of data -/
theorem D.py_inj : ∀ (a : D) (n m : Nat) (b : D), D.fit n a = true → D.fit m b = true → a.py = b.py → a = b := by
  intro a
  exact go a
where
  go : ∀ (a : D) (n m : Nat) (b : D), D.fit n a = true → D.fit m b = true → a.py = b.py → a = b
    | .non, n, m, b, _, hb, e => by cases b <;> simp_all [D.py, D.fit]
    | .bl _, n, m, b, _, hb, e => by cases b <;> simp_all [D.py, D.fit]
    | .int _, n, m, b, _, hb, e => by cases b <;> simp_all [D.py, D.fit]
    | .str _, n, m, b, _, hb, e => by cases b <;> simp_all [D.py, D.fit]
    | .tup xs, n, m, b, ha, hb, e => by
      cases b with
      | tup ys =>
        cases n with
        | zero => simp [D.fit] at ha
        | succ n =>
          cases m with
          | zero => simp [D.fit] at hb
          | succ m =>
            simp only [D.fit] at ha hb
            simp only [D.py, PyData.tuple.injEq] at e
            rw [goL xs n m ys ha hb e]
      | _ => simp_all [D.py, D.fit]
    | .lst xs, n, m, b, ha, hb, e => by
      cases b with
      | lst ys =>
        cases n with
        | zero => simp [D.fit] at ha
        | succ n =>
          cases m with
          | zero => simp [D.fit] at hb
          | succ m =>
            simp only [D.fit] at ha hb
            simp only [D.py, PyData.list.injEq] at e
            rw [goL xs n m ys ha hb e]
      | _ => simp_all [D.py, D.fit]
    | .ref _, n, m, b, ha, _, _ => by simp [D.fit] at ha
    | .fr _, n, m, b, ha, _, _ => by simp [D.fit] at ha
    | .rng _ _, n, m, b, ha, _, _ => by simp [D.fit] at ha
  goL : ∀ (a : List D) (n m : Nat) (b : List D), D.fitL n a = true → D.fitL m b = true → D.pyL a = D.pyL b → a = b
    | [], _, _, [], _, _, _ => rfl
    | [], _, _, _ :: _, _, _, e => by simp [D.pyL] at e
    | _ :: _, _, _, [], _, _, e => by simp [D.pyL] at e
    | x :: xs, n, m, y :: ys, ha, hb, e => by
      simp only [D.fitL, Bool.and_eq_true] at ha hb
      simp only [D.pyL, List.cons.injEq] at e
      rw [go x n m y ha.1 hb.1 e.1, goL xs n m ys ha.2 hb.2 e.2]
/-- each two are alike, none is None -/
def alikeB (xs : List D) : Bool := xs.all fun a => notNonB a && xs.all fun b => dalike a b
mutual
theorem D.fit_mono : ∀ (n m : Nat), n ≤ m → ∀ d : D, D.fit n d = true → D.fit m d = true
    | n, m, h, .non, _ => by simp [D.fit]
    | n, m, h, .bl _, _ => by simp [D.fit]
    | n, m, h, .int _, _ => by simp [D.fit]
    | n, m, h, .str _, q => by simpa [D.fit] using q
    | 0, m, h, .tup _, q => by simp [D.fit] at q
    | n + 1, 0, h, .tup _, q => by omega
    | n + 1, m + 1, h, .tup xs, q => by
      simp only [D.fit] at q ⊢
      exact D.fit_monoL n m (by omega) xs q
    | 0, m, h, .lst _, q => by simp [D.fit] at q
    | n + 1, 0, h, .lst _, q => by omega
    | n + 1, m + 1, h, .lst xs, q => by
      simp only [D.fit] at q ⊢
      exact D.fit_monoL n m (by omega) xs q
    | n, m, h, .ref _, q => by simp [D.fit] at q
    | n, m, h, .fr _, q => by simp [D.fit] at q
    | n, m, h, .rng _ _, q => by simp [D.fit] at q
theorem D.fit_monoL : ∀ (n m : Nat), n ≤ m → ∀ d : List D, D.fitL n d = true → D.fitL m d = true
    | _, _, _, [], _ => by simp [D.fitL]
    | n, m, h, x :: xs, q => by
      simp only [D.fitL, Bool.and_eq_true] at q ⊢
      exact ⟨D.fit_mono n m h x q.1, D.fit_monoL n m h xs q.2⟩
end
theorem alikeB_of {xs : List D} (hf : D.fitL 31 xs = true) (h : alikeB xs = true) : PySem.W.AlikeAll (D.pyL xs) ∧ PySem.W.AllAlike (D.pyL xs) := by
  unfold alikeB at h
  rw [D.fitL_all] at hf
  rw [D.pyL_map]
  have h1 : ∀ x ∈ xs, ∀ y ∈ xs, PySem.W.alike x.py y.py = true := fun x hx y hy => by
    have := List.all_eq_true.mp h x hx
    rw [Bool.and_eq_true] at this
    exact List.all_eq_true.mp this.2 y hy
  refine ⟨⟨fun x hx y hy => ?_, fun x hx => ?_⟩, fun x hx y hy => ?_⟩
  · obtain ⟨a, ha, rfl⟩ := List.mem_map.mp hx
    obtain ⟨b, hb, rfl⟩ := List.mem_map.mp hy
    exact h1 a ha b hb
  · obtain ⟨a, ha, rfl⟩ := List.mem_map.mp hx
    have := List.all_eq_true.mp h a ha
    rw [Bool.and_eq_true] at this
    have hfa := List.all_eq_true.mp hf a ha
    exact notNon_py (by
      have := hfa
      exact D.fit_mono 31 32 (by omega) a this) this.1
  · obtain ⟨a, ha, rfl⟩ := List.mem_map.mp hx
    obtain ⟨b, hb, rfl⟩ := List.mem_map.mp hy
    exact h1 a ha b hb
def minDD (x : D) (xs : List D) : D := xs.foldl (fun a y => if dlt y a then y else a) x
def maxDD (x : D) (xs : List D) : D := xs.foldl (fun a y => if dlt a y then y else a) x
theorem minDD_py (x : D) (xs : List D) : (minDD x xs).py = PySem.W.minD x.py (D.pyL xs) := by
  rw [D.pyL_map]
  unfold minDD PySem.W.minD
  induction xs generalizing x with
  | nil => rfl
  | cons y ys ih =>
    rw [List.map_cons, List.foldl_cons, List.foldl_cons, ih]
    unfold dlt
    cases PySem.W.dataLt y.py x.py <;> rfl
theorem maxDD_py (x : D) (xs : List D) : (maxDD x xs).py = PySem.W.maxD x.py (D.pyL xs) := by
  rw [D.pyL_map]
  unfold maxDD PySem.W.maxD
  induction xs generalizing x with
  | nil => rfl
  | cons y ys ih =>
    rw [List.map_cons, List.foldl_cons, List.foldl_cons, ih]
    unfold dlt
    cases PySem.W.dataLt x.py y.py <;> rfl
theorem minDD_mem (x : D) (xs : List D) : minDD x xs ∈ x :: xs := by
  unfold minDD
  induction xs generalizing x with
  | nil => simp
  | cons y ys ih =>
    rw [List.foldl_cons]
    have := ih (if dlt y x then y else x)
    simp only [List.mem_cons] at this ⊢
    by_cases hc : dlt y x = true
    · rw [if_pos hc] at this ⊢; rcases this with h | h <;> simp [h]
    · rw [if_neg hc] at this ⊢; rcases this with h | h <;> simp [h]
theorem maxDD_mem (x : D) (xs : List D) : maxDD x xs ∈ x :: xs := by
  unfold maxDD
  induction xs generalizing x with
  | nil => simp
  | cons y ys ih =>
    rw [List.foldl_cons]
    have := ih (if dlt x y then y else x)
    simp only [List.mem_cons] at this ⊢
    by_cases hc : dlt x y = true
    · rw [if_pos hc] at this ⊢; rcases this with h | h <;> simp [h]
    · rw [if_neg hc] at this ⊢; rcases this with h | h <;> simp [h]
def rMinD (K : PySem.W.Frag) (f : PyData → List PyData → PyData) : List V → Hp → VK → Prop := fun vs H Q => ∃ (a : Addr) (us : List V) (d : PyData) (ds : List PyData), vs = [.ref a] ∧ (SqL K H a us ∨ SqT K H a us) ∧ DpAll K H us (d :: ds) ∧ PySem.W.AlikeAll (d :: ds) ∧ PyData.depthAll (d :: ds) ≤ 60 ∧
  ∀ (i : Nat) v, us[i]? = some v → (d :: ds)[i]? = some (f d ds) → Q v H
theorem DpAll.get {H : Hp} : ∀ {vs : List V} {ds : List PyData} {i : Nat} {v : V}, DpAll K H vs ds → vs[i]? = some v → ∃ d, ds[i]? = some d ∧ Dp K H v d
  | _, _, _, _, .nil, e => by simp at e
  | _, _, 0, _, .cons r _, e => by simp at e; subst e; exact ⟨_, rfl, r⟩
  | _, _, i + 1, v, .cons _ t, e => by
    obtain ⟨d, h1, h2⟩ := DpAll.get (i := i) (v := v) t (by simpa using e)
    exact ⟨d, by simpa using h1, h2⟩
theorem minD_pick {s : Shared} {pins : List (Addr × Obj)} {σ : L2.St} {H : Hp} {us : List V} {its : List Value} {d m : PyData} {ds : List PyData} {i : Nat} {v : Value} {h' : Heap} {bs : List Addr} (I : Inv X pins σ H s) (hd : DpAll X.K H us (d :: ds)) (rv : Vals us its) (al : PySem.W.AlikeAll (d :: ds)) (hm : m ∈ d :: ds)
    (hv : its.toArray[i]? = some v) (r : Reads h' v m bs) (hk : ∀ b o, s.heap.get? b = some o → h'.get? b = some o) : ∃ x, us[i]? = some x ∧ RelV x v ∧ (d :: ds)[i]? = some m := by
  have hv : its[i]? = some v := by simpa using hv
  cases hu : us[i]? with
  | none => rw [rv.none_of hu] at hv; cases hv
  | some x =>
    obtain ⟨u, h1, h2⟩ := rv.get hu
    rw [hv] at h1; cases h1
    obtain ⟨d2, h3, h4⟩ := DpAll.get hd hu
    obtain ⟨as, r2⟩ := Dp.reads I d2 x v h4 h2
    have r3 := PySem.W.reads_keeps hk r2
    have e := PySem.W.alike_unique d2 m v _ _ (al.1 d2 (List.mem_of_getElem? h3) m hm) r3 r
    rw [e] at h3
    exact ⟨x, rfl, h2, h3⟩
theorem minD_mem' (x : PyData) (xs : List PyData) : PySem.W.minD x xs ∈ x :: xs := by
  unfold PySem.W.minD
  induction xs generalizing x with
  | nil => simp
  | cons y ys ih =>
    rw [List.foldl_cons]
    have := ih (if PySem.W.dataLt y x then y else x)
    simp only [List.mem_cons] at this ⊢
    by_cases hc : PySem.W.dataLt y x = true
    · rw [if_pos hc] at this ⊢; rcases this with h | h <;> simp [h]
    · rw [if_neg hc] at this ⊢; rcases this with h | h <;> simp [h]
theorem maxD_mem' (x : PyData) (xs : List PyData) : PySem.W.maxD x xs ∈ x :: xs := by
  unfold PySem.W.maxD
  induction xs generalizing x with
  | nil => simp
  | cons y ys ih =>
    rw [List.foldl_cons]
    have := ih (if PySem.W.dataLt x y then y else x)
    simp only [List.mem_cons] at this ⊢
    by_cases hc : PySem.W.dataLt x y = true
    · rw [if_pos hc] at this ⊢; rcases this with h | h <;> simp [h]
    · rw [if_neg hc] at this ⊢; rcases this with h | h <;> simp [h]
theorem cr_minD (hc : X.calm = true) (hu : X.A.units + 64 < cLine) : CallR X (.builtin "min") (rMinD X.K PySem.W.minD) := by
  intro pins s σ H vs us Q I r h
  obtain ⟨a, xs, d, ds, rfl, hs, hd, al, hz, q⟩ := h
  rw [Vals.ref1 r]
  rcases hs with hs | hs
  · obtain ⟨its, rv, hl, _⟩ := I.list hs
    obtain ⟨as, hr⟩ := Dp.readsAll I (d :: ds) xs its hd rv
    refine PySem.W.min_list_data (I.ok.hd hc) hl.isList (by simpa using hr) al (by omega) fun i v h' tk bs hv r hk => ?_
    obtain ⟨x, h1, h2, h3⟩ := minD_pick I hd rv al (minD_mem' d ds) hv r hk
    exact ⟨x, H, I.kept (t' := tk) hk, h2, q i x h1 h3⟩
  · obtain ⟨its, rv, hl, _⟩ := I.tuple hs
    obtain ⟨as, hr⟩ := Dp.readsAll I (d :: ds) xs its hd rv
    refine PySem.W.min_tuple_data (I.ok.hd hc) (show s.heap.IsTuple a its.toArray from hl) (by simpa using hr) al (by omega) fun i v h' tk bs hv r hk => ?_
    obtain ⟨x, h1, h2, h3⟩ := minD_pick I hd rv al (minD_mem' d ds) hv r hk
    exact ⟨x, H, I.kept (t' := tk) hk, h2, q i x h1 h3⟩
theorem cr_maxD (hc : X.calm = true) (hu : X.A.units + 64 < cLine) : CallR X (.builtin "max") (rMinD X.K PySem.W.maxD) := by
  intro pins s σ H vs us Q I r h
  obtain ⟨a, xs, d, ds, rfl, hs, hd, al, hz, q⟩ := h
  rw [Vals.ref1 r]
  rcases hs with hs | hs
  · obtain ⟨its, rv, hl, _⟩ := I.list hs
    obtain ⟨as, hr⟩ := Dp.readsAll I (d :: ds) xs its hd rv
    refine PySem.W.max_list_data (I.ok.hd hc) hl.isList (by simpa using hr) al (by omega) fun i v h' tk bs hv r hk => ?_
    obtain ⟨x, h1, h2, h3⟩ := minD_pick I hd rv al (maxD_mem' d ds) hv r hk
    exact ⟨x, H, I.kept (t' := tk) hk, h2, q i x h1 h3⟩
  · obtain ⟨its, rv, hl, _⟩ := I.tuple hs
    obtain ⟨as, hr⟩ := Dp.readsAll I (d :: ds) xs its hd rv
    refine PySem.W.max_tuple_data (I.ok.hd hc) (show s.heap.IsTuple a its.toArray from hl) (by simpa using hr) al (by omega) fun i v h' tk bs hv r hk => ?_
    obtain ⟨x, h1, h2, h3⟩ := minD_pick I hd rv al (maxD_mem' d ds) hv r hk
    exact ⟨x, H, I.kept (t' := tk) hk, h2, q i x h1 h3⟩
/-- min, max: of two ints, of a list of ints, of a list or tuple of data that are alike -/
def fMinX (f2 : Int → Int → Int) (fI : Int → List Int → Int) (fD : D → List D → D) : List D → Store → Option (D × Store)
  | [.int i, .int j], S => some (.int (f2 i j), S)
  | [d], S => (seqOf d S).bind fun xs => match intsOf xs, lstOf d S with
    | some (n :: ns), some _ => some (.int (fI n ns), S)
    | _, _ => match xs with
      | [] => none
      | x :: xs => if D.fitL 31 (x :: xs) ∧ alikeB (x :: xs) then some (fD x xs, S) else none
  | _, _ => none
abbrev fMinA := fMinX (fun i j => if j < i then j else i) minI minDD
abbrev fMaxA := fMinX (fun i j => if j > i then j else i) maxI maxDD
theorem lstOf_seqOf {d : D} {S : Store} {xs : List D} (h : lstOf d S = some xs) : seqOf d S = some xs := by
  cases d with
  | lst _ => exact h
  | fr _ => exact h
  | ref _ => exact h
  | _ => cases h
theorem fMinX_s {f2 : Int → Int → Int} {fI : Int → List Int → Int} {fD : D → List D → D} {fP : PyData → List PyData → PyData} {rI : List V → Hp → VK → Prop} (hP : ∀ x xs, (fD x xs).py = fP x.py (D.pyL xs)) (hmem : ∀ x xs, fD x xs ∈ x :: xs)
    (hI : ∀ (a : Addr) (n : Int) (ns : List Int) (H : Hp) (Q : VK), SqL K H a ((n :: ns).map V.int) → Q (.int (fI n ns)) H → rI [.ref a] H Q) :
    CallS K (fun xs H Q => ((∃ i j, xs = [.int i, .int j] ∧ Q (.int (f2 i j)) H) ∨ rI xs H Q) ∨ rMinD K fP xs H Q) (fMinX f2 fI fD) := by
  intro w S H ds vs d S' Q k r hm q
  unfold fMinX at hm
  split at hm
  · cases hm
    obtain ⟨v1, v2, rfl, r1, r2⟩ := r.two_inv
    exact .inl (.inl ⟨_, _, by rw [r1.int_inv, r2.int_inv], q w H _ .refl k (.int _)⟩)
  · obtain ⟨xs, h1, hm⟩ := Option.bind_eq_some_iff.mp hm
    obtain ⟨v, rfl, r1⟩ := r.one_inv
    split at hm
    · rename_i n ns ys hi hl
      cases hm
      obtain ⟨a, us, rfl, h3, h4⟩ := lst_rd k r1 hl
      have e : xs = ys := by
        rw [lstOf_seqOf hl] at h1
        exact (Option.some.inj h1).symm
      subst e
      rw [intsOf_iff hi] at h4
      rw [h4.ints] at h3
      exact .inl (.inr (hI a n ns H Q h3 (q w H _ .refl k (.int _))))
    · cases xs with
      | nil => cases hm
      | cons x1 xs1 =>
        replace hm : (if D.fitL 31 (x1 :: xs1) ∧ alikeB (x1 :: xs1) then some (fD x1 xs1, S) else none) = some (d, S') := hm
        split at hm
        · rename_i hz
          cases hm
          obtain ⟨a, us, rfl, h3, h4⟩ := seq_rd k r1 h1
          have hdp := RpL.dp _ 31 us h4 hz.1
          have hal := (alikeB_of hz.1 hz.2).1
          have hdep := (D.fitL_lay _ 31 hz.1).2
          simp only [D.pyL] at hdp hal hdep
          refine .inr ⟨a, us, _, _, rfl, h3, hdp, hal, by omega, fun i v hv hd => ?_⟩
          obtain ⟨e, he, re⟩ := h4.get' hv
          have hpy : ((x1 :: xs1).map D.py)[i]? = some (fD x1 xs1).py := by
            rw [hP, List.map_cons, ← D.pyL_map]; exact hd
          rw [List.getElem?_map, he] at hpy
          have e2 : e.py = (fD x1 xs1).py := Option.some.inj hpy
          have fm : ∀ y ∈ x1 :: xs1, D.fit 31 y = true := fun y hy => by
            have := hz.1
            rw [D.fitL_all] at this
            exact List.all_eq_true.mp this y hy
          have e3 := D.py_inj e 31 31 (fD x1 xs1) (fm e (List.mem_of_getElem? he)) (fm _ (hmem _ _)) e2
          rw [← e3] at q
          exact q w H _ .refl k re
        · cases hm
  · cases hm
section
variable {p : Pos} {e : Expr} {es : List Expr} {ms : ML} {j : Nat}
theorem ae_min (hr : Room j X.A) (hc : X.calm = true) (hm : X.mg "min" = none) (ha : AA X (e :: es) ms) (hg : Gl X "min" := by rfl) (he : starEach (e :: es) X.env = (false, eval e X.env) :: starEach es X.env := by rfl) (hpl : (backTo pos (starEach es X.env)).any (·.1) = false := by rfl) : AE X (.Call (.Name "min" p) (e :: es) [] pos) (mCB fMinA ms) :=
  ae_callB (((call_min2 hc).or (cr_min hc)).or (cr_minD hc hr.units)) (fMinX_s minDD_py minDD_mem fun a n ns H Q hs q => ⟨a, n :: ns, rfl, hs, by simp, fun m h5 h6 => by rw [minI_eq _ _ m h5 h6]; exact q⟩) hm ha hg (by decide +kernel) (by decide) (by decide) he hpl
theorem ae_max (hr : Room j X.A) (hc : X.calm = true) (hm : X.mg "max" = none) (ha : AA X (e :: es) ms) (hg : Gl X "max" := by rfl) (he : starEach (e :: es) X.env = (false, eval e X.env) :: starEach es X.env := by rfl) (hpl : (backTo pos (starEach es X.env)).any (·.1) = false := by rfl) : AE X (.Call (.Name "max" p) (e :: es) [] pos) (mCB fMaxA ms) :=
  ae_callB (((call_max2 hc).or (cr_max hc)).or (cr_maxD hc hr.units)) (fMinX_s maxDD_py maxDD_mem fun a n ns H Q hs q => ⟨a, n :: ns, rfl, hs, by simp, fun m h5 h6 => by rw [maxI_eq _ _ m h5 h6]; exact q⟩) hm ha hg (by decide +kernel) (by decide) (by decide) he hpl
end
end
end DV

namespace PySem.SeqAt
open PySem PyProof.Rows
section
variable {A : Around} {s : Shared}
theorem dv_call_tuple_lt {prog : Program} {w : World} {E : Value → Shared → Prop} {Q : Value → Shared → Prop} {l b : Addr} {items items2 : Array Value} {e r : Nat → Bool} (hl : s.heap.IsTuple l items) (hb : s.heap.IsTuple b items2)
    (he : ∀ j (h1 : j < items.size) (h2 : j < items2.size), EqAt A.in1 s items[j] items2[j] (e j)) (hr : ∀ j (h1 : j < items.size) (h2 : j < items2.size), e j = false → RcLt A.in1 s items[j] items2[j] (r j))
    (h : Q (.bool (firstLt e r (decide (items.size < items2.size)) (List.range (min items.size items2.size)))) s) : wpAny (model prog w) A (call (.builtin "tuple.__lt__") [.ref l, .ref b]) Q E s := by
  obtain ⟨⟨cls, dd, data, sl⟩, ho, hc, n, hd⟩ := id hl
  obtain ⟨⟨cls2, dd2, data2, sl2⟩, ho2, hc2, n2, hd2⟩ := id hb
  simp only at hc hd hc2 hd2
  subst hc hd hc2 hd2
  exact call_meets F.slot_tuple_lt ⟨_, ho, rfl⟩ F.entry_tuple_lt (F.args_tuple_lt_2 _ _) (tuple_ltAt l b items items2 n n2 dd dd2 sl sl2 e r) ⟨ho, ho2, he, hr, h⟩
end
end PySem.SeqAt
namespace PySem.W
open PySem PySem.Calls PyProof.Rows PySem.SeqAt
section
variable {prog : Program} {w : World} {A : Around} {E : Value → Shared → Prop} {s : Shared}
theorem dv_oneLt_tuple {x y : List PyData} {a b : Value} {as bs : List Addr} {Q : Bool → Shared → Prop} (ra : Reads s.heap a (.tuple x) as) (rb : Reads s.heap b (.tuple y) bs) (h : alike (.tuple x) (.tuple y) = true)
    (hu : A.units + min (PyData.tuple x).depth (PyData.tuple y).depth < cLine) (hq : Q (dataLt (.tuple x) (.tuple y)) s) : wpAny (model prog w) A (oneLt' true a b) Q E s := by
  have hal : alikeAll x y = true := by simpa [alike] using h
  cases ra with
  | @tuple l o vs n _ _ h1 h2 h3 h4 =>
    cases rb with
    | @tuple l' o' vs' n' _ _ k1 k2 k3 k4 =>
      have n1 : vs.size = x.length := by simpa using SeqAt.ReadsAll.length _ _ _ h4
      have n2 : vs'.size = y.length := by simpa using SeqAt.ReadsAll.length _ _ _ k4
      rw [dataLt_tuple, ← firstLt_toks x y hal, ← n1, ← n2] at hq
      rw [oneLt'_eq]
      simp only [if_true]
      refine wpAny_bind (wpAny_cRoomFor (room_here hu) ?_)
      refine wpAny_bind (wpAny_callSpecialIfBound?_slot (T := "tuple") ⟨_, h1, h2⟩ F.slot_tuple_lt (dv_call_tuple_lt (e := pairEq x y) (r := fun j => dataLt (x.getD j .none) (y.getD j .none)) ⟨_, h1, h2, _, h3⟩ ⟨_, k1, k2, _, k3⟩ (fun j j1 j2 => ?_) (fun j j1 j2 hj => ?_) ?_))
      · have := eqAt_alikeAll x y A.in1 s vs.toList vs'.toList _ _ h4 k4 hal (room_in hu) j (by simpa using j1) (by simpa using j2)
        simpa using this
      · have := rcLt_alikeAll x y A.in1 s vs.toList vs'.toList _ _ h4 k4 hal (room_in hu) j (by simpa using j1) (by simpa using j2) hj
        simpa using this
      · exact wpAny_truthy_bool hq
/-- firsts of tuples -/
theorem dv_firsts {h : Heap} : ∀ {vs : List Value} {ds : List PyData}, EachIs (fun v d => ∃ as, Reads h v d as) vs ds → (∀ d, d ∈ ds → ∃ xs, d = .tuple xs) → ∃ fs : List (Option Value), fs.length = vs.length ∧ (fs.all (·.isSome) = true → ∀ d ∈ ds, ∃ x r, d = .tuple (x :: r)) ∧
      ∀ {M : Model} {A : Around} {E : Value → Shared → Prop} {s : Shared} {Q : List (Option Value) → Shared → Prop}, s.heap = h → Q fs s → wpAny M A (vs.mapM firstOfTuple') Q E s
  | _, _, .nil, _ => ⟨[], rfl, fun _ d hd => absurd hd (by simp), fun _ hq => by rw [List.mapM_nil]; exact wpAny_pure hq⟩
  | _, _, .cons (a := v) (as := vs) (b := d) (bs := ds) ⟨as, r⟩ t, ht => by
    obtain ⟨fs, h1, h2, h3⟩ := dv_firsts t fun d hd => ht d (List.mem_cons_of_mem _ hd)
    obtain ⟨xs, rfl⟩ := ht _ (List.mem_cons_self ..)
    cases r with
    | @tuple a o ys n _ _ ho hc hd hr =>
      refine ⟨ys[0]? :: fs, by simp [h1], fun ha d hd => ?_, fun {M A E s Q} hs hq => ?_⟩
      · simp only [List.all_cons, Bool.and_eq_true] at ha
        rcases List.mem_cons.mp hd with rfl | hd
        · have hlen : ys.size = xs.length := by simpa using SeqAt.ReadsAll.length _ _ _ hr
          cases xs with
          | nil => rw [Array.getElem?_eq_none (by rw [hlen]; exact Nat.zero_le _)] at ha; simp at ha
          | cons x r => exact ⟨x, r, rfl⟩
        · exact h2 ha.2 d hd
      · subst hs
        rw [List.mapM_cons]
        refine wpAny_bind ?_
        rw [kas_first_eq]
        refine wpAny_bind (Looks.here (show Looks M s.heap (typeOf (.ref a)) o.cls from (Looks.ld ho).andThen .now) ?_)
        rw [hc, if_neg (by first | decide | simp)]
        refine wpAny_bind (listItems_at ho hd (wpAny_pure ?_))
        exact wpAny_bind (h3 (Q := fun bs s' => wpAny M A (pure (ys[0]? :: bs)) Q E s') rfl (wpAny_pure hq))
/-- as Sortable, or all are tuples -/
def DvSortable (ds : List PyData) : Prop := Sortable ds ∨ ∀ d, d ∈ ds → ∃ xs, d = .tuple xs
theorem dv_SortsAt {vs : List Value} {ds : List PyData} (e : EachIs (fun v d => ∃ as, Reads s.heap v d as) vs ds) (hal : AllAlike ds) (hk : DvSortable ds) (hu : ∀ d, d ∈ ds → A.units + d.depth < cLine) : SortsAt prog w A s (dataKind s.heap ds) vs := by
  rcases hk with hk | ht
  · exact SortsAt.data e hal hk hu
  by_cases hne : ∀ d ∈ ds, ∃ x r, d = .tuple (x :: r)
  · exact SortsAt.data e hal (.inl hne) hu
  have room : ∀ {d d' : PyData}, d ∈ ds → A.units + min d.depth d'.depth < cLine := fun {d d'} hd => Nat.lt_of_le_of_lt (Nat.add_le_add_left (Nat.min_le_left _ _) _) (hu d hd)
  have lt1 : H.LtAt prog w A s (dataKind s.heap ds) oneType' := by
    intro E x y a b Q ha hb hq
    obtain ⟨d, as, hd, ra, rfl⟩ := dataKind_inv ha
    obtain ⟨d', as', hd', rb, rfl⟩ := dataKind_inv hb
    obtain ⟨xs, rfl⟩ := ht d hd
    obtain ⟨ys, rfl⟩ := ht d' hd'
    rw [keyLt'_oneType]
    exact dv_oneLt_tuple ra rb (hal _ hd _ hd') (room hd) hq
  have lt2 : H.LtAt prog w A s (dataKind s.heap ds) general' := by
    intro E x y a b Q ha hb hq
    obtain ⟨d, as, hd, ra, rfl⟩ := dataKind_inv ha
    obtain ⟨d', as', hd', rb, rfl⟩ := dataKind_inv hb
    obtain ⟨xs, rfl⟩ := ht d hd
    show wpAny (model prog w) A (oneLt' false x y) Q E s
    exact oneLt_alike (fun h => by simp at h) ra rb (hal _ hd d' hd') (by simp) (room hd) hq
  obtain ⟨fs, f1, f2, f3⟩ := dv_firsts e ht
  have hns : ¬ fs.all (·.isSome) = true := fun h => hne (f2 h)
  refine ⟨fun v hv => ?_, ?_⟩
  · obtain ⟨d, hd, as, r⟩ := e.left v hv
    exact ⟨_, dataKind_some hal hd r⟩
  · by_cases h0 : ((fs[0]?).bind id).isSome = true
    · refine ⟨general', lt2, fun h2 E Q hq => ?_⟩
      rw [kat_kind_eq, List.mapM_toArray, map_eq_pure_bind]
      refine wpAny_bind (wpAny_bind (f3 rfl (wpAny_pure ?_)))
      have hns' : ¬ (fs.toArray.all (·.isSome)) = true := by simpa using hns
      rw [if_neg hns', if_pos (by simpa using h0)]
      exact wpAny_pure hq
    · refine ⟨oneType', lt1, fun h2 E Q hq => ?_⟩
      rw [kat_kind_eq, List.mapM_toArray, map_eq_pure_bind]
      refine wpAny_bind (wpAny_bind (f3 rfl (wpAny_pure ?_)))
      have hns' : ¬ (fs.toArray.all (·.isSome)) = true := by simpa using hns
      rw [if_neg hns', if_neg (by simpa using h0)]
      rw [oneTypeOnly'_eq, List.mapM_toArray, map_eq_pure_bind]
      obtain ⟨v₁, rest, rfl⟩ : ∃ v₁ rest, vs = v₁ :: rest := by
        match vs, h2 with
        | v₁ :: rest, _ => exact ⟨v₁, rest, rfl⟩
      refine wpAny_bind (wpAny_bind (wpAny_bind (kas_mapM (r := Value.type "tuple") _ (fun v hv Q' hq => ?_) (wpAny_pure ?_))))
      · obtain ⟨d, hd, as, r⟩ := e.left v hv
        obtain ⟨xs, rfl⟩ := ht d hd
        exact (looks_reads r).here hq
      · have hall2 : ((List.map (fun _ => Value.type "tuple") (v₁ :: rest)).toArray.all fun x => x == Value.type "tuple") = true := by
          simp only [List.all_toArray, List.all_map, List.all_eq_true]
          intro _ _
          exact beq_self_eq_true _
        have h0 : (List.map (fun _ => Value.type "tuple") (v₁ :: rest)).toArray[0]? = some (Value.type "tuple") := by simp
        rw [h0]
        simp only [hall2, if_true]
        exact wpAny_pure (wpAny_pure hq)
end
end PySem.W

namespace DV
open PySem PySem.Spec PyProof.Rows L2
section
variable {X : Cx} {K : PySem.W.Frag}
/-! ### enumerate of a list or a tuple -/
theorem PI.or {X : Cx} {tg it : Expr} {t t' : TI} (h : PI X tg it t) (h' : PI X tg it t') : PI X tg it (fun σ H R => t σ H R ∨ t' σ H R) := ⟨fun pins s σ H R I q => q.elim (fun q => h.run pins s σ H R I q) fun q => h'.run pins s σ H R I q⟩
section
variable {w : Wd} {H : Hp} {S : Store}
theorem walkE_of {w : Wd} {H : Hp} {J J' : It} {src : Src} (W : WalkOk K w H J src) (hgo : ∀ i H, J.go i H → J'.go i H) (hst : ∀ i H, J.stop i H → J'.stop i H)
    (hy : ∀ i H v H', J.go i H → J'.yld i H v H' → ∃ T x o, v = .ref T ∧ H T = none ∧ Firm o ∧ H' = upd H T (.frz o (.tup [.int (i : Nat), x])) ∧ J.yld i H x H) : WalkOk K w H J' src.enum := fun i w1 H1 S1 s1 k1 => by
  obtain ⟨go, st⟩ := W i w1 H1 S1 s1 k1
  refine ⟨fun d hd => ?_, fun hn => ?_⟩
  · simp only [Src.enum] at hd
    cases hg : src.get i S1 with
    | none => rw [hg] at hd; cases hd
    | some o =>
      rw [hg] at hd
      cases o with
      | none => cases hd
      | some d0 =>
        have hd : D.tup [.int (i : Nat), d0] = d := Option.some.inj (Option.some.inj hd)
        subst hd
        obtain ⟨g1, g2⟩ := go d0 hg
        refine ⟨hgo i H1 g1, fun v H' y => ?_⟩
        obtain ⟨T, x, ob, rfl, hT, fm, rfl, hx⟩ := hy i H1 v H' g1 y
        obtain ⟨_, _, rx⟩ := g2 x H1 hx
        exact ⟨.new hT, k1.laid hT, .tup (k1.new hT) ⟨ob, upd_same, fm⟩ (.cons (.int _) (.cons (rx.mono (.new hT)) .nil))⟩
  · simp only [Src.enum] at hn
    cases hg : src.get i S1 with
    | none => rw [hg] at hn; cases hn
    | some o =>
      cases o with
      | none => exact hst i H1 (st hg)
      | some d => rw [hg] at hn; cases hn
theorem walkE_L {a : Addr} {src : Src} (W : WalkOk K w H (Itl K a) src) : WalkOk K w H (IteF K true a) src.enum := walkE_of W (fun _ _ g => let ⟨xs, x, h1, h2⟩ := g; ⟨xs, x, h1, h2⟩) (fun _ _ g => g) fun i H v H' g ⟨T, x, o, e1, e2, e0, e3, e4⟩ => ⟨T, x, o, e1, e2, e0, e3, rfl, e4⟩
theorem walkE_T {a : Addr} {src : Src} (W : WalkOk K w H (Itt K a) src) : WalkOk K w H (IteF K false a) src.enum := walkE_of W (fun _ _ g => let ⟨xs, x, h1, h2⟩ := g; ⟨xs, x, h1, h2⟩) (fun _ _ g => g) fun i H v H' g ⟨T, x, o, e1, e2, e0, e3, e4⟩ => ⟨T, x, o, e1, e2, e0, e3, rfl, e4⟩
end
def mEnum (m : ME) : MI := fun e S => (m e S).bind fun (d, S1) => match d with
  | .rng _ _ => none
  | _ => (srcOf d S1).bind fun s => some (s.enum, S1)
theorem ai_enum {e : Expr} {m : ME} {p pos tpos : Pos} {elts : List Expr} {kk : Nat} (hm : X.mg "enumerate" = none) (he : AE X e m) (hg : Gl X "enumerate" := by rfl) (hs : starEach [e] X.env = [(false, eval e X.env)] := by rfl) (hs2 : starEach [e] X.env = (false, eval e X.env) :: starEach [] X.env := by rfl) :
    AI X (.Tuple elts kk tpos) (.Call (.Name "enumerate" p) [e] [] pos) (mEnum m) := PI.imp (pi_enumF hg hm (pa_cons he pa_nil hs2) hs) fun σ H R ⟨w, e, S, src, S', re, k, hm, q⟩ => by
  unfold mEnum at hm
  obtain ⟨⟨d, S1⟩, h1, hm⟩ := Option.bind_eq_some_iff.mp hm
  cases d with
  | tup xs =>
    obtain ⟨s, h2, hm⟩ := Option.bind_eq_some_iff.mp (show (srcOf (.tup xs) S1).bind _ = _ from hm)
    cases h2
    cases hm
    refine ⟨w, e, S, _, _, re, k, h1, fun w1 H1 v s1 k1 r1 => ?_⟩
    cases r1 with
    | tup o h l => exact ⟨false, _, _, rfl, .inl h.rd, q w1 H1 _ s1 k1 (walkE_T (walk_T (.inl h.rd) (fun _ _ => o) l))⟩
    | tupK _ h l => exact ⟨false, _, _, rfl, SqT.none_mono h, q w1 H1 _ s1 k1 (walkE_T (walkT_of h l))⟩
  | lst xs =>
    obtain ⟨s, h2, hm⟩ := Option.bind_eq_some_iff.mp (show (srcOf (.lst xs) S1).bind _ = _ from hm)
    cases h2
    cases hm
    refine ⟨w, e, S, _, _, re, k, h1, fun w1 H1 v s1 k1 r1 => ?_⟩
    obtain ⟨a, vs, rfl, o, h, l⟩ := r1.lst_inv
    exact ⟨true, a, _, rfl, .of h, q w1 H1 _ s1 k1 (walkE_L (walk_L (.of h) (fun _ _ => o) l))⟩
  | fr xs =>
    obtain ⟨s, h2, hm⟩ := Option.bind_eq_some_iff.mp (show (srcOf (.fr xs) S1).bind _ = _ from hm)
    cases h2
    cases hm
    refine ⟨w, e, S, _, _, re, k, h1, fun w1 H1 v s1 k1 r1 => ?_⟩
    cases r1 with
    | fr o h l => exact ⟨true, _, _, rfl, .inl h, q w1 H1 _ s1 k1 (walkE_L (walk_L (.inl h) (fun _ _ => o) l))⟩
    | frK h l => exact ⟨true, _, _, rfl, SqL.none_mono h, q w1 H1 _ s1 k1 (walkE_L (walkL_of h l))⟩
  | ref i =>
    obtain ⟨s, h2, hm⟩ := Option.bind_eq_some_iff.mp (show (srcOf (.ref i) S1).bind _ = _ from hm)
    unfold srcOf at h2
    simp only at h2
    split at h2
    · rename_i xs hx
      cases h2
      cases hm
      refine ⟨w, e, S, _, _, re, k, h1, fun w1 H1 v s1 k1 r1 => ?_⟩
      obtain ⟨a, rfl, h⟩ := r1.ref_inv
      obtain ⟨vs, h3, h4⟩ := k1.lst h hx
      exact ⟨true, a, vs, rfl, .of h3, q w1 H1 _ s1 k1 (walkE_L (walk_S h))⟩
    · cases h2
  | _ => simp [srcOf] at hm

/-! ### dicts of the store, keys ints and texts -/
def dGet (kvs : List (D × D)) (k : D) : Option D := (kvs.find? fun p => decide (p.1 = k)).map (·.2)
def dPut (kvs : List (D × D)) (k v : D) : List (D × D) := if (kvs.any fun p => decide (p.1 = k)) = true then kvs.map (fun p => if p.1 = k then (p.1, v) else p) else kvs ++ [(k, v)]
theorem RKey.inj {d d' : D} {k k' : Key} (r : RKey d k) (r' : RKey d' k') : (d = d') ↔ (k = k') := by
  cases r <;> cases r' <;> simp
theorem RKey.kV {d : D} {k : Key} (r : RKey d k) {w : Wd} {H : Hp} {v : V} (q : Rp K w H d v) : v = L2.kV k := by
  cases r with
  | int i => rw [q.int_inv]; rfl
  | str x => rw [q.str_inv]; rfl
def keyOf : D → Option Key
  | .int i => some (.inl i)
  | .str x => some (.inr x)
  | _ => none
theorem keyOf_r {d : D} {k : Key} (h : keyOf d = some k) : RKey d k := by
  unfold keyOf at h
  split at h <;> cases h
  · exact .int _
  · exact .str _
section
variable {w : Wd} {H : Hp}
theorem RDk.get {d : D} {k : Key} (rk : RKey d k) : ∀ {ds : List (D × D)} {ks : List (Key × V)}, RDk K w H ds ks → (dGet ds d = none ∧ valV ks k = none) ∨ ∃ e v, dGet ds d = some e ∧ valV ks k = some v ∧ Rp K w H e v
  | _, _, .nil => .inl ⟨rfl, rfl⟩
  | _, _, .cons (d := d') (k := k') (e := e) (v := v) rk' r t => by
    by_cases h : d' = d
    · refine .inr ⟨e, v, ?_, valV_pos ((rk'.inj rk).mp h), r⟩
      simp [dGet, h]
    · have hk : ¬ k' = k := fun z => h ((rk'.inj rk).mpr z)
      have e1 : ∀ l : List (D × D), dGet ((d', e) :: l) d = dGet l d := fun l => by simp only [dGet, List.find?_cons, decide_eq_false h]
      rw [e1, valV_neg (p := (k', v)) hk]
      exact RDk.get rk t
theorem RDk.any {d : D} {k : Key} (rk : RKey d k) : ∀ {ds : List (D × D)} {ks : List (Key × V)}, RDk K w H ds ks → (ds.any fun p => decide (p.1 = d)) = ks.any fun p => decide (p.1 = k)
  | _, _, .nil => rfl
  | _, _, .cons rk' r t => by
    simp only [List.any_cons, RDk.any rk t]
    congr 1
    exact decide_eq_decide.mpr (rk'.inj rk)
theorem RDk.map {d e : D} {k : Key} {v : V} (rk : RKey d k) (re : Rp K w H e v) : ∀ {ds : List (D × D)} {ks : List (Key × V)}, RDk K w H ds ks → RDk K w H (ds.map fun p => if p.1 = d then (p.1, e) else p) (ks.map fun p => if p.1 = k then (p.1, v) else p)
  | _, _, .nil => .nil
  | _, _, .cons (d := d') (k := k') rk' r t => by
    simp only [List.map_cons]
    by_cases h : d' = d
    · rw [if_pos h, if_pos ((rk'.inj rk).mp h)]
      exact .cons rk' re (RDk.map rk re t)
    · rw [if_neg h, if_neg fun z => h ((rk'.inj rk).mpr z)]
      exact .cons rk' r (RDk.map rk re t)
theorem RDk.append : ∀ {ds es : List (D × D)} {ks ls : List (Key × V)}, RDk K w H ds ks → RDk K w H es ls → RDk K w H (ds ++ es) (ks ++ ls)
  | _, _, _, _, .nil, s => s
  | _, _, _, _, .cons k r t, s => .cons k r (RDk.append t s)
theorem RDk.put {d e : D} {k : Key} {v : V} (rk : RKey d k) (re : Rp K w H e v) {ds : List (D × D)} {ks : List (Key × V)} (r : RDk K w H ds ks) : RDk K w H (dPut ds d e) (putK ks k v) := by
  unfold dPut putK
  rw [r.any rk]
  split
  · exact r.map rk re
  · exact r.append (.cons rk re .nil)
theorem RDk.length : ∀ {ds : List (D × D)} {ks : List (Key × V)}, RDk K w H ds ks → ds.length = ks.length
  | _, _, .nil => rfl
  | _, _, .cons _ _ t => by simp [RDk.length t]
end
theorem Ok.dct {w : Wd} {S : Store} {H : Hp} (k : Ok K w S H) {p : Nat} {a : Addr} {kvs : List (D × D)} (h : w.rho[p]? = some a) (hs : S[p]? = some (.dct kvs)) : ∃ ks, H a = some (.dK ks) ∧ RDk K w H kvs ks := by
  obtain ⟨x, h1, h2⟩ := k.ob p a _ h hs
  cases h2 with
  | dK r => exact ⟨_, h1, r⟩
def mDict : ME := fun _ S => some (.ref S.length, S ++ [.dct []])
theorem rho_add {w : Wd} {S : Store} {H : Hp} (k : Ok K w S H) (p : Addr) : (w.add p).rho[S.length]? = some p := by
  show (w.rho ++ [p])[S.length]? = some p
  rw [← k.len, List.getElem?_append_right (Nat.le_refl _)]
  simp
theorem rho_mono {w w' : Wd} {H H' : Hp} (s : Stp w H w' H') {p : Nat} {a : Addr} (h : w.rho[p]? = some a) : w'.rho[p]? = some a := by
  obtain ⟨m, e⟩ := s.pre
  rw [e, List.getElem?_append_left (List.getElem?_eq_some_iff.mp h).1]; exact h
theorem ae_dict {pos : Pos} : AE X (.Dict [] [] pos) mDict := PE.imp pe_dnewK fun σ H Q ⟨w, e, S, d, S', re, k, hm, q⟩ => by
  cases hm
  intro p hp
  exact q _ _ _ (.add hp) (k.add hp (.dK .nil)) (.ref (rho_add k p))
/-- d[k] = v -/
def mSetK (m mo mi : ME) : MS := fun e S => (m e S).bind fun (v, S1) => (mo e S1).bind fun (o, S2) => (mi e S2).bind fun (i, S3) => match o, keyOf i with
  | .ref p, some _ => match S3[p]? with
    | some (.dct kvs) => if kvs.length < LIM then some (.nx e, S3.set p (.dct (dPut kvs i v))) else none
    | _ => none
  | _, _ => none
theorem as_setK {o i e : Expr} {m mo mi : ME} {pos pos' : Pos} {j : Nat} (hr : Room j X.A) (he : AE X e m) (ho : AE X o mo) (hi : AE X i mi) (hs : swapsWith e (some (.Subscript o i pos')) pos.line X.env = pure false := by rfl) :
    AS X (.Assign [.Subscript o i pos'] e pos) (mSetK m mo mi) := PS.imp (ps_dput (hu_of hr) ho hi he hs) fun D σ H ⟨w, e, S, fl, S', re, k, hm, q⟩ => by
  unfold mSetK at hm
  obtain ⟨⟨v, S1⟩, h1, hm⟩ := Option.bind_eq_some_iff.mp hm
  obtain ⟨⟨o1, S2⟩, h2, hm⟩ := Option.bind_eq_some_iff.mp hm
  obtain ⟨⟨i1, S3⟩, h3, hm⟩ := Option.bind_eq_some_iff.mp hm
  cases o1 with
  | ref p =>
    cases hk : keyOf i1 with
    | none => simp only [hk] at hm; cases hm
    | some kk =>
      simp only [hk] at hm
      split at hm
      · rename_i kvs hx
        split at hm
        · rename_i hz
          cases hm
          refine ⟨w, e, S, v, S1, re, k, h1, fun w1 H1 u s1 k1 r1 => ⟨w1, e, S1, _, S2, re.mono s1, k1, h2, fun w2 H2 u2 s2 k2 r2 => ⟨w2, e, S2, _, S3, (re.mono s1).mono s2, k2, h3, fun w3 H3 u3 s3 k3 r3 => ?_⟩⟩⟩
          obtain ⟨a, rfl, ha⟩ := (r2.mono s3).ref_inv
          obtain ⟨ks, h5, h6⟩ := k3.dct ha hx
          have rk := keyOf_r hk
          refine ⟨a, upd H3 a (.dK (putK ks kk u)), rfl, by rw [rk.kV r3]; exact DPut.k h5 (by rw [lim_eq, ← h6.length]; exact hz), ?_⟩
          have rv := ((r1.mono s2).mono s3)
          have st := Stp.put (H := H3) (o := .dK (putK ks kk u)) (List.mem_of_getElem? ha)
          exact q w3 _ (((s1.trans s2).trans s3).trans st) (k3.put ha (.dK (h6.put rk rv))) σ ((((re.mono s1).mono s2).mono s3).mono st)
        · cases hm
      · cases hm
  | _ => cases hm
/-- d.get(k, x) -/
def mGet2 (mo mi mx : ME) : ME := fun e S => (mo e S).bind fun (o, S1) => match o with
  | .ref p => match S1[p]? with
    | some (.dct _) => (mi e S1).bind fun (i, S2) => (mx e S2).bind fun (x, S3) => match S3[p]?, keyOf i with
      | some (.dct kvs), some _ => some ((dGet kvs i).getD x, S3)
      | _, _ => none
    | _ => none
  | _ => none
theorem ae_get2 {o i x : Expr} {mo mi mx : ME} {apos cpos : Pos} {j : Nat} (hr : Room j X.A) (ho : AE X o mo) (hi : AE X i mi) (hx : AE X x mx) (hbase : attributeBase o "get" X.env (eval o X.env) = eval o X.env := by rfl)
    (hfew : ((backTo cpos (starEach [i, x] X.env)).all (fun x => !x.1) && (backToKw cpos (keywordEach [] X.env)).all (fun x => x.1.isSome)
      && decide (([i, x] : List Expr).length + ([] : List Keyword).length + (if ([] : List Keyword).isEmpty then 0 else 1) < 30)) = true := by rfl)
    (hline : (apos.endLine == cpos.line) = true := by rfl) (ht : backTo cpos (starEach [i, x] X.env) = [(false, eval i X.env), (false, eval x X.env)] := by rfl) :
    AE X (.Call (.Attribute o "get" apos) [i, x] [] cpos) (mGet2 mo mi mx) := PE.imp (pe_dget2 (hu_of hr) ho hi hx ⟨hbase, hfew, hline, ht⟩) fun σ H Q ⟨w, e, S, d, S', re, k, hm, q⟩ => by
  unfold mGet2 at hm
  obtain ⟨⟨o1, S1⟩, h1, hm⟩ := Option.bind_eq_some_iff.mp hm
  simp only at hm
  split at hm
  · split at hm
    · rename_i kvs0 hx0
      obtain ⟨⟨i1, S2⟩, h2, hm⟩ := Option.bind_eq_some_iff.mp hm
      obtain ⟨⟨x1, S3⟩, h3, hm⟩ := Option.bind_eq_some_iff.mp hm
      simp only at hm
      split at hm
      · rename_i kvs kk hx hk
        cases hm
        refine ⟨w, e, S, _, S1, re, k, h1, fun w1 H1 u s1 k1 r1 => ?_⟩
        obtain ⟨a, rfl, ha⟩ := r1.ref_inv
        obtain ⟨ks0, h50, _⟩ := k1.dct ha hx0
        refine ⟨a, rfl, .inl ⟨ks0, .inl h50⟩, w1, e, S1, i1, S2, re.mono s1, k1, h2, fun w2 H2 u2 s2 k2 r2 => ⟨w2, e, S2, x1, _, (re.mono s1).mono s2, k2, h3, fun w3 H3 u3 s3 k3 r3 => ?_⟩⟩
        have ha3 := rho_mono s3 (rho_mono s2 ha)
        obtain ⟨ks, h5, h6⟩ := k3.dct ha3 hx
        have rk := keyOf_r hk
        refine ⟨valV ks kk, by rw [rk.kV (r2.mono s3)]; exact DGet.k h5, ?_⟩
        rcases h6.get rk with ⟨e1, e2⟩ | ⟨z, v, e1, e2, rz⟩
        · rw [e1] at q
          rw [e2]
          exact q w3 H3 _ ((s1.trans s2).trans s3) k3 r3
        · rw [e1] at q
          rw [e2]
          exact q w3 H3 _ ((s1.trans s2).trans s3) k3 rz
      · cases hm
    · cases hm
  · cases hm
/-- {k: v for ..}: a new dict of the store -/
def dcGo (get : Nat → Store → Option (Option D)) (bind : D → Ev → Option Ev) (tt : MT) (mk mv : ME) (e0 : Ev) : Nat → Nat → Store → List (D × D) → Option (List (D × D) × Store)
  | 0, i, S, acc => match get i S with
    | some none => some (acc, S)
    | _ => none
  | n + 1, i, S, acc => match get i S with
    | some none => some (acc, S)
    | some (some d) => (bind d e0).bind fun e1 => (tt e1 S).bind fun (b, S1) => if b then (mk e1 S1).bind fun (y, S2) => (mv e1 S2).bind fun (z, S3) => match keyOf y with
        | some _ => if acc.length < LIM then dcGo get bind tt mk mv e0 n (i + 1) S3 (dPut acc y z) else none
        | none => none
      else dcGo get bind tt mk mv e0 n (i + 1) S1 acc
    | none => none
def mDC (mi : MI) (t : Tg) (tt : MT) (mk mv : ME) (vs : List Nat) : ME := fun e S => (mi e S).bind fun (s, S1) => (dcGo s.get t.f tt mk mv (wipeE e vs) s.n 0 S1 []).bind fun (ys, S2) => some (.ref S2.length, S2 ++ [.dct ys])
theorem wipe_wipe (σ : L2.St) (l : List Nat) : L2.wipe (L2.wipe σ l) l = L2.wipe σ l := by
  apply List.ext_getElem?
  intro j
  by_cases hj : j ∈ l
  · by_cases hjl : j < σ.length
    · have a1 : ∀ τ : L2.St, τ.length = σ.length → (L2.wipe τ l)[j]? = some none := fun τ hτ => by
        cases hq : (L2.wipe τ l)[j]? with
        | none =>
          have := List.getElem?_eq_none_iff.mp hq
          rw [wipe_length, hτ] at this
          omega
        | some u =>
          cases u with
          | none => rfl
          | some u => exact absurd hj (wipe_some hq).2
      rw [a1 _ (wipe_length σ l), a1 σ rfl]
    · rw [List.getElem?_eq_none (by rw [wipe_length, wipe_length]; omega), List.getElem?_eq_none (by rw [wipe_length]; omega)]
  · rw [wipe_out hj]
theorem dc_imp {mi : MI} {t : Tg} {tt : MT} {mk mv : ME} {vs : List Nat} (hv : ∀ i ∈ t.slots, i ∈ vs) {σ : L2.St} {H : Hp} {Q : VK} (h : tD K (mDC mi t tt mk mv vs) σ H Q) : tDc (tI K mi) (t.g K) (tB K tt) (tD K mk) (tD K mv) vs σ H Q := by
  obtain ⟨w, e, S, ds, S', re, k, hm, q⟩ := h
  unfold mDC at hm
  obtain ⟨⟨src, S1⟩, h1, hm⟩ := Option.bind_eq_some_iff.mp hm
  obtain ⟨⟨ys, S2⟩, h2, hm⟩ := Option.bind_eq_some_iff.mp hm
  cases hm
  refine ⟨w, e, S, src, S1, re, k, h1, fun w1 H1 J s1 k1 W => fun L hL => ?_⟩
  refine ⟨fun i m H2 => ∃ w2 He S2' accd accv, H2 = upd He L (.dK accv) ∧ He L = none ∧ Stp w1 H1 w2 He ∧ Ok K w2 S2' He ∧ RDk K w2 He accd accv ∧ dcGo src.get t.f tt mk mv (wipeE e vs) m i S2' accd = some (ys, S2),
    ⟨src.n, w1, H1, S1, [], [], rfl, hL, .refl, k1, .nil, h2⟩, ?_⟩
  rintro i m _ ⟨w2, He, S2', accd, accv, rfl, hLe, s2, k2, racc, hm2⟩
  have k2h : Ok K (w2.hide L) S2' (upd He L (.dK accv)) := k2.hide hLe
  have s2h : Stp w1 H1 (w2.hide L) (upd He L (.dK accv)) := s2.trans (.hide hLe)
  obtain ⟨go, stop⟩ := W i _ _ S2' s2h.toW k2h
  have fin : some (accd, S2') = some (ys, S2) → Q (.ref L) (upd He L (.dK accv)) := fun z => by
    cases z
    exact q _ _ _ ((s1.trans s2).trans (.add hLe)) (k2.add hLe (.dK racc)) (.ref (rho_add k2 L))
  cases hget : src.get i S2' with
  | none => cases m <;> (simp only [dcGo, hget] at hm2; cases hm2)
  | some o =>
    cases o with
    | none =>
      refine .inl ⟨stop hget, fin ?_⟩
      cases m <;> (simp only [dcGo, hget] at hm2; exact hm2)
    | some d =>
      cases m with
      | zero => simp only [dcGo, hget] at hm2; cases hm2
      | succ m =>
        simp only [dcGo, hget] at hm2
        obtain ⟨e3, h3, hm2⟩ := Option.bind_eq_some_iff.mp hm2
        obtain ⟨⟨b, S4⟩, h4, hm2⟩ := Option.bind_eq_some_iff.mp hm2
        obtain ⟨g1, g2⟩ := go d hget
        refine .inr ⟨g1, fun H5 => ∃ w2 He S2' accd accv, H5 = upd He L (.dK accv) ∧ He L = none ∧ Stp w1 H1 w2 He ∧ Ok K w2 S2' He ∧ RDk K w2 He accd accv ∧ dcGo src.get t.f tt mk mv (wipeE e vs) m (i + 1) S2' accd = some (ys, S2),
          fun H5 h5 => ⟨m, Nat.lt_succ_self m, h5⟩, fun x H3 y => ?_⟩
        obtain ⟨st, k3, rx⟩ := g2 x H3 y
        have re3 : RpE K (w2.hide L) H3 (wipeE e vs) (L2.wipe σ vs) := ((re.mono s1).mono (s2h.trans st)).wipe vs
        refine t.ok k3 re3 rx h3 fun σ4 re4 hw => ?_
        refine ⟨by rw [hw vs hv, wipe_wipe], ⟨_, e3, S2', b, S4, re4, k3, h4, fun w5 H5 s5 k5 => ?_⟩⟩
        cases b with
        | true =>
          rw [if_pos rfl]
          rw [if_pos rfl] at hm2
          obtain ⟨⟨z, S6⟩, h6, hm2⟩ := Option.bind_eq_some_iff.mp hm2
          obtain ⟨⟨z2, S7⟩, h7, hm2⟩ := Option.bind_eq_some_iff.mp hm2
          simp only at hm2
          split at hm2
          · rename_i kk hk
            split at hm2
            · rename_i hz
              refine ⟨w5, e3, S4, z, S6, re4.mono s5, k5, h6, fun w6 H6 v6 s6 k6 r6 => ⟨w6, e3, S6, z2, S7, (re4.mono s5).mono s6, k6, h7, fun w7 H7 v7 s7 k7 r7 => ?_⟩⟩
              obtain ⟨u1, u2, u3, u4, u5⟩ := unhide k2 hLe (((st.trans s5).trans s6).trans s7) k7
              have rk := keyOf_r hk
              have racc7 := racc.mono u3
              refine ⟨accv, kk, rk.kV (r6.mono s7), by rw [u1, upd_same], by rw [lim_eq, ← racc.length]; exact hz, ?_⟩
              refine ⟨_, er L H7, S7, dPut accd z z2, putK accv kk v7, ?_, u2, s2.trans u3, u4, racc7.put rk (u5 _ _ r7), hm2⟩
              conv => lhs; rw [u1]
              rw [upd_upd]
            · cases hm2
          · cases hm2
        | false =>
          rw [if_neg Bool.false_ne_true]
          rw [if_neg Bool.false_ne_true] at hm2
          obtain ⟨u1, u2, u3, u4, u5⟩ := unhide k2 hLe (st.trans s5) k5
          exact ⟨_, er L H5, S4, accd, accv, u1, u2, s2.trans u3, u4, racc.mono u3, hm2⟩
theorem ae_dc {kx vx tg iter : Expr} {ifs : List Expr} {scope : Scope} {pos : Pos} {mi : MI} {t : Tg} {tt : MT} {mk mv : ME} (own : List (Str × Nat)) (hc : X.calm = true) (hN : X.N.Nodup) (hi : AI X tg iter mi) (ok : BlkOk X.N X.env.scope scope own)
    (hg : ∀ (s : Shared) (H : Hp) (C : Addr) (cl : List (Str × Addr)) (fp : List Addr), AG (X.blk s H scope (compEnvC scope cl C X.env) fp) tg t) (ht : ∀ (s : Shared) (H : Hp) (C : Addr) (cl : List (Str × Addr)) (fp : List Addr), ATs (X.blk s H scope (compEnvC scope cl C X.env) fp) ifs tt)
    (hk : ∀ (s : Shared) (H : Hp) (C : Addr) (cl : List (Str × Addr)) (fp : List Addr), AE (X.blk s H scope (compEnvC scope cl C X.env) fp) kx mk)
    (he : ∀ (s : Shared) (H : Hp) (C : Addr) (cl : List (Str × Addr)) (fp : List Addr), AE (X.blk s H scope (compEnvC scope cl C X.env) fp) vx mv) (hs : ∀ x, foldedSetIterable iter X.env x = pure x := by intro _; rfl) (hv : ∀ i ∈ t.slots, i ∈ own.map (·.2) := by decide) :
    AE X (.DictComp kx vx [⟨tg, iter, ifs, 0⟩] scope pos) (mDC mi t tt mk mv (own.map (·.2))) := PE.imp (pe_dc hc hN hi ok hg ht hk he hs) fun _ _ _ => dc_imp hv

/-! ### sorted of data -/
def dle (a b : D) : Bool := PySem.W.dataLe false D.py a b
def sortableB (xs : List D) : Bool := (xs.all fun
  | .tup _ => true
  | _ => false) || xs.all fun
  | .tup _ => false
  | .non => false
  | .ref _ => false
  | .fr _ => false
  | .rng _ _ => false
  | _ => true
def rSortedDD (K : PySem.W.Frag) : List V → Hp → VK → Prop := fun vs H Q => ∃ (a : Addr) (bs : List (V × D)), vs = [.ref a] ∧ (SqL K H a (bs.map (·.1)) ∨ SqT K H a (bs.map (·.1))) ∧ DpAll K H (bs.map (·.1)) (D.pyL (bs.map (·.2))) ∧ PySem.W.AllAlike (D.pyL (bs.map (·.2))) ∧ PySem.W.DvSortable (D.pyL (bs.map (·.2))) ∧ PyData.depthAll (D.pyL (bs.map (·.2))) ≤ 60 ∧
  ∀ p, H p = none → Q (.ref p) (upd H p (.lst ((bs.mergeSort (PySem.W.dataLe false fun b => D.py b.2)).map (·.1))))
theorem each_of {H : Hp} {s : Shared} {pins : List (Addr × Obj)} {σ : L2.St} (I : Inv X pins σ H s) : ∀ {bs : List (V × D)} {its : List Value}, Vals (bs.map (·.1)) its → DpAll X.K H (bs.map (·.1)) (D.pyL (bs.map (·.2))) →
    PySem.W.EachIs (fun v (b : V × D) => RelV b.1 v) its bs ∧ PySem.W.EachIs (fun v (b : V × D) => ∃ as, Reads s.heap v (D.py b.2) as) its bs
  | [], _, r, _ => by cases r; exact ⟨.nil, .nil⟩
  | b :: bs, _, r, d => by
    simp only [List.map_cons, D.pyL] at r d
    cases r with
    | cons r rt =>
      cases d with
      | cons d dt =>
        obtain ⟨h1, h2⟩ := each_of I rt dt
        exact ⟨.cons r h1, .cons (Dp.reads I _ _ _ d r) h2⟩
theorem each_vals : ∀ {out : List Value} {bs : List (V × D)}, PySem.W.EachIs (fun v (b : V × D) => RelV b.1 v) out bs → Vals (bs.map (·.1)) out
  | _, _, .nil => .nil
  | _, _, .cons h t => .cons h (each_vals t)
theorem depth_mem : ∀ {ds : List PyData} {d : PyData}, d ∈ ds → d.depth ≤ PyData.depthAll ds
  | e :: es, d, h => by
    simp only [PyData.depthAll]
    rcases List.mem_cons.mp h with rfl | h
    · omega
    · have := depth_mem h; omega
end
end DV
namespace PySem.W
open PySem PySem.Calls PyProof.Rows
section
variable {prog : Program} {w : World} {A : Around} {E : Value → Shared → Prop} {s : Shared} {β : Type} {vs : List Value} {bs : List β} {enc : β → PyData} {R : Value → β → Prop} {κ : PyProof.Rows.KeyKind}
theorem dv_collect_tuple {l : Addr} {vs : List Value} {Q : List Value → Shared → Prop} (hl : s.heap.IsTuple l vs.toArray)
    (h : Q vs { s with heap := (s.heap.push (seqObj "list" #[] 0)).update s.heap.objs.size (Obj.mapSeq (· ++ vs.toArray)) }) (hsz : vs.length ≤ sizeLine := by size_fits) :
    wpAny (model prog w) A (collect (.ref l)) Q E s := by
  obtain ⟨o, ho, hc, n, hd⟩ := id hl
  unfold collect
  refine wpAny_bind (wpAny_runValue (codeAny_builtin entry_proto_collect' ?_))
  show wpAny _ _ (do again (.builtin "list.__iadd__" ⟨[← newList [], .ref l], []⟩)) _ _ s
  refine wpAny_bind (wpAny_newList (wpAny_pure ⟨Code.quiet_builtin _ (by decide +kernel), codeAny_builtin entry_list_iadd' ?_⟩))
  show wpAny _ _ (Builtin.List.listExtendWith (.ref s.heap.objs.size) (.ref l) (.ref s.heap.objs.size)) _ _ { s with heap := s.heap.push (seqObj "list" #[] 0) }
  unfold Builtin.List.listExtendWith
  have ho' : (s.heap.push (seqObj "list" #[] 0)).get? l = some o := Heap.get?_push_of_some _ ho
  refine wpAny_bind (wpAny_typeOf (T := "tuple") ⟨o, ho', hc⟩ ?_)
  have ht : (Value.type "tuple" == Value.type "tuple") = true := by rfl
  rw [if_pos (by rw [ht]; simp)]
  refine wpAny_bind (listItems_at ho' hd ?_)
  refine wpAny_bind (listItems_at (xs := #[]) (n := 0) (Heap.get?_push_size _ rfl) rfl ?_)
  rw [if_neg (by simp)]
  refine wpAny_bind (listUpdate_at (xs := #[]) (n := 0) (Heap.get?_push_size _ rfl) rfl ?_ (Nat.zero_le _) (by show (#[] ++ vs.toArray).size ≤ sizeLine + 1; simp only [Array.size_append, List.size_toArray, List.length_nil]; omega))
  refine wpAny_pure ?_
  show wpAny (model prog w) A (do
      let o ← load s.heap.objs.size
      match o.data with
      | .seq xs _ => pure xs.toList
      | _ => unsupported "internal:collect") Q E { s with heap := (s.heap.push (seqObj "list" #[] 0)).update s.heap.objs.size (Obj.mapSeq (· ++ vs.toArray)) }
  refine wpAny_bind (wpAny_load (get?_update_seq (Heap.get?_push_size _ rfl) _) ?_)
  show wpAny _ _ (pure ((#[] : Array Value) ++ vs.toArray).toList) Q E _
  simp only [Array.empty_append]
  exact wpAny_pure h
theorem dv_sorted_of_sortT {l : Addr} {vs : List Value} {kw : List (Str × Value)} {Q : Value → Shared → Prop} (hl : s.heap.IsTuple l vs.toArray) (hL : vs.length ≤ sizeLine) (ha1 : argsOk "sorted" ⟨[.ref l], kw⟩) (ha2 : ∀ x, argsOk "list.sort" ⟨[.ref x], kw⟩)
    (body : ∀ E' : Value → Shared → Prop, wpAny (model prog w) A.in1.in1 (Builtin.«list.sort» ⟨[.ref (s.heap.objs.size + 1)], kw⟩) (fun f s' => f = .done (.ret .none) ∧ Q (.ref (s.heap.objs.size + 1)) s') E' { s with heap := copyHeap s.heap vs }) :
    wpAny (model prog w) A (call (.builtin "sorted") [.ref l] kw) Q E s := by
  refine call_function_entry_kw kind_sorted plain_sorted entry_sorted ha1 ?_
  unfold Builtin.«sorted»
  refine wpAny_bind (m := checkCount "sorted" 1 1 _) (wpAny_pure ?_)
  refine wpAny_bind (dv_collect_tuple hl ?_ hL)
  refine wpAny_bind (wpAny_newList ?_ hL)
  have hsz : ((s.heap.push (seqObj "list" #[] 0)).update s.heap.objs.size (Obj.mapSeq (· ++ vs.toArray))).objs.size = s.heap.objs.size + 1 := by
    rw [Heap.size_update, size_push']
  show wpAny _ _ _ _ _ { s with heap := copyHeap s.heap vs }
  rw [hsz]
  refine wpAny_bind (wpAny_holding (wpAny_call_entry_kw slot_list_sort ⟨_, copyHeap_at s.heap vs, rfl⟩ entry_list_sort ?body (ha2 _)))
  case body =>
    show wpAny (model prog w) A.in1.in1 (Builtin.«list.sort» ⟨[.ref (s.heap.objs.size + 1)], kw⟩) _ _ _
    refine wpAny_mono (body _) (fun f s' hf => ?_) fun _ _ e => e
    obtain ⟨rfl, hq⟩ := hf
    exact ⟨_, rfl, wpAny_pure ⟨_, rfl, hq⟩⟩
theorem dv_sorted_vals {l : Addr} {vs : List Value} {Q : Value → Shared → Prop} (hl : s.heap.IsList l vs.toArray ∨ s.heap.IsTuple l vs.toArray) (S : SortsAt prog w A.in1.in1 { s with heap := sortingHeap (copyHeap s.heap vs) (s.heap.objs.size + 1) vs } κ vs) (hL : vs.length ≤ sizeLine)
    (h : Q (.ref (s.heap.objs.size + 1)) { s with heap := sortedAll s.heap vs (sortVals κ false vs vs).toArray }) : wpAny (model prog w) A (call (.builtin "sorted") [.ref l]) Q E s :=
  hl.elim (fun hl => sorted_vals hl S hL h) fun hl => dv_sorted_of_sortT hl hL (args_sorted1 _) (fun _ => args_list_sort _) fun _ => list_sort_vals (s := { s with heap := copyHeap s.heap vs }) (copyHeap_at s.heap vs) S hL ⟨rfl, h⟩
theorem dv_sorted_data {l : Addr} {Q : Value → Shared → Prop} (hl : s.heap.IsList l vs.toArray ∨ s.heap.IsTuple l vs.toArray) (e : EachIs R vs bs) (er : EachIs (fun v b => ∃ as, Reads s.heap v (enc b) as) vs bs) (hal : AllAlike (bs.map enc)) (hk : DvSortable (bs.map enc)) (hL : bs.length ≤ sizeLine)
    (hu : ∀ b, b ∈ bs → A.units + 2 + (enc b).depth < cLine) (h : ∀ out, out.length = bs.length → EachIs R out (bs.mergeSort (dataLe false enc)) → Q (.ref (s.heap.objs.size + 1)) { s with heap := sortedAll s.heap vs (List.toArray out) }) :
    wpAny (model prog w) A (call (.builtin "sorted") [.ref l]) Q E s := by
  have er' : EachIs (fun v b => ∃ as, Reads (sortingHeap (copyHeap s.heap vs) (s.heap.objs.size + 1) vs) v (enc b) as) vs bs := er.mono fun _ _ ⟨as, r⟩ => ⟨as, PyProof.Rows.Reads.keeps (fun _ _ => sorting_copy_old) r⟩
  exact dv_sorted_vals hl (dv_SortsAt (s := { s with heap := sortingHeap (copyHeap s.heap vs) (s.heap.objs.size + 1) vs }) (each_map (R := fun v d => ∃ as, Reads (sortingHeap (copyHeap s.heap vs) (s.heap.objs.size + 1) vs) v d as) enc er') hal hk (bound_map hu)) (by rw [e.length]; exact hL)
    (h _ (by rw [sortVals_length false rfl]; exact e.length) (sortVals_data false e er' hal))
end
end PySem.W
namespace DV
open PySem PySem.Spec PyProof.Rows L2
section
variable {X : Cx} {K : PySem.W.Frag}
theorem cr_sortedDD (hu : X.A.units + 64 < cLine) : CallR X (.builtin "sorted") (rSortedDD X.K) := by
  intro pins s σ H vs us Q I r h
  obtain ⟨a, bs, rfl, hs, hd, hal, hk, hz, q⟩ := h
  rw [Vals.ref1 r]
  obtain ⟨its, rv, hl, hlen⟩ : ∃ its, Vals (bs.map (·.1)) its ∧ (s.heap.IsList a its.toArray ∨ s.heap.IsTuple a its.toArray) ∧ (bs.map (·.1)).length ≤ sizeLine := by
    rcases hs with hs | hs
    · obtain ⟨its, rv, hl, hlen⟩ := I.list hs
      exact ⟨its, rv, .inl hl.isList, hlen⟩
    · obtain ⟨its, rv, p, hz⟩ := I.tuple hs
      exact ⟨its, rv, .inr p, by simpa using hz⟩
  obtain ⟨e1, e2⟩ := each_of I rv hd
  have hpy : D.pyL (bs.map (·.2)) = bs.map fun b => D.py b.2 := by rw [D.pyL_map, List.map_map]; rfl
  rw [hpy] at hal hk hz
  refine PySem.W.dv_sorted_data (enc := fun b => D.py b.2) hl e1 e2 hal hk (by simpa using hlen) (fun b hb => by
    have := depth_mem (List.mem_map.mpr ⟨b, hb, rfl⟩ : D.py b.2 ∈ bs.map fun b => D.py b.2)
    omega) fun out ho he => ?_
  obtain ⟨ep, he'⟩ := PyProof.Rows.sortedAll_at s.heap its out.toArray
  have ev := each_vals he
  have hlen2 : ((bs.mergeSort (PySem.W.dataLe false fun b => D.py b.2)).map (·.1)).length ≤ sizeLine := by
    rw [List.length_map, List.length_mergeSort]; simpa using hlen
  exact ⟨.ref _, upd H (s.heap.objs.size + 1) (.lst ((bs.mergeSort (PySem.W.dataLe false fun b => D.py b.2)).map (·.1))), I.laid (t' := s.toks) (fun _ _ => PyProof.Rows.sortedAll_old) (Nat.le_succ _) ⟨hlen2, out, ep, by simpa using ev, he'⟩, rfl, q _ (I.hok.fresh (Nat.le_succ _))⟩
def mSorted (m : ME) : ML := fun e S => (m e S).bind fun (d, S1) => (seqOf d S1).bind fun xs => if D.fitL 31 xs ∧ alikeB xs ∧ sortableB xs then some (xs.mergeSort dle, S1) else none
theorem RpL.zip {w : Wd} {H : Hp} : ∀ {ds : List D} {vs : List V}, RpL K w H ds vs → ∃ bs : List (V × D), bs.map (·.1) = vs ∧ bs.map (·.2) = ds ∧ ∀ b ∈ bs, Rp K w H b.2 b.1
  | _, _, .nil => ⟨[], rfl, rfl, by simp⟩
  | _, _, .cons (d := d) (v := v) r t => by
    obtain ⟨bs, h1, h2, h3⟩ := RpL.zip t
    exact ⟨(v, d) :: bs, by simp [h1], by simp [h2], fun b hb => by
      rcases List.mem_cons.mp hb with rfl | hb
      · exact r
      · exact h3 b hb⟩
theorem RpL.unzip {w : Wd} {H : Hp} : ∀ {bs : List (V × D)}, (∀ b ∈ bs, Rp K w H b.2 b.1) → RpL K w H (bs.map (·.2)) (bs.map (·.1))
  | [], _ => .nil
  | b :: bs, h => .cons (h b (by simp)) (RpL.unzip fun c hc => h c (by simp [hc]))
theorem sortable_of {xs : List D} (hf : D.fitL 31 xs = true) (h : sortableB xs = true) : PySem.W.DvSortable (D.pyL xs) := by
  unfold sortableB at h
  rw [D.pyL_map]
  rcases Bool.or_eq_true _ _ |>.mp h with h | h
  · refine .inr fun d hd => ?_
    obtain ⟨x, hx, rfl⟩ := List.mem_map.mp hd
    have := List.all_eq_true.mp h x hx
    split at this
    · simp only [D.py, D.pyL]; exact ⟨_, rfl⟩
    · cases this
  · refine .inl (.inr fun d hd => ?_)
    obtain ⟨x, hx, rfl⟩ := List.mem_map.mp hd
    have := List.all_eq_true.mp h x hx
    cases x <;> simp_all [D.py]
theorem af_sorted {x : Expr} {m : ME} {p pos : Pos} {j : Nat} (hr : Room j X.A) (hm : X.mg "sorted" = none) (ha : AE X x m) (hg : Gl X "sorted" := by rfl)
    (he : starEach [x] X.env = (false, eval x X.env) :: starEach [] X.env := by rfl) (hpl : (backTo pos (starEach [] X.env)).any (·.1) = false := by rfl) : AF X (.Call (.Name "sorted" p) [x] [] pos) (mSorted m) :=
  PE.imp (pe_callB (cr_sortedDD hr.units) hg hm (by decide +kernel) (pa_cons ha pa_nil he) (by decide) (by decide) he hpl) fun σ H Q ⟨w, e, S, d, S', re, k, hm, q⟩ => by
    unfold mSorted at hm
    obtain ⟨⟨d1, S1⟩, h1, hm⟩ := Option.bind_eq_some_iff.mp hm
    obtain ⟨xs, h2, hm⟩ := Option.bind_eq_some_iff.mp hm
    split at hm
    · rename_i hz
      cases hm
      refine ⟨w, e, S, d1, _, re, k, h1, fun w1 H1 v s1 k1 r1 => ?_⟩
      obtain ⟨a, us, rfl, h3, h4⟩ := seq_rd k1 r1 h2
      obtain ⟨bs, rfl, rfl, hb⟩ := h4.zip
      have hdp := RpL.dp _ 31 _ h4 hz.1
      refine ⟨a, bs, rfl, h3, hdp, (alikeB_of hz.1 hz.2.1).2, sortable_of hz.1 hz.2.2, by have := (D.fitL_lay _ 31 hz.1).2; omega, fun p hp => ?_⟩
      refine q w1 H1 p _ s1 k1 hp ?_
      have e : ((bs.mergeSort (PySem.W.dataLe false fun b => D.py b.2)).map (·.2)) = (bs.map (·.2)).mergeSort dle := List.map_mergeSort (fun a _ b _ => rfl)
      rw [← e]
      exact RpL.unzip fun b hbm => hb b ((List.mergeSort_perm _ _).mem_iff.mp hbm)
    · cases hm
/-! ### a, b = x, y -/
def mPar (i j : Nat) (ms : ML) : MS := fun e S => (ms e S).bind fun (ds, S1) => match ds with
  | [d1, d2] => some (.nx ((e.set i (some d1)).set j (some d2)), S1)
  | _ => none
theorem as_par {i j : Nat} {x y : Str} {a b : Expr} {ms : ML} {px py pt pos : Pos} {kt k2 pt2} (hc : X.calm = true) (hN : X.N.Nodup) (ha : AA X [a, b] ms) (hi : X.N[i]? = some x := by rfl) (hj : X.N[j]? = some y := by rfl) (hij : i ≠ j := by decide)
    (hx : X.env.scope.names.lookup x = some .local := by rfl) (hy : X.env.scope.names.lookup y = some .local := by rfl)
    (hw : swappedStores [.Tuple [.Name x px, .Name y py] kt pt] (.Tuple [a, b] k2 pt2) X.env = pure (some [x, y]) := by rfl)
    (hs : swapsWithSole [.Tuple [.Name x px, .Name y py] kt pt] (.Tuple [a, b] k2 pt2) pos.line X.env = pure false := by rfl) :
    AS X (.Assign [.Tuple [.Name x px, .Name y py] kt pt] (.Tuple [a, b] k2 pt2) pos) (mPar i j ms) := PS.imp (ps_par hc hN hi hj hij hx hy ha hw hs) fun D σ H ⟨w, e, S, f, S', re, k, hm, q⟩ => by
  unfold mPar at hm
  obtain ⟨⟨ds, S1⟩, h1, hm⟩ := Option.bind_eq_some_iff.mp hm
  simp only at hm
  split at hm
  · cases hm
    refine ⟨w, e, S, _, _, re, k, h1, fun w1 H1 vs s1 k1 r1 => ?_⟩
    obtain ⟨v1, v2, rfl, r2, r3⟩ := r1.two_inv
    exact ⟨v1, v2, rfl, q w1 H1 s1 k1 _ (((re.mono s1).set r2).set r3)⟩
  · cases hm
/-! ### two clauses -/
def lc2Go (get : Nat → Store → Option (Option D)) (bind : D → Ev → Option Ev) (tt : MT) (inner : Ev → Store → Option (List D × Store)) (e0 : Ev) : Nat → Nat → Store → Option (List D × Store)
  | 0, i, S => match get i S with
    | some none => some ([], S)
    | _ => none
  | n + 1, i, S => match get i S with
    | some none => some ([], S)
    | some (some d) => (bind d e0).bind fun e1 => (tt e1 S).bind fun (b, S1) => if b then (inner e1 S1).bind fun (ys, S2) => (lc2Go get bind tt inner e0 n (i + 1) S2).bind fun (zs, S3) => some (ys ++ zs, S3) else lc2Go get bind tt inner e0 n (i + 1) S1
    | none => none
def mIn (mi : MI) (t : Tg) (tt : MT) (elt : ME) (vs : List Nat) : Ev → Store → Option (List D × Store) := fun e S => (mi e S).bind fun (s, S1) => lcGo s.get t.f tt elt (wipeE e vs) s.n 0 S1
def mLC2 (mi : MI) (t : Tg) (tt : MT) (mi1 : MI) (t1 : Tg) (tt1 : MT) (elt : ME) (vs vs1 : List Nat) : ML := fun e S => (mi e S).bind fun (s, S1) => (lc2Go s.get t.f tt (mIn mi1 t1 tt1 elt vs1) (wipeE e vs) s.n 0 S1).bind fun (ys, S2) => if ys.length ≤ LIM then some (ys, S2) else none
theorem lc2_imp {mi mi1 : MI} {t t1 : Tg} {tt tt1 : MT} {elt : ME} {vs vs1 : List Nat} (hv : ∀ i ∈ t.slots, i ∈ vs) (hv1 : ∀ i ∈ t1.slots, i ∈ vs1) {σ : L2.St} {H : Hp} {Q : VK} (h : tF K (mLC2 mi t tt mi1 t1 tt1 elt vs vs1) σ H Q) :
    tLc2 (tI K mi) (t.g K) (tB K tt) (tI K mi1) (t1.g K) (tB K tt1) (tD K elt) vs vs1 σ H Q := by
  obtain ⟨w, e, S, ds, S', re, k, hm, q⟩ := h
  unfold mLC2 at hm
  obtain ⟨⟨src, S1⟩, h1, hm⟩ := Option.bind_eq_some_iff.mp hm
  obtain ⟨⟨ys, S2⟩, h2, hm⟩ := Option.bind_eq_some_iff.mp hm
  simp only at h2 hm
  split at hm
  rotate_left
  · cases hm
  rename_i hz
  cases hm
  refine ⟨w, e, S, src, S1, re, k, h1, fun w1 H1 J s1 k1 W => fun L hL => ?_⟩
  refine ⟨fun i m H2 => ∃ w2 He S2 accd accv rest, H2 = upd He L (.lst accv) ∧ He L = none ∧ Stp w1 H1 w2 He ∧ Ok K w2 S2 He ∧ RpL K w2 He accd accv ∧ lc2Go src.get t.f tt (mIn mi1 t1 tt1 elt vs1) (wipeE e vs) m i S2 = some (rest, S') ∧ ds = accd ++ rest,
    ⟨src.n, w1, H1, S1, [], [], ds, rfl, hL, .refl, k1, .nil, h2, rfl⟩, ?_⟩
  rintro i m _ ⟨w2, He, S2, accd, accv, rest, rfl, hLe, s2, k2, racc, hm2, hds⟩
  have k2h : Ok K (w2.hide L) S2 (upd He L (.lst accv)) := k2.hide hLe
  have s2h : Stp w1 H1 (w2.hide L) (upd He L (.lst accv)) := s2.trans (.hide hLe)
  obtain ⟨go, stop⟩ := W i _ _ S2 s2h.toW k2h
  have fin : some (([] : List DV.D), S2) = some (rest, S') → Q (.ref L) (upd He L (.lst accv)) := fun z => by
    cases z
    rw [List.append_nil] at hds
    subst hds
    exact q w2 He L accv (s1.trans s2) k2 hLe racc
  cases hget : src.get i S2 with
  | none => cases m <;> (simp only [lc2Go, hget] at hm2; cases hm2)
  | some o =>
    cases o with
    | none =>
      refine .inl ⟨stop hget, fin ?_⟩
      cases m <;> (simp only [lc2Go, hget] at hm2; exact hm2)
    | some d =>
      cases m with
      | zero => simp only [lc2Go, hget] at hm2; cases hm2
      | succ m =>
        simp only [lc2Go, hget] at hm2
        obtain ⟨e3, h3, hm2⟩ := Option.bind_eq_some_iff.mp hm2
        obtain ⟨⟨b, S4⟩, h4, hm2⟩ := Option.bind_eq_some_iff.mp hm2
        obtain ⟨g1, g2⟩ := go d hget
        refine .inr ⟨g1, fun H5 => ∃ w2 He S2 accd accv rest, H5 = upd He L (.lst accv) ∧ He L = none ∧ Stp w1 H1 w2 He ∧ Ok K w2 S2 He ∧ RpL K w2 He accd accv ∧ lc2Go src.get t.f tt (mIn mi1 t1 tt1 elt vs1) (wipeE e vs) m (i + 1) S2 = some (rest, S') ∧ ds = accd ++ rest,
          fun H5 h5 => ⟨m, Nat.lt_succ_self m, h5⟩, fun x H3 y => ?_⟩
        obtain ⟨st, k3, rx⟩ := g2 x H3 y
        have re3 : RpE K (w2.hide L) H3 (wipeE e vs) (L2.wipe σ vs) := ((re.mono s1).mono (s2h.trans st)).wipe vs
        refine t.ok k3 re3 rx h3 fun σ4 re4 hw => ?_
        refine ⟨by rw [hw vs hv, wipe_wipe], ⟨_, e3, S2, b, S4, re4, k3, h4, fun w5 H5 s5 k5 => ?_⟩⟩
        cases b with
        | true =>
          rw [if_pos rfl]
          rw [if_pos rfl] at hm2
          obtain ⟨⟨zs, S6⟩, h6, hm2⟩ := Option.bind_eq_some_iff.mp hm2
          obtain ⟨⟨us, S7⟩, h7, hm2⟩ := Option.bind_eq_some_iff.mp hm2
          cases hm2
          unfold mIn at h6
          obtain ⟨⟨src1, S8⟩, h8, h6⟩ := Option.bind_eq_some_iff.mp h6
          simp only at h6
          refine ⟨w5, e3, S4, src1, S8, re4.mono s5, k5, h8, fun w6 H6 J1 s6 k6 W1 => ?_⟩
          have s26 : Stp (w2.hide L) (upd He L (.lst accv)) w6 H6 := (st.trans s5).trans s6
          obtain ⟨u1, u2, u3, u4, u5⟩ := unhide k2 hLe s26 k6
          have bL : w6.B L := (s26.B L _ upd_same (k2.new hLe).1).mpr (.inr rfl)
          have b2 : ∀ a, w2.B a → w6.B a := fun a z => by
            obtain ⟨ob, eo⟩ := k2.bt a z
            have na : a ∉ w2.rho := fun q => k2.nb a q z
            exact (s26.B a ob (by rw [upd_ne (ne_of_none eo hLe)]; exact eo) na).mpr (.inl z)
          -- what stays true through the inner loop
          refine ⟨fun j kk H9 => ∃ wk Hk Sk accdk accvk restk, H9 = upd Hk L (.lst accvk) ∧ Hk L = none ∧ wk.B = w2.B ∧ Stp w1 H1 wk Hk ∧ Wst w6 H6 (wk.hide L) H9 ∧ Ok K wk Sk Hk ∧ RpL K wk Hk accdk accvk ∧ lcGo src1.get t1.f tt1 elt (wipeE e3 vs1) kk j Sk = some (restk, S6) ∧ accd ++ zs = accdk ++ restk,
            ⟨src1.n, ⟨w6.rho, w2.B⟩, er L H6, S8, accd, accv, zs, u1, u2, rfl, s2.trans u3, ?_, u4, racc.mono u3, h6, rfl⟩, ?_⟩
          · refine ⟨⟨[], by simp [Wd.hide]⟩, fun b o h n z => ?_, fun b o h n _ => ⟨h, n⟩⟩
            rcases z with z | z
            · exact b2 b z
            · rw [z]; exact bL
          rintro j kk _ ⟨wk, Hk, Sk, accdk, accvk, restk, rfl, hLk, hBk, sk1, sk6, kk1, rk, hk2, hdk⟩
          have kkh : Ok K (wk.hide L) Sk (upd Hk L (.lst accvk)) := kk1.hide hLk
          obtain ⟨go1, stop1⟩ := W1 j _ _ Sk sk6 kkh
          cases hget1 : src1.get j Sk with
          | none => cases kk <;> (simp only [lcGo, hget1] at hk2; cases hk2)
          | some o1 =>
            cases o1 with
            | none =>
              refine .inl ⟨stop1 hget1, ?_⟩
              have hend : some (([] : List DV.D), Sk) = some (restk, S6) := by cases kk <;> (simp only [lcGo, hget1] at hk2; exact hk2)
              cases hend
              rw [List.append_nil] at hdk
              exact ⟨wk, Hk, _, accdk, accvk, us, rfl, hLk, sk1, kk1, rk, h7, by rw [hds, ← hdk, List.append_assoc]⟩
            | some d1 =>
              cases kk with
              | zero => simp only [lcGo, hget1] at hk2; cases hk2
              | succ kk =>
                simp only [lcGo, hget1] at hk2
                obtain ⟨e5, h5, hk2⟩ := Option.bind_eq_some_iff.mp hk2
                obtain ⟨⟨c, S9⟩, h9, hk2⟩ := Option.bind_eq_some_iff.mp hk2
                obtain ⟨f1, f2⟩ := go1 d1 hget1
                refine .inr ⟨f1, fun H9 => ∃ wk Hk Sk accdk accvk restk, H9 = upd Hk L (.lst accvk) ∧ Hk L = none ∧ wk.B = w2.B ∧ Stp w1 H1 wk Hk ∧ Wst w6 H6 (wk.hide L) H9 ∧ Ok K wk Sk Hk ∧ RpL K wk Hk accdk accvk ∧ lcGo src1.get t1.f tt1 elt (wipeE e3 vs1) kk (j + 1) Sk = some (restk, S6) ∧ accd ++ zs = accdk ++ restk,
                  fun H9 h9 => ⟨kk, Nat.lt_succ_self kk, h9⟩, fun x1 H10 y1 => ?_⟩
                obtain ⟨st1, k10, rx1⟩ := f2 x1 H10 y1
                have re6 : RpE K w6 H6 e3 σ4 := (re4.mono s5).mono s6
                have re10 : RpE K (wk.hide L) H10 e3 σ4 := ⟨re6.1, fun i d hd => by
                  obtain ⟨v, hv, rv⟩ := re6.2 i d hd
                  exact ⟨v, hv, (rv.monoW sk6).mono st1⟩⟩
                refine t1.ok k10 (re10.wipe vs1) rx1 h5 fun σ11 re11 hw1 => ?_
                refine ⟨by rw [hw1 vs1 hv1, wipe_wipe], ⟨_, e5, Sk, c, S9, re11, k10, h9, fun w12 H12 s12 k12 => ?_⟩⟩
                have next : ∀ (w14 : Wd) (H14 : Hp) (S14 : Store) (accd' : List DV.D) (accv' : List V) (rest' : List DV.D), Stp (wk.hide L) (upd Hk L (.lst accvk)) w14 H14 → Ok K w14 S14 H14 → (∀ wz Hz, wz = (⟨w14.rho, wk.B⟩ : Wd) → Hz = er L H14 → RpL K wz Hz accd' accv') →
                    lcGo src1.get t1.f tt1 elt (wipeE e3 vs1) kk (j + 1) S14 = some (rest', S6) → accd ++ zs = accd' ++ rest' → ∃ wk Hk Sk accdk accvk restk, upd H14 L (.lst accv') = upd Hk L (.lst accvk) ∧ Hk L = none ∧ wk.B = w2.B ∧ Stp w1 H1 wk Hk ∧ Wst w6 H6 (wk.hide L) (upd H14 L (.lst accv')) ∧ Ok K wk Sk Hk ∧ RpL K wk Hk accdk accvk ∧ lcGo src1.get t1.f tt1 elt (wipeE e3 vs1) kk (j + 1) Sk = some (restk, S6) ∧ accd ++ zs = accdk ++ restk := by
                  intro w14 H14 S14 accd' accv' rest' s14 k14 racc' hl14 hd14
                  obtain ⟨v1, v2, v3, v4, v5⟩ := unhide kk1 hLk s14 k14
                  have bL14 : w14.B L := (s14.B L _ upd_same (kk1.new hLk).1).mpr (.inr rfl)
                  refine ⟨⟨w14.rho, wk.B⟩, er L H14, S14, accd', accv', rest', ?_, v2, hBk, sk1.trans v3, ?_, v4, racc' _ _ rfl rfl, hl14, hd14⟩
                  · conv => lhs; rw [v1]
                    rw [upd_upd]
                  · refine sk6.trans (s14.toW.trans ⟨⟨[], by simp [Wd.hide]⟩, fun b o h n z => ?_, fun b o h n nb => ⟨?_, n⟩⟩)
                    · rcases z with z | z
                      · obtain ⟨ob, eo⟩ := kk1.bt b z
                        have na : b ∉ wk.rho := fun q => kk1.nb b q z
                        exact (s14.B b ob (by rw [upd_ne (ne_of_none eo hLk)]; exact eo) na).mpr (.inl z)
                      · rw [z]; exact bL14
                    · rw [upd_ne (fun z => nb (by rw [z]; exact bL14))]; exact h
                cases c with
                | true =>
                  refine (show (if (true : Bool) = true then _ else _) from iteT ?_)
                  rw [if_pos rfl] at hk2
                  obtain ⟨⟨z, S13⟩, h13, hk2⟩ := Option.bind_eq_some_iff.mp hk2
                  obtain ⟨⟨zs2, S15⟩, h15, hk2⟩ := Option.bind_eq_some_iff.mp hk2
                  cases hk2
                  refine ⟨w12, e5, S9, z, S13, re11.mono s12, k12, h13, fun w14 H14 v14 s14 k14 r14 => ?_⟩
                  have sk14 : Stp (wk.hide L) (upd Hk L (.lst accvk)) w14 H14 := (st1.trans s12).trans s14
                  obtain ⟨v1, v2, v3, v4, v5⟩ := unhide kk1 hLk sk14 k14
                  have lz : accdk.length < LIM := by
                    have := hz
                    rw [hds, ← List.append_assoc, hdk] at this
                    simp at this
                    omega
                  refine ⟨accvk, by rw [v1, upd_same], by rw [lim_eq, ← rk.length]; exact lz, ?_⟩
                  refine next w14 H14 S13 (accdk ++ [z]) (accvk ++ [v14]) zs2 sk14 k14 (fun wz Hz e1 e2 => ?_) h15 (by rw [hdk]; simp)
                  subst e1 e2
                  exact (rk.mono v3).append (.cons (v5 _ _ r14) .nil)
                | false =>
                  refine (show (if (false : Bool) = true then _ else _) from iteF ?_)
                  rw [if_neg Bool.false_ne_true] at hk2
                  have sk12 : Stp (wk.hide L) (upd Hk L (.lst accvk)) w12 H12 := st1.trans s12
                  obtain ⟨v1, v2, v3, v4, v5⟩ := unhide kk1 hLk sk12 k12
                  have := next w12 H12 S9 accdk accvk restk sk12 k12 (fun wz Hz e1 e2 => by subst e1 e2; exact rk.mono v3) hk2 hdk
                  have e12 : upd H12 L (.lst accvk) = H12 := by
                    conv => lhs; rw [v1]
                    rw [upd_upd]; exact v1.symm
                  rw [e12] at this
                  exact this
        | false =>
          rw [if_neg Bool.false_ne_true]
          rw [if_neg Bool.false_ne_true] at hm2
          obtain ⟨u1, u2, u3, u4, u5⟩ := unhide k2 hLe (st.trans s5) k5
          exact ⟨_, er L H5, S4, accd, accv, rest, u1, u2, s2.trans u3, u4, racc.mono u3, hm2, hds⟩
theorem af_lc2 {elt tg iter tg1 iter1 : Expr} {ifs ifs1 : List Expr} {scope : Scope} {pos : Pos} {mi mi1 : MI} {t t1 : Tg} {tt tt1 : MT} {me : ME} (own : List (Str × Nat)) (vs1 : List Nat) (hc : X.calm = true) (hN : X.N.Nodup) (hi : AI X tg iter mi) (ok : BlkOk X.N X.env.scope scope own)
    (hg : ∀ (s : Shared) (H : Hp) (C : Addr) (cl : List (Str × Addr)) (fp : List Addr), AG (X.blk s H scope (compEnvC scope cl C X.env) fp) tg t) (ht : ∀ (s : Shared) (H : Hp) (C : Addr) (cl : List (Str × Addr)) (fp : List Addr), ATs (X.blk s H scope (compEnvC scope cl C X.env) fp) ifs tt)
    (hi1 : ∀ (s : Shared) (H : Hp) (C : Addr) (cl : List (Str × Addr)) (fp : List Addr), AI (X.blk s H scope (compEnvC scope cl C X.env) fp) tg1 iter1 mi1)
    (hg1 : ∀ (s : Shared) (H : Hp) (C : Addr) (cl : List (Str × Addr)) (fp : List Addr), AG (X.blk s H scope (compEnvC scope cl C X.env) fp) tg1 t1) (ht1 : ∀ (s : Shared) (H : Hp) (C : Addr) (cl : List (Str × Addr)) (fp : List Addr), ATs (X.blk s H scope (compEnvC scope cl C X.env) fp) ifs1 tt1)
    (he : ∀ (s : Shared) (H : Hp) (C : Addr) (cl : List (Str × Addr)) (fp : List Addr), AE (X.blk s H scope (compEnvC scope cl C X.env) fp) elt me) (hs : ∀ x, foldedSetIterable iter X.env x = pure x := by intro _; rfl) (hs1 : ∀ env x, foldedSetIterable iter1 env x = pure x := by intro _ _; rfl)
    (hv : ∀ i ∈ t.slots, i ∈ own.map (·.2) := by decide) (hv1 : ∀ i ∈ t1.slots, i ∈ vs1 := by decide) (hv2 : ∀ i ∈ vs1, i ∈ own.map (·.2) := by decide) :
    AF X (.ListComp elt [⟨tg, iter, ifs, 0⟩, ⟨tg1, iter1, ifs1, 0⟩] scope pos) (mLC2 mi t tt mi1 t1 tt1 me (own.map (·.2)) vs1) := PE.imp (pe_lc2 hc hN hi ok hv2 hg ht hi1 hg1 ht1 he hs hs1) fun _ _ _ => lc2_imp hv hv1
theorem as_setLc2 {i : Nat} {y : Str} {py : Pos} {elt tg iter tg1 iter1 : Expr} {ifs ifs1 : List Expr} {scope : Scope} {pos spos : Pos} {mi mi1 : MI} {t t1 : Tg} {tt tt1 : MT} {me : ME} (own : List (Str × Nat)) (vs1 : List Nat) (hc : X.calm = true) (hN : X.N.Nodup) (hi : AI X tg iter mi) (ok : BlkOk X.N X.env.scope scope own)
    (hg : ∀ (s : Shared) (H : Hp) (C : Addr) (cl : List (Str × Addr)) (fp : List Addr), AG (X.blk s H scope (compEnvC scope cl C X.env) fp) tg t) (ht : ∀ (s : Shared) (H : Hp) (C : Addr) (cl : List (Str × Addr)) (fp : List Addr), ATs (X.blk s H scope (compEnvC scope cl C X.env) fp) ifs tt)
    (hi1 : ∀ (s : Shared) (H : Hp) (C : Addr) (cl : List (Str × Addr)) (fp : List Addr), AI (X.blk s H scope (compEnvC scope cl C X.env) fp) tg1 iter1 mi1)
    (hg1 : ∀ (s : Shared) (H : Hp) (C : Addr) (cl : List (Str × Addr)) (fp : List Addr), AG (X.blk s H scope (compEnvC scope cl C X.env) fp) tg1 t1) (ht1 : ∀ (s : Shared) (H : Hp) (C : Addr) (cl : List (Str × Addr)) (fp : List Addr), ATs (X.blk s H scope (compEnvC scope cl C X.env) fp) ifs1 tt1)
    (he : ∀ (s : Shared) (H : Hp) (C : Addr) (cl : List (Str × Addr)) (fp : List Addr), AE (X.blk s H scope (compEnvC scope cl C X.env) fp) elt me) (hy : X.N[i]? = some y := by rfl) (hyl : X.env.scope.names.lookup y = some .local := by rfl)
    (hsw : swapsWith (.ListComp elt [⟨tg, iter, ifs, 0⟩, ⟨tg1, iter1, ifs1, 0⟩] scope pos) (some (.Name y py)) spos.line X.env = pure true := by exact sw_true rfl rfl rfl (by decide +kernel)) (hs : ∀ x, foldedSetIterable iter X.env x = pure x := by intro _; rfl) (hs1 : ∀ env x, foldedSetIterable iter1 env x = pure x := by intro _ _; rfl)
    (hv : ∀ i ∈ t.slots, i ∈ own.map (·.2) := by decide) (hv1 : ∀ i ∈ t1.slots, i ∈ vs1 := by decide) (hv2 : ∀ i ∈ vs1, i ∈ own.map (·.2) := by decide) (sto : Bool) :
    AS X (.Assign [.Name y py] (.ListComp elt [⟨tg, iter, ifs, 0⟩, ⟨tg1, iter1, ifs1, 0⟩] scope pos) spos) (mAsg ((if sto then mSto else mVal) (mLC2 mi t tt mi1 t1 tt1 me (own.map (·.2)) vs1)) (.nm i)) := PS.imp (ps_setLc2 hc hN hy hyl hsw hi ok hv2 hg ht hi1 hg1 ht1 he hs hs1) fun D σ H h => by
  obtain ⟨w, e, S, f, S', re, k, hm, q⟩ := h
  unfold mAsg at hm
  obtain ⟨⟨d, S1⟩, h1, hm⟩ := Option.bind_eq_some_iff.mp hm
  obtain ⟨e1, h2, hm⟩ := Option.bind_eq_some_iff.mp hm
  cases hm
  have fin : ∀ w' H' v, Stp w H w' H' → Ok X.K w' S' H' → Rp X.K w' H' d v → gName i v σ H' D.nx := fun w' H' v s' k' r' => by
    cases h2
    exact q w' H' s' k' _ ((re.mono s').set r')
  cases sto with
  | true =>
    rw [if_pos rfl] at h1
    unfold mSto at h1
    obtain ⟨⟨ds, S2⟩, h3, h1⟩ := Option.bind_eq_some_iff.mp h1
    cases h1
    exact lc2_imp hv hv1 ⟨w, e, S, ds, S2, re, k, h3, fun w' H' p vs s' k' hp r => Post.addL (fun w2 H2 v s2 k2 r2 => fin w2 H2 v (s'.trans s2) k2 r2) k' hp r⟩
  | false =>
    rw [if_neg Bool.false_ne_true] at h1
    unfold mVal at h1
    obtain ⟨⟨ds, S2⟩, h3, h1⟩ := Option.bind_eq_some_iff.mp h1
    cases h1
    exact lc2_imp hv hv1 ⟨w, e, S, ds, _, re, k, h3, fun w' H' p vs s' k' hp r => Post.newL (fun w2 H2 v s2 k2 r2 => fin w2 H2 v (s'.trans s2) k2 r2) k' hp r⟩
end
end DV

/-! DVs: reckoning with the meanings, in plain Lean. -/
namespace DV
open PySem PySem.Spec PyProof.Rows L2
section
variable {e : Ev} {S : Store} {m m1 m2 ma mb mc : ME} {a b c : MT} {ms : ML} {s t : MS} {i : Nat} {d : D}
@[simp] theorem r_V : mV i e S = (match e[i]? with | some (some d) => some (d, S) | _ => none) := rfl
@[simp] theorem r_C : mC d e S = some (d, S) := rfl
@[simp] theorem r_Bin {f} : mBin f ma mb e S = (ma e S).bind fun x => (mb e x.2).bind fun y => f x.1 y.1 y.2 := rfl
@[simp] theorem r_TV : mTV m e S = (m e S).bind fun x => match x.1 with | .bl b => some (b, x.2) | _ => none := rfl
@[simp] theorem r_Tru : mTru m e S = (m e S).bind fun x => (truth' x.1 x.2).bind fun b => some (b, x.2) := rfl
@[simp] theorem r_And : mAnd a b e S = (a e S).bind fun x => if x.1 then b e x.2 else some (false, x.2) := rfl
@[simp] theorem r_Or : mOr a b e S = (a e S).bind fun x => if x.1 then some (true, x.2) else b e x.2 := rfl
@[simp] theorem r_Not : mNot a e S = (a e S).bind fun x => some (!x.1, x.2) := rfl
@[simp] theorem r_AndV : mAndV ma mb e S = (ma e S).bind fun x => (truth' x.1 x.2).bind fun c => if c then mb e x.2 else some (x.1, x.2) := rfl
@[simp] theorem r_OrV : mOrV ma mb e S = (ma e S).bind fun x => (truth' x.1 x.2).bind fun c => if c then some (x.1, x.2) else mb e x.2 := rfl
@[simp] theorem r_NotV : mNotV ma e S = (ma e S).bind fun x => (truth' x.1 x.2).bind fun c => some (.bl (!c), x.2) := rfl
@[simp] theorem r_If : mIf c ma mb e S = (c e S).bind fun x => if x.1 then ma e x.2 else mb e x.2 := rfl
@[simp] theorem r_Un {f} : mUn f m e S = (m e S).bind fun x => (f x.1).bind fun r => some (r, x.2) := rfl
@[simp] theorem r_neg {i : Int} : fNeg (.int i) = some (.int (-i)) := rfl
@[simp] theorem r_CB {f} : mCB f ms e S = (ms e S).bind fun x => f x.1 x.2 := rfl
@[simp] theorem r_Call {M} : mCall M ms e S = (ms e S).bind fun x => M x.1 x.2 := rfl
@[simp] theorem r_Nil : mNil e S = some ([], S) := rfl
@[simp] theorem r_Cons : mCons m ms e S = (m e S).bind fun x => (ms e x.2).bind fun y => some (x.1 :: y.1, y.2) := rfl
@[simp] theorem r_Tup : mTup ms e S = (ms e S).bind fun x => if x.1.length ≤ LIM then some (.tup x.1, x.2) else none := rfl
@[simp] theorem r_Lst : mLst ms e S = (ms e S).bind fun x => if x.1.length ≤ LIM then some (x.1, x.2) else none := rfl
@[simp] theorem r_Val {ml : ML} : mVal ml e S = (ml e S).bind fun x => some (.lst x.1, x.2) := rfl
@[simp] theorem r_Sto {ml : ML} : mSto ml e S = (ml e S).bind fun x => some (.ref x.2.length, x.2 ++ [.lst x.1]) := rfl
@[simp] theorem r_ListOf : mListOf m e S = (m e S).bind fun x => (seqOf x.1 x.2).bind fun xs => some (xs, x.2) := rfl
@[simp] theorem r_Sorted : mSorted m e S = (m e S).bind fun x => (seqOf x.1 x.2).bind fun xs => if D.fitL 31 xs ∧ alikeB xs ∧ sortableB xs then some (xs.mergeSort dle, x.2) else none := rfl
@[simp] theorem r_Skip : mSkip e S = some (.nx e, S) := rfl
@[simp] theorem r_Ret : mRet m e S = (m e S).bind fun x => some (.rt x.1, x.2) := rfl
@[simp] theorem r_Drop : mDrop m e S = (m e S).bind fun x => some (.nx e, x.2) := rfl
@[simp] theorem r_IfS : mIfS c s t e S = (c e S).bind fun x => if x.1 then s e x.2 else t e x.2 := rfl
@[simp] theorem r_Asg {g : Tg} : mAsg m g e S = (m e S).bind fun x => (g.f x.1 e).bind fun e1 => some (.nx e1, x.2) := rfl
@[simp] theorem r_nm : (Tg.nm i).f d e = some (e.set i (some d)) := rfl
@[simp] theorem r_tp {is : List Nat} {ds : List D} : (Tg.tp is).f (.tup ds) e = if ds.length = is.length then some (setAll is ds e) else none := rfl
@[simp] theorem r_Bk : mBk e S = some (.bk e, S) := rfl
@[simp] theorem r_Ct : mCt e S = some (.ct e, S) := rfl
@[simp] theorem r_It : mIt m e S = (m e S).bind fun x => (srcOf x.1 x.2).bind fun s => some (s, x.2) := rfl
@[simp] theorem r_Rg1 : mRg1 ms e S = (ms e S).bind fun x => match x.1 with | [.int b] => if I62 b then some (.seq (rngL 0 b), x.2) else none | _ => none := rfl
@[simp] theorem r_Rg2 : mRg2 ms e S = (ms e S).bind fun x => match x.1 with | [.int a, .int b] => if I62 a ∧ I62 b then some (.seq (rngL a b), x.2) else none | _ => none := rfl
@[simp] theorem r_O0 : mO0 e S = some (none, S) := rfl
@[simp] theorem r_O1 : mO1 m e S = (m e S).bind fun x => match x.1 with | .int i => some (some i, x.2) | _ => none := rfl
@[simp] theorem r_Sl {f} {ml mh : MO} : mSl f m ml mh e S = (m e S).bind fun x => (ml e x.2).bind fun y => (mh e y.2).bind fun z => (f x.1 y.1 z.1).bind fun r => some (r, z.2) := rfl
@[simp] theorem r_SlL {ml mh : MO} : mSlL m ml mh e S = (m e S).bind fun x => (ml e x.2).bind fun y => (mh e y.2).bind fun z => (lstOf x.1 z.2).bind fun xs => some (cutD xs y.1 z.1, z.2) := rfl
@[simp] theorem r_slT {xs : List D} {lo hi} : fSlT (.tup xs) lo hi = some (.tup (cutD xs lo hi)) := rfl
@[simp] theorem r_SetIx : mSetIx m m1 m2 e S = (m e S).bind fun x => (m1 e x.2).bind fun y => (m2 e y.2).bind fun z => match y.1, z.1 with
  | .ref p, .int k => match z.2[p]? with
    | some (.lst xs) => (ixN xs.length k).bind fun j => some (.nx e, z.2.set p (.lst (xs.set j x.1)))
    | _ => none
  | _, _ => none := rfl
@[simp] theorem r_Par {j : Nat} : mPar i j ms e S = (ms e S).bind fun x => match x.1 with | [d1, d2] => some (.nx ((e.set i (some d1)).set j (some d2)), x.2) | _ => none := rfl
@[simp] theorem r_add {i j : Int} : fAdd (.int i) (.int j) S = some (.int (i + j), S) := rfl
@[simp] theorem r_addT {x y : List D} : fAdd (.tup x) (.tup y) S = if x.length + y.length ≤ LIM then some (.tup (x ++ y), S) else none := rfl
@[simp] theorem r_addL {x y : List D} : fAdd (.lst x) (.lst y) S = if x.length + y.length ≤ LIM then some (.lst (x ++ y), S) else none := rfl
@[simp] theorem r_subI {i j : Int} : fSub (.int i) (.int j) S = some (.int (i - j), S) := rfl
@[simp] theorem r_mul {i j : Int} : fMul (.int i) (.int j) S = if MulOk i j then some (.int (i * j), S) else none := rfl
@[simp] theorem r_mod {i j : Int} : fMod (.int i) (.int j) S = if 0 < j then some (.int (i % j), S) else none := rfl
@[simp] theorem r_div {i j : Int} : fDiv (.int i) (.int j) S = if 0 < j ∧ j.natAbs < BIG then some (.int (i / j), S) else none := rfl
@[simp] theorem r_pow {i j : Int} : fPow (.int i) (.int j) S = if 0 ≤ j ∧ j ≤ 1000000 ∧ i.natAbs < 2 ^ 64 then some (.int (i ^ j.toNat), S) else none := rfl
@[simp] theorem r_cmp {pI pD} {i j : Int} : fCmp pI pD (.int i) (.int j) S = some (.bl (pI i j), S) := rfl
@[simp] theorem r_len {d : D} (h : ∀ y, d ≠ .str y) : fLen [d] S = (seqOf d S).bind fun xs => some (.int xs.length, S) := by
  cases d <;> first | rfl | exact absurd rfl (h _)
@[simp] theorem r_int {i : Int} : fInt [.int i] S = some (.int i, S) := rfl
@[simp] theorem r_intb {b : Bool} : fInt [.bl b] S = some (.int (if b then 1 else 0), S) := rfl
@[simp] theorem r_tuple : fTuple [d] S = (seqOf d S).bind fun xs => some (.tup xs, S) := rfl
@[simp] theorem r_sum : fSum [d] S = (lstOf d S).bind fun xs => (intsOf xs).bind fun ns => some (.int ns.sum, S) := rfl
@[simp] theorem r_any : fAny [d] S = (lstOf d S).bind fun xs => (blsOf xs).bind fun bs => some (.bl (bs.any id), S) := rfl
@[simp] theorem r_all : fAll [d] S = (lstOf d S).bind fun xs => (blsOf xs).bind fun bs => some (.bl (bs.all id), S) := rfl
@[simp] theorem r_min2 {i j : Int} : fMinA [.int i, .int j] S = some (.int (if j < i then j else i), S) := rfl
@[simp] theorem r_max2 {i j : Int} : fMaxA [.int i, .int j] S = some (.int (if j > i then j else i), S) := rfl
@[simp] theorem r_rng1 {b : Int} : fRng1 [.int b] S = some (.rng 0 b, S) := rfl
@[simp] theorem r_rng2 {a b : Int} : fRng2 [.int a, .int b] S = some (.rng a b, S) := rfl
@[simp] theorem seq_tup {xs : List D} : seqOf (.tup xs) S = some xs := rfl
@[simp] theorem seq_lst {xs : List D} : seqOf (.lst xs) S = some xs := rfl
@[simp] theorem seq_fr {xs : List D} : seqOf (.fr xs) S = some xs := rfl
@[simp] theorem seq_ref {p : Nat} : seqOf (.ref p) S = (match S[p]? with | some (.lst xs) => some xs | _ => none) := rfl
@[simp] theorem lst_lst {xs : List D} : lstOf (.lst xs) S = some xs := rfl
@[simp] theorem lst_fr {xs : List D} : lstOf (.fr xs) S = some xs := rfl
@[simp] theorem lst_ref {p : Nat} : lstOf (.ref p) S = (match S[p]? with | some (.lst xs) => some xs | _ => none) := rfl
@[simp] theorem ltr_lst {xs : List D} : lstTr (.lst xs) S = some xs := rfl
@[simp] theorem ltr_ref {p : Nat} : lstTr (.ref p) S = (match S[p]? with | some (.lst xs) => some xs | _ => none) := rfl
@[simp] theorem src_tup {xs : List D} : srcOf (.tup xs) S = some (.seq xs) := rfl
@[simp] theorem src_lst {xs : List D} : srcOf (.lst xs) S = some (.seq xs) := rfl
@[simp] theorem src_fr {xs : List D} : srcOf (.fr xs) S = some (.seq xs) := rfl
@[simp] theorem src_rng {lo hi : Int} : srcOf (.rng lo hi) S = if I62 lo ∧ I62 hi then some (.seq (rngL lo hi)) else none := rfl
@[simp] theorem ints_map (ns : List Int) : intsOf (ns.map D.int) = some ns := intsOf_map ns
@[simp] theorem bls_map (ns : List Bool) : blsOf (ns.map D.bl) = some ns := blsOf_map ns
@[simp] theorem ix_tup {xs : List D} {i : Int} : fIx (.tup xs) (.int i) S = (atI xs i).bind fun d => some (d, S) := rfl
@[simp] theorem ix_lst {xs : List D} {i : Int} : fIx (.lst xs) (.int i) S = (atI xs i).bind fun d => some (d, S) := rfl
@[simp] theorem ix_ref {p : Nat} {i : Int} : fIx (.ref p) (.int i) S = (seqOf (.ref p) S).bind fun xs => (atI xs i).bind fun d => some (d, S) := rfl
@[simp] theorem tr_bl {b : Bool} : truth' (.bl b) S = some b := rfl
@[simp] theorem tr_int {i : Int} : truth' (.int i) S = some (i != 0) := rfl
@[simp] theorem tr_tup {xs : List D} : truth' (.tup xs) S = some !xs.isEmpty := rfl
@[simp] theorem tr_lst {xs : List D} : truth' (.lst xs) S = some !xs.isEmpty := rfl
@[simp] theorem tr_ref {p : Nat} : truth' (.ref p) S = (match S[p]? with | some (.lst xs) => some !xs.isEmpty | _ => none) := rfl
@[simp] theorem tr_non : truth' .non S = some false := rfl
@[simp] theorem r_frz {n k : Nat} {i : Int} : frz n S (k + 1) (.int i) = some (.int i) := by simp only [frz]
@[simp] theorem r_frzb {n k : Nat} {i : Bool} : frz n S (k + 1) (.bl i) = some (.bl i) := by simp only [frz]
@[simp] theorem r_frzn {n k : Nat} : frz n S (k + 1) .non = some .non := by simp only [frz]
@[simp] theorem r_frzs {n k : Nat} {x : Str} : frz n S (k + 1) (.str x) = some (.str x) := by simp only [frz]
@[simp] theorem is_int {T : String} : mIsi T m e S = (m e S).bind fun x => (tyOf x.1 x.2).bind fun t => some (.bl (isT t T), x.2) := rfl
@[simp] theorem is_two {T1 T2 : String} : mIsi2 T1 T2 m e S = (m e S).bind fun x => (tyOf x.1 x.2).bind fun t => some (.bl (isT t T1 || isT t T2), x.2) := rfl
end
/-- content without places of the store: it stands as it is -/
theorem frz_fit : ∀ (k : Nat) (n : Nat) (S : Store) (d : D), D.fit k d = true → frz n S (k + 1) d = some d
  | k, n, S, .non, _ => by simp only [frz]
  | k, n, S, .bl _, _ => by simp only [frz]
  | k, n, S, .int _, _ => by simp only [frz]
  | k, n, S, .str _, _ => by simp only [frz]
  | 0, n, S, .tup xs, h => by simp [D.fit] at h
  | k + 1, n, S, .tup xs, h => by
    simp only [D.fit] at h
    have : frz.frzL n S (k + 1) xs = some xs := by
      induction xs with
      | nil => simp only [frz.frzL]
      | cons x xs ih =>
        simp only [D.fitL, Bool.and_eq_true] at h
        simp only [frz.frzL]
        rw [frz_fit k n S x h.1, ih h.2]; rfl
    simp only [frz, this, Option.map_some]
  | 0, n, S, .lst xs, h => by simp [D.fit] at h
  | k + 1, n, S, .lst xs, h => by
    simp only [D.fit] at h
    have : frz.frzL n S (k + 1) xs = some xs := by
      induction xs with
      | nil => simp only [frz.frzL]
      | cons x xs ih =>
        simp only [D.fitL, Bool.and_eq_true] at h
        simp only [frz.frzL]
        rw [frz_fit k n S x h.1, ih h.2]; rfl
    simp only [frz, this, Option.map_some]
  | k, n, S, .ref _, h => by simp [D.fit] at h
  | k, n, S, .fr _, h => by simp [D.fit] at h
  | k, n, S, .rng _ _, h => by simp [D.fit] at h
theorem fit_ints (k : Nat) (ns : List Int) : D.fitL k (ns.map D.int) = true := by
  induction ns with
  | nil => rfl
  | cons n r ih => simp [D.fitL, D.fit, ih]
theorem fin_pure {S : Store} {d : D} (h : D.fit 11 d = true) : fin .pure S d S = some (d, S) := by
  unfold fin
  simp [frz_fit 11 _ _ _ h]
theorem fin_pure_app {S T : Store} {d : D} (h : D.fit 11 d = true) : fin .pure S d (S ++ T) = some (d, S) := by
  unfold fin
  simp [frz_fit 11 _ _ _ h]
/-! ### loops by their lists -/
def lcL (bind : D → Ev → Option Ev) (tt : MT) (elt : ME) (e0 : Ev) : List D → Store → Option (List D × Store)
  | [], S => some ([], S)
  | d :: ds, S => (bind d e0).bind fun e1 => (tt e1 S).bind fun x => if x.1 then (elt e1 x.2).bind fun y => (lcL bind tt elt e0 ds y.2).bind fun z => some (y.1 :: z.1, z.2) else lcL bind tt elt e0 ds x.2
theorem lcGo_seq {bind : D → Ev → Option Ev} {tt : MT} {elt : ME} {e0 : Ev} {L : List D} : ∀ (n i : Nat) (S : Store), L.length = i + n → lcGo (Src.seq L).get bind tt elt e0 n i S = lcL bind tt elt e0 (L.drop i) S
  | 0, i, S, h => by
    have e : L.drop i = [] := List.drop_eq_nil_of_le (by omega)
    rw [e]
    have : (Src.seq L).get i S = some none := by show some L[i]? = some none; rw [List.getElem?_eq_none (by omega)]
    simp only [lcGo, this, lcL]
  | n + 1, i, S, h => by
    have hi : i < L.length := by omega
    have : (Src.seq L).get i S = some (some L[i]) := by show some L[i]? = _; rw [List.getElem?_eq_getElem hi]
    rw [List.drop_eq_getElem_cons hi]
    simp only [lcGo, this, lcL]
    congr 1; funext e1; congr 1; funext x
    obtain ⟨b, S1⟩ := x
    cases b with
    | true =>
      simp only [if_true]
      congr 1; funext y
      obtain ⟨y, S2⟩ := y
      simp only
      rw [lcGo_seq n (i + 1) S2 (by omega)]
    | false =>
      simp only [Bool.false_eq_true, if_false]
      rw [lcGo_seq n (i + 1) S1 (by omega)]
theorem lcGo_all {bind : D → Ev → Option Ev} {tt : MT} {elt : ME} {e0 : Ev} {L : List D} {S : Store} : lcGo (Src.seq L).get bind tt elt e0 (Src.seq L).n 0 S = lcL bind tt elt e0 L S := lcGo_seq L.length 0 S (by omega)
def forL (bind : D → Ev → Option Ev) (body : MS) : List D → Ev → Store → Option (Fl × Store)
  | [], e, S => some (.nx e, S)
  | d :: ds, e, S => (bind d e).bind fun e1 => (body e1 S).bind fun x => match x.1 with
      | .nx e2 => forL bind body ds e2 x.2
      | .ct e2 => forL bind body ds e2 x.2
      | .bk e2 => some (.nx e2, x.2)
      | .rt d => some (.rt d, x.2)
theorem forGo_seq {bind : D → Ev → Option Ev} {body : MS} {L : List D} : ∀ (n i : Nat) (e : Ev) (S : Store), L.length = i + n → forGo (Src.seq L).get bind body n i e S = forL bind body (L.drop i) e S
  | 0, i, e, S, h => by
    have e : L.drop i = [] := List.drop_eq_nil_of_le (by omega)
    rw [e]
    have : (Src.seq L).get i S = some none := by show some L[i]? = some none; rw [List.getElem?_eq_none (by omega)]
    simp only [forGo, this, forL]
  | n + 1, i, e, S, h => by
    have hi : i < L.length := by omega
    have : (Src.seq L).get i S = some (some L[i]) := by show some L[i]? = _; rw [List.getElem?_eq_getElem hi]
    rw [List.drop_eq_getElem_cons hi]
    simp only [forGo, this, forL]
    congr 1; funext e1; congr 1; funext x
    obtain ⟨f, S1⟩ := x
    cases f with
    | nx e2 => exact forGo_seq n (i + 1) e2 S1 (by omega)
    | ct e2 => exact forGo_seq n (i + 1) e2 S1 (by omega)
    | bk e2 => rfl
    | rt d => rfl
theorem forGo_all {bind : D → Ev → Option Ev} {body : MS} {L : List D} {e : Ev} {S : Store} : forGo (Src.seq L).get bind body (Src.seq L).n 0 e S = forL bind body L e S := forGo_seq L.length 0 e S (by omega)
theorem enum_seq (L : List D) : (Src.seq L).enum = Src.seq (L.mapIdx fun i d => .tup [.int (i : Nat), d]) := by
  unfold Src.enum Src.seq
  simp only [List.length_mapIdx, Src.mk.injEq, true_and]
  funext i S
  simp
section
variable {e : Ev} {S : Store} {m : ME} {mi : MI} {t : Tg} {tt : MT} {elt : ME} {vs : List Nat} {body : MS}
/-- a comprehension over what is known -/
theorem r_LC {L : List D} {S1 : Store} (h : mi e S = some (.seq L, S1)) : mLC mi t tt elt vs e S = (lcL t.f tt elt (wipeE e vs) L S1).bind fun x => if x.1.length ≤ LIM then some x else none := by
  unfold mLC
  rw [h]
  simp only [Option.bind_some, lcGo_all]
theorem r_For {L : List D} {S1 : Store} (h : mi e S = some (.seq L, S1)) : mFor mi t body e S = forL t.f body L e S1 := by
  unfold mFor
  rw [h]
  simp only [Option.bind_some, forGo_all]
@[simp] theorem r_Enum : mEnum m e S = (m e S).bind fun x => match x.1 with | .rng _ _ => none | _ => (srcOf x.1 x.2).bind fun s => some (s.enum, x.2) := rfl
end
/-- .. where nothing is changed -/
theorem lcL_pure {α : Type} {bind : D → Ev → Option Ev} {tt : MT} {elt : ME} {e0 : Ev} {S : Store} (enc : α → D) (p : α → Bool) (f : α → D) : ∀ (xs : List α), (∀ x ∈ xs, ∃ e1, bind (enc x) e0 = some e1 ∧ tt e1 S = some (p x, S) ∧ (p x = true → elt e1 S = some (f x, S))) →
    lcL bind tt elt e0 (xs.map enc) S = some ((xs.filter p).map f, S)
  | [], _ => rfl
  | x :: xs, h => by
    obtain ⟨e1, h1, h2, h3⟩ := h x (by simp)
    have ih := lcL_pure enc p f xs fun y hy => h y (by simp [hy])
    simp only [List.map_cons, lcL, h1, Option.bind_some, h2]
    by_cases hp : p x = true
    · rw [if_pos hp, h3 hp, Option.bind_some, ih, Option.bind_some, List.filter_cons_of_pos hp]; rfl
    · rw [if_neg hp, ih, List.filter_cons_of_neg hp]
theorem lcL_map {α : Type} {bind : D → Ev → Option Ev} {elt : ME} {e0 : Ev} {S : Store} (enc : α → D) (f : α → D) (xs : List α) (h : ∀ x ∈ xs, ∃ e1, bind (enc x) e0 = some e1 ∧ elt e1 S = some (f x, S)) :
    lcL bind mYes elt e0 (xs.map enc) S = some (xs.map f, S) := by
  rw [lcL_pure enc (fun _ => true) f xs fun x hx => by obtain ⟨e1, h1, h2⟩ := h x hx; exact ⟨e1, h1, rfl, fun _ => h2⟩]
  rw [List.filter_eq_self.2 (fun _ _ => rfl)]
/-- a loop that keeps an invariant and goes to its end -/
theorem forL_inv {bind : D → Ev → Option Ev} {body : MS} (I : List D → Ev → Store → Prop) : ∀ (L : List D) (e : Ev) (S : Store), I L e S →
    (∀ d L e S, I (d :: L) e S → ∃ e1 e2 S1, bind d e = some e1 ∧ (body e1 S = some (.nx e2, S1) ∨ body e1 S = some (.ct e2, S1)) ∧ I L e2 S1) → ∃ e' S', forL bind body L e S = some (.nx e', S') ∧ I [] e' S'
  | [], e, S, h, _ => ⟨e, S, rfl, h⟩
  | d :: L, e, S, h, st => by
    obtain ⟨e1, e2, S1, h1, h2, h3⟩ := st d L e S h
    obtain ⟨e', S', h4, h5⟩ := forL_inv I L e2 S1 h3 st
    refine ⟨e', S', ?_, h5⟩
    simp only [forL, h1, Option.bind_some]
    rcases h2 with h2 | h2 <;> simp only [h2, Option.bind_some, h4]
theorem rngL_eq (n : Nat) : rngL 0 (n : Int) = (List.range n).map fun (i : Nat) => D.int (i : Int) := by
  unfold rngL
  simp
theorem rngL_ab (a b : Int) : rngL a b = (List.range (b - a).toNat).map fun (i : Nat) => D.int (a + (i : Int)) := rfl
theorem atI_of {α : Type} {xs : List α} {i : Nat} (h : i < xs.length) : atI xs (i : Int) = some xs[i] := by rw [atI_nat (List.getElem?_eq_getElem h)]
theorem atI_map {α : Type} {xs : List α} {f : α → D} {i : Nat} (h : i < xs.length) : atI (xs.map f) (i : Int) = some (f xs[i]) := by rw [atI_nat (j := i) (v := f xs[i])]; simp [h]
/-! ### == of content -/
@[simp] theorem deq_int {i j : Int} : deq (.int i) (.int j) = (i == j) := by simp [deq, D.py, PyData.eqv]
@[simp] theorem deq_str {x y : Str} : deq (.str x) (.str y) = (x == y) := by simp [deq, D.py, PyData.eqv]
@[simp] theorem deq_tup {x y : List D} : deq (.tup x) (.tup y) = deqL x y := by simp [deq, deqL, D.py, PyData.eqv]
@[simp] theorem deq_lst {x y : List D} : deq (.lst x) (.lst y) = deqL x y := by simp [deq, deqL, D.py, PyData.eqv]
@[simp] theorem deqL_nil : deqL [] [] = true := by simp [deqL, D.pyL, PyData.eqvAll]
@[simp] theorem deqL_cons {a b : D} {x y : List D} : deqL (a :: x) (b :: y) = (deq a b && deqL x y) := by simp [deqL, deq, D.pyL, PyData.eqvAll]
@[simp] theorem deqL_nc {b : D} {y : List D} : deqL [] (b :: y) = false := by simp [deqL, D.pyL, PyData.eqvAll]
@[simp] theorem deqL_cn {b : D} {y : List D} : deqL (b :: y) [] = false := by simp [deqL, D.pyL, PyData.eqvAll]
theorem deqL_ints : ∀ x y : List Int, deqL (x.map D.int) (y.map D.int) = decide (x = y)
  | [], [] => by simp
  | [], _ :: _ => by simp
  | _ :: _, [] => by simp
  | a :: x, b :: y => by
    simp only [List.map_cons, deqL_cons, deq_int, deqL_ints x y, List.cons.injEq]
    by_cases h : a = b <;> simp [h]
@[simp] theorem fit_int {n : Nat} {i : Int} : D.fit n (.int i) = true := by cases n <;> rfl
@[simp] theorem fit_bl {n : Nat} {i : Bool} : D.fit n (.bl i) = true := by cases n <;> rfl
@[simp] theorem fit_non {n : Nat} : D.fit n .non = true := by cases n <;> rfl
@[simp] theorem fit_str {n : Nat} {x : Str} : D.fit n (.str x) = PyData.strOk x := by cases n <;> rfl
@[simp] theorem fit_tup {n : Nat} {x : List D} : D.fit (n + 1) (.tup x) = D.fitL n x := rfl
@[simp] theorem fit_lst {n : Nat} {x : List D} : D.fit (n + 1) (.lst x) = D.fitL n x := rfl
@[simp] theorem fitL_nil {n : Nat} : D.fitL n [] = true := rfl
@[simp] theorem fitL_cons {n : Nat} {d : D} {x : List D} : D.fitL n (d :: x) = (D.fit n d && D.fitL n x) := rfl
@[simp] theorem fitL_ints {n : Nat} {x : List Int} : D.fitL n (x.map D.int) = true := fit_ints n x
theorem fitL_map {α : Type} {n : Nat} {f : α → D} : ∀ {xs : List α}, (∀ x ∈ xs, D.fit n (f x) = true) → D.fitL n (xs.map f) = true
  | [], _ => rfl
  | x :: xs, h => by simp only [List.map_cons, fitL_cons, Bool.and_eq_true]; exact ⟨h x (by simp), fitL_map fun y hy => h y (by simp [hy])⟩
@[simp] theorem r_eq {a b : D} {S : Store} : fEq a b S = if D.fit 32 (readTop a S) ∧ D.fit 32 (readTop b S) then some (.bl (deq (readTop a S) (readTop b S)), S) else none := rfl
@[simp] theorem r_ne {a b : D} {S : Store} : fNe a b S = if D.fit 32 (readTop a S) ∧ D.fit 32 (readTop b S) then some (.bl (!deq (readTop a S) (readTop b S)), S) else none := rfl
@[simp] theorem rt_int {i : Int} {S : Store} : readTop (.int i) S = .int i := rfl
@[simp] theorem rt_str {i : Str} {S : Store} : readTop (.str i) S = .str i := rfl
@[simp] theorem rt_non {S : Store} : readTop .non S = .non := rfl
@[simp] theorem rt_bl {i : Bool} {S : Store} : readTop (.bl i) S = .bl i := rfl
@[simp] theorem rt_tup {i : List D} {S : Store} : readTop (.tup i) S = .tup i := rfl
@[simp] theorem rt_lst {i : List D} {S : Store} : readTop (.lst i) S = .lst i := rfl
end DV
namespace DV
open PySem PySem.Spec PyProof.Rows L2
/-- a def by its body -/
theorem fn_rt {nN np : Nat} {m : Mode} {body : MS} {ds : List D} {S S' : Store} {d : D} {r : Option (D × Store)} (hl : ds.length = np) (hb : body (ds.map some ++ List.replicate (nN - np) none) S = some (.rt d, S')) (hf : fin m S d S' = r) : fnM nN np m body ds S = r := by
  unfold fnM; rw [if_pos hl, hb]; exact hf
theorem fn_nx {nN np : Nat} {m : Mode} {body : MS} {ds : List D} {S S' : Store} {e : Ev} {r : Option (D × Store)} (hl : ds.length = np) (hb : body (ds.map some ++ List.replicate (nN - np) none) S = some (.nx e, S')) (hf : fin m S .non S' = r) : fnM nN np m body ds S = r := by
  unfold fnM; rw [if_pos hl, hb]; exact hf
theorem seq_nx {s t : MS} {e e1 : Ev} {S S1 : Store} {r : Option (Fl × Store)} (h : s e S = some (.nx e1, S1)) (h2 : t e1 S1 = r) : mSeq s t e S = r := by
  unfold mSeq; rw [h]; exact h2
theorem seq_rt {s t : MS} {e : Ev} {S S1 : Store} {d : D} (h : s e S = some (.rt d, S1)) : mSeq s t e S = some (.rt d, S1) := by
  unfold mSeq; rw [h]; rfl
theorem seq_bk {s t : MS} {e e1 : Ev} {S S1 : Store} (h : s e S = some (.bk e1, S1)) : mSeq s t e S = some (.bk e1, S1) := by
  unfold mSeq; rw [h]; rfl
theorem ret_of {m : ME} {e : Ev} {S S1 : Store} {d : D} (h : m e S = some (d, S1)) : mRet m e S = some (.rt d, S1) := by
  rw [r_Ret, h]; rfl
theorem asg_of {m : ME} {i : Nat} {e : Ev} {S S1 : Store} {d : D} (h : m e S = some (d, S1)) : mAsg m (.nm i) e S = some (.nx (e.set i (some d)), S1) := by
  rw [r_Asg, h]; rfl
theorem call_of {M : Fn} {ms : ML} {e : Ev} {S S1 : Store} {ds : List D} {r : Option (D × Store)} (h : ms e S = some (ds, S1)) (h2 : M ds S1 = r) : mCall M ms e S = r := by
  rw [r_Call, h]; exact h2
theorem val_lc {mi : MI} {t : Tg} {tt : MT} {elt : ME} {vs : List Nat} {e : Ev} {S S1 S2 : Store} {L ys : List D} (h : mi e S = some (.seq L, S1)) (h2 : lcL t.f tt elt (wipeE e vs) L S1 = some (ys, S2)) (h3 : ys.length ≤ LIM) : mVal (mLC mi t tt elt vs) e S = some (.lst ys, S2) := by
  rw [r_Val, r_LC h, h2]; simp only [Option.bind_some]; rw [if_pos h3]; rfl
theorem sto_lc {mi : MI} {t : Tg} {tt : MT} {elt : ME} {vs : List Nat} {e : Ev} {S S1 S2 : Store} {L ys : List D} (h : mi e S = some (.seq L, S1)) (h2 : lcL t.f tt elt (wipeE e vs) L S1 = some (ys, S2)) (h3 : ys.length ≤ LIM) : mSto (mLC mi t tt elt vs) e S = some (.ref S2.length, S2 ++ [.lst ys]) := by
  rw [r_Sto, r_LC h, h2]; simp only [Option.bind_some]; rw [if_pos h3]; rfl
theorem bin_of {f} {ma mb : ME} {e : Ev} {S S1 S2 : Store} {a b : D} {r : Option (D × Store)} (h1 : ma e S = some (a, S1)) (h2 : mb e S1 = some (b, S2)) (h3 : f a b S2 = r) : mBin f ma mb e S = r := by
  unfold mBin; rw [h1]; simp only [Option.bind_some]; rw [h2]; exact h3
theorem cb_of {f} {ms : ML} {e : Ev} {S S1 : Store} {ds : List D} {r : Option (D × Store)} (h1 : ms e S = some (ds, S1)) (h3 : f ds S1 = r) : mCB f ms e S = r := by
  rw [r_CB, h1]; exact h3
theorem cons_of {m : ME} {ms : ML} {e : Ev} {S S1 S2 : Store} {d : D} {ds : List D} (h1 : m e S = some (d, S1)) (h2 : ms e S1 = some (ds, S2)) : mCons m ms e S = some (d :: ds, S2) := by
  rw [r_Cons, h1]; simp only [Option.bind_some]; rw [h2]; rfl
theorem nil_of {e : Ev} {S : Store} : mNil e S = some ([], S) := rfl
theorem one_of {m : ME} {e : Ev} {S S1 : Store} {d : D} (h1 : m e S = some (d, S1)) : mCons m mNil e S = some ([d], S1) := cons_of h1 rfl
theorem tup_of {ms : ML} {e : Ev} {S S1 : Store} {ds : List D} (h1 : ms e S = some (ds, S1)) (h : ds.length ≤ LIM) : mTup ms e S = some (.tup ds, S1) := by
  rw [r_Tup, h1]; simp only [Option.bind_some]; rw [if_pos h]
theorem lst_of {ms : ML} {e : Ev} {S S1 : Store} {ds : List D} (h1 : ms e S = some (ds, S1)) (h : ds.length ≤ LIM) : mVal (mLst ms) e S = some (.lst ds, S1) := by
  rw [r_Val, r_Lst, h1]; simp only [Option.bind_some]; rw [if_pos h]; rfl
theorem sto_of {ms : ML} {e : Ev} {S S1 : Store} {ds : List D} (h1 : ms e S = some (ds, S1)) (h : ds.length ≤ LIM) : mSto (mLst ms) e S = some (.ref S1.length, S1 ++ [.lst ds]) := by
  rw [r_Sto, r_Lst, h1]; simp only [Option.bind_some]; rw [if_pos h]; rfl
theorem tv_of {m : ME} {e : Ev} {S S1 : Store} {b : Bool} (h1 : m e S = some (.bl b, S1)) : mTV m e S = some (b, S1) := by
  rw [r_TV, h1]; rfl
theorem tru_of {m : ME} {e : Ev} {S S1 : Store} {d : D} {b : Bool} (h1 : m e S = some (d, S1)) (h2 : truth' d S1 = some b) : mTru m e S = some (b, S1) := by
  rw [r_Tru, h1]; simp only [Option.bind_some]; rw [h2]; rfl
theorem not_of {m : MT} {e : Ev} {S S1 : Store} {b : Bool} (h1 : m e S = some (b, S1)) : mNot m e S = some (!b, S1) := by
  rw [r_Not, h1]; rfl
theorem ifs_of {c : MT} {s t : MS} {e : Ev} {S S1 : Store} {b : Bool} {r : Option (Fl × Store)} (h1 : c e S = some (b, S1)) (h2 : (if b then s e S1 else t e S1) = r) : mIfS c s t e S = r := by
  rw [r_IfS, h1]; exact h2
theorem if_of {c : MT} {s t : ME} {e : Ev} {S S1 : Store} {b : Bool} {r : Option (D × Store)} (h1 : c e S = some (b, S1)) (h2 : (if b then s e S1 else t e S1) = r) : mIf c s t e S = r := by
  rw [r_If, h1]; exact h2
theorem and_of {a b : MT} {e : Ev} {S S1 : Store} {x : Bool} {r : Option (Bool × Store)} (h1 : a e S = some (x, S1)) (h2 : (if x then b e S1 else some (false, S1)) = r) : mAnd a b e S = r := by
  rw [r_And, h1]; exact h2
theorem or_of {a b : MT} {e : Ev} {S S1 : Store} {x : Bool} {r : Option (Bool × Store)} (h1 : a e S = some (x, S1)) (h2 : (if x then some (true, S1) else b e S1) = r) : mOr a b e S = r := by
  rw [r_Or, h1]; exact h2
theorem i62 {n : Nat} (h : n ≤ 16777216) : I62 0 ∧ I62 (n : Int) := by
  have e : (2 : Int) ^ 62 = 4611686018427387904 := by decide
  simp only [I62, e]
  omega
theorem rg1_b {ms : ML} {e : Ev} {S S1 : Store} {b : Int} (h1 : ms e S = some ([.int b], S1)) (h : I62 b) : mRg1 ms e S = some (.seq (rngL 0 b), S1) := by
  unfold mRg1
  rw [h1]
  simp only [Option.bind_some]
  exact if_pos h
theorem rg1_of {ms : ML} {e : Ev} {S S1 : Store} {n : Nat} (h1 : ms e S = some ([.int (n : Int)], S1)) (h : n ≤ 16777216) : mRg1 ms e S = some (.seq ((List.range n).map fun (i : Nat) => D.int (i : Int)), S1) := by
  rw [rg1_b h1 (i62 h).2, rngL_eq]
theorem for_of {mi : MI} {t : Tg} {body : MS} {e : Ev} {S S1 : Store} {L : List D} {r : Option (Fl × Store)} (h : mi e S = some (.seq L, S1)) (h2 : forL t.f body L e S1 = r) : mFor mi t body e S = r := by
  rw [r_For h]; exact h2
theorem len_of {d : D} {S : Store} {xs : List D} (h : ∀ y, d ≠ .str y) (h2 : seqOf d S = some xs) : fLen [d] S = some (.int (xs.length : Nat), S) := by
  rw [r_len h, h2]; rfl
theorem drop_of {m : ME} {e : Ev} {S S1 : Store} {d : D} (h : m e S = some (d, S1)) : mDrop m e S = some (.nx e, S1) := by
  rw [r_Drop, h]; rfl
/-- a loop that looks for the first -/
theorem forL_find {α : Type} {bind : D → Ev → Option Ev} {body : MS} {S : Store} (I : Ev → Prop) (enc : α → D) (p : α → Bool) (r : α → D) : ∀ (xs : List α) (e : Ev), I e →
    (∀ x ∈ xs, ∀ e, I e → ∃ e1, bind (enc x) e = some e1 ∧ (if p x then body e1 S = some (.rt (r x), S) else ∃ e2, body e1 S = some (.nx e2, S) ∧ I e2)) →
    (∀ x, xs.find? p = some x → forL bind body (xs.map enc) e S = some (.rt (r x), S)) ∧ (xs.find? p = none → ∃ e', forL bind body (xs.map enc) e S = some (.nx e', S) ∧ I e')
  | [], e, h, _ => ⟨fun x hx => by simp at hx, fun _ => ⟨e, rfl, h⟩⟩
  | x :: xs, e, h, st => by
    obtain ⟨e1, h1, h2⟩ := st x (by simp) e h
    by_cases hp : p x = true
    · rw [if_pos hp] at h2
      rw [List.find?_cons_of_pos hp]
      refine ⟨fun y hy => ?_, fun hn => by simp at hn⟩
      cases hy
      simp only [List.map_cons, forL, h1, Option.bind_some, h2]
    · rw [if_neg hp] at h2
      obtain ⟨e2, h2, h3⟩ := h2
      rw [List.find?_cons_of_neg (by simpa using hp)]
      have ih := forL_find I enc p r xs e2 h3 fun y hy => st y (by simp [hy])
      simp only [List.map_cons, forL, h1, Option.bind_some, h2]
      exact ih
theorem src_b {lo hi : Int} {S : Store} (h1 : I62 lo) (h2 : I62 hi) : srcOf (.rng lo hi) S = some (.seq (rngL lo hi)) := if_pos ⟨h1, h2⟩
theorem it_of {m : ME} {e : Ev} {S S1 : Store} {d : D} {s : Src} (h : m e S = some (d, S1)) (h2 : srcOf d S1 = some s) : mIt m e S = some (s, S1) := by
  rw [r_It, h]; simp only [Option.bind_some]; rw [h2]; rfl
theorem it_rng {m : ME} {e : Ev} {S S1 : Store} {n : Nat} (h : m e S = some (.rng 0 (n : Int), S1)) (hz : n ≤ 16777216) : mIt m e S = some (.seq ((List.range n).map fun (i : Nat) => D.int (i : Int)), S1) := by
  rw [it_of h (src_b (i62 hz).1 (i62 hz).2), rngL_eq]
theorem isi_of {T : String} {m : ME} {e : Ev} {S S1 : Store} {d : D} {t : String} {b : Bool} (h : m e S = some (d, S1)) (h2 : tyOf d S1 = some t) (h3 : isT t T = b) : mIsi T m e S = some (.bl b, S1) := by
  rw [is_int, h]; simp only [Option.bind_some]; rw [h2, ← h3]; rfl
theorem isi2_of {T1 T2 : String} {m : ME} {e : Ev} {S S1 : Store} {d : D} {t : String} {b : Bool} (h : m e S = some (d, S1)) (h2 : tyOf d S1 = some t) (h3 : (isT t T1 || isT t T2) = b) : mIsi2 T1 T2 m e S = some (.bl b, S1) := by
  rw [is_two, h]; simp only [Option.bind_some]; rw [h2, ← h3]; rfl
theorem andv_of {a b : ME} {e : Ev} {S S1 : Store} {d : D} {x : Bool} {r : Option (D × Store)} (h1 : a e S = some (d, S1)) (h2 : truth' d S1 = some x) (h3 : (if x then b e S1 else some (d, S1)) = r) : mAndV a b e S = r := by
  rw [r_AndV, h1]; simp only [Option.bind_some]; rw [h2]; exact h3
theorem eq_of {a b : D} {S : Store} {r : Bool} (h1 : D.fit 32 (readTop a S) = true) (h2 : D.fit 32 (readTop b S) = true) (h3 : deq (readTop a S) (readTop b S) = r) : fEq a b S = some (.bl r, S) := by
  rw [r_eq, if_pos ⟨h1, h2⟩, h3]
theorem ne_of {a b : D} {S : Store} {r : Bool} (h1 : D.fit 32 (readTop a S) = true) (h2 : D.fit 32 (readTop b S) = true) (h3 : deq (readTop a S) (readTop b S) = r) : fNe a b S = some (.bl (!r), S) := by
  rw [r_ne, if_pos ⟨h1, h2⟩, h3]
theorem setix_of {m m1 m2 : ME} {e : Ev} {S S1 S2 S3 : Store} {d : D} {p j : Nat} {k : Int} {xs : List D} (h1 : m e S = some (d, S1)) (h2 : m1 e S1 = some (.ref p, S2)) (h3 : m2 e S2 = some (.int k, S3)) (h4 : S3[p]? = some (.lst xs)) (h5 : ixN xs.length k = some j) :
    mSetIx m m1 m2 e S = some (.nx e, S3.set p (.lst (xs.set j d))) := by
  rw [r_SetIx, h1]; simp only [Option.bind_some]; rw [h2]; simp only [Option.bind_some]; rw [h3]; simp only [Option.bind_some]; rw [h4]; simp only; rw [h5]; rfl
theorem mod_of {i j : Int} {S : Store} (h : 0 < j) : fMod (.int i) (.int j) S = some (.int (i % j), S) := if_pos h
theorem big_of {n : Nat} (h : n < 2 ^ 60) : n < BIG := by
  rw [BIG_eq]; exact Nat.lt_of_lt_of_le h (Nat.pow_le_pow_right (by decide) (by decide))
theorem div_big {i j : Int} {S : Store} (h : 0 < j ∧ j.natAbs < BIG) : fDiv (.int i) (.int j) S = some (.int (i / j), S) := if_pos h
theorem div_of {i j : Int} {S : Store} (h : 0 < j) (h2 : j < 1073741824) : fDiv (.int i) (.int j) S = some (.int (i / j), S) := if_pos ⟨h, big_of (Nat.lt_of_lt_of_le (by omega : j.natAbs < 1073741824) (by decide))⟩
theorem mul_of {i j : Int} {S : Store} (h : I64 i ∨ I64 j) : fMul (.int i) (.int j) S = some (.int (i * j), S) := if_pos (.inl h)
theorem mul_big {i j : Int} {S : Store} (h : MulOk i j) : fMul (.int i) (.int j) S = some (.int (i * j), S) := if_pos h
theorem lt_of {i j : Int} {S : Store} {b : Bool} (h : decide (i < j) = b) : fLtD (.int i) (.int j) S = some (.bl b, S) := by subst h; rfl
theorem le_of {i j : Int} {S : Store} {b : Bool} (h : decide (i ≤ j) = b) : fLeD (.int i) (.int j) S = some (.bl b, S) := by subst h; rfl
theorem gt_of {i j : Int} {S : Store} {b : Bool} (h : decide (j < i) = b) : fGtD (.int i) (.int j) S = some (.bl b, S) := by subst h; rfl
theorem ge_of {i j : Int} {S : Store} {b : Bool} (h : decide (j ≤ i) = b) : fGeD (.int i) (.int j) S = some (.bl b, S) := by subst h; rfl
/-- over a list of the store, where nothing is changed -/
theorem lcGo_live {α : Type} {bind : D → Ev → Option Ev} {tt : MT} {elt : ME} {e0 : Ev} {S : Store} {q : Nat} (enc : α → D) (p : α → Bool) (f : α → D) (xs : List α) (hS : S[q]? = some (.lst (xs.map enc))) (h : ∀ x ∈ xs, ∃ e1, bind (enc x) e0 = some e1 ∧ tt e1 S = some (p x, S) ∧ (p x = true → elt e1 S = some (f x, S))) {N : Nat} :
    ∀ (n i : Nat), xs.length = i + n → lcGo (Src.live q N).get bind tt elt e0 n i S = some (((xs.drop i).filter p).map f, S)
  | 0, i, hl => by
    have e : xs.drop i = [] := List.drop_eq_nil_of_le (by omega)
    have hg : (Src.live q N).get i S = some none := by simp only [Src.live]; rw [hS]; simp only; rw [List.getElem?_eq_none (by rw [List.length_map]; omega)]
    rw [e]
    simp only [lcGo, hg]
    rfl
  | n + 1, i, hl => by
    have hi : i < xs.length := by omega
    have hg : (Src.live q N).get i S = some (some (enc xs[i])) := by simp only [Src.live]; rw [hS]; simp only; rw [List.getElem?_map, List.getElem?_eq_getElem hi]; rfl
    obtain ⟨e1, h1, h2, h3⟩ := h xs[i] (List.getElem_mem hi)
    have ih := lcGo_live enc p f xs hS h (N := N) n (i + 1) (by omega)
    rw [List.drop_eq_getElem_cons hi]
    simp only [lcGo, hg, h1, Option.bind_some, h2]
    by_cases hp : p xs[i] = true
    · rw [if_pos hp, h3 hp, Option.bind_some, ih, Option.bind_some, List.filter_cons_of_pos hp]; rfl
    · rw [if_neg hp, ih, List.filter_cons_of_neg hp]
theorem val_live {α : Type} {mi : MI} {t : Tg} {tt : MT} {elt : ME} {vs : List Nat} {e : Ev} {S S1 : Store} {q : Nat} (enc : α → D) (p : α → Bool) (f : α → D) (xs : List α) (hm : mi e S = some (.live q xs.length, S1)) (hS : S1[q]? = some (.lst (xs.map enc)))
    (h : ∀ x ∈ xs, ∃ e1, t.f (enc x) (wipeE e vs) = some e1 ∧ tt e1 S1 = some (p x, S1) ∧ (p x = true → elt e1 S1 = some (f x, S1))) (hz : xs.length ≤ LIM) : mVal (mLC mi t tt elt vs) e S = some (.lst ((xs.filter p).map f), S1) := by
  rw [r_Val]
  unfold mLC
  rw [hm]
  simp only [Option.bind_some]
  have := lcGo_live (bind := t.f) (tt := tt) (elt := elt) (e0 := wipeE e vs) enc p f xs hS h (N := xs.length) xs.length 0 (by omega)
  rw [List.drop_zero] at this
  show Option.bind (Option.bind (lcGo (Src.live q xs.length).get t.f tt elt (wipeE e vs) xs.length 0 S1) _) _ = _
  rw [this]
  simp only [Option.bind_some]
  rw [if_pos (by rw [List.length_map]; exact Nat.le_trans (List.length_filter_le _ _) hz)]; rfl
theorem src_live {q : Nat} {S : Store} {xs : List D} (h : S[q]? = some (.lst xs)) : srcOf (.ref q) S = some (.live q xs.length) := by
  simp only [srcOf]; rw [h]
/-- a loop over a range that keeps an invariant -/
theorem forL_range' {bind : D → Ev → Option Ev} {body : MS} (I : Nat → Ev → Store → Prop) (n : Nat) (st : ∀ i, i < n → ∀ e S, I i e S → ∃ e1 e2 S2, bind (.int (i : Nat)) e = some e1 ∧ body e1 S = some (.nx e2, S2) ∧ I (i + 1) e2 S2) :
    ∀ (k i : Nat) (e : Ev) (S : Store), i + k = n → I i e S → ∃ e' S', forL bind body ((List.range' i k).map fun (j : Nat) => D.int (j : Int)) e S = some (.nx e', S') ∧ I n e' S'
  | 0, i, e, S, hk, h => ⟨e, S, rfl, by have : i = n := by omega
                                        subst this; exact h⟩
  | k + 1, i, e, S, hk, h => by
    obtain ⟨e1, e2, S2, h1, h2, h3⟩ := st i (by omega) e S h
    obtain ⟨e', S', h4, h5⟩ := forL_range' I n st k (i + 1) e2 S2 (by omega) h3
    refine ⟨e', S', ?_, h5⟩
    rw [List.range'_succ]
    simp only [List.map_cons, forL, h1, Option.bind_some, h2, h4]
theorem forL_range {bind : D → Ev → Option Ev} {body : MS} (I : Nat → Ev → Store → Prop) (n : Nat) {e : Ev} {S : Store} (h : I 0 e S) (st : ∀ i, i < n → ∀ e S, I i e S → ∃ e1 e2 S2, bind (.int (i : Nat)) e = some e1 ∧ body e1 S = some (.nx e2, S2) ∧ I (i + 1) e2 S2) :
    ∃ e' S', forL bind body ((List.range n).map fun (j : Nat) => D.int (j : Int)) e S = some (.nx e', S') ∧ I n e' S' := by
  rw [List.range_eq_range']
  exact forL_range' I n st n 0 e S (by omega) h
theorem lc2Go_seq {α : Type} {bind : D → Ev → Option Ev} {tt : MT} {inner : Ev → Store → Option (List D × Store)} {e0 : Ev} {S : Store} (enc : α → D) (g : α → List D) (xs : List α) (h : ∀ x ∈ xs, ∃ e1, bind (enc x) e0 = some e1 ∧ tt e1 S = some (true, S) ∧ inner e1 S = some (g x, S)) :
    ∀ (n i : Nat), xs.length = i + n → lc2Go (Src.seq (xs.map enc)).get bind tt inner e0 n i S = some ((xs.drop i).flatMap g, S)
  | 0, i, hl => by
    have e : xs.drop i = [] := List.drop_eq_nil_of_le (by omega)
    have hg : (Src.seq (xs.map enc)).get i S = some none := by show some (xs.map enc)[i]? = some none; rw [List.getElem?_eq_none (by rw [List.length_map]; omega)]
    rw [e]
    simp only [lc2Go, hg]
    rfl
  | n + 1, i, hl => by
    have hi : i < xs.length := by omega
    have hg : (Src.seq (xs.map enc)).get i S = some (some (enc xs[i])) := by show some (xs.map enc)[i]? = _; rw [List.getElem?_map, List.getElem?_eq_getElem hi]; rfl
    obtain ⟨e1, h1, h2, h3⟩ := h xs[i] (List.getElem_mem hi)
    have ih := lc2Go_seq enc g xs h n (i + 1) (by omega)
    rw [List.drop_eq_getElem_cons hi, List.flatMap_cons]
    simp only [lc2Go, hg, h1, Option.bind_some, h2, if_true, h3]
    rw [ih]; rfl
theorem val_lc2 {α : Type} {mi mi1 : MI} {t t1 : Tg} {tt1 : MT} {elt : ME} {vs vs1 : List Nat} {e : Ev} {S S1 : Store} (enc : α → D) (g : α → List D) (xs : List α) (hm : mi e S = some (.seq (xs.map enc), S1))
    (h : ∀ x ∈ xs, ∃ e1, t.f (enc x) (wipeE e vs) = some e1 ∧ mIn mi1 t1 tt1 elt vs1 e1 S1 = some (g x, S1)) (hz : (xs.flatMap g).length ≤ LIM) : mVal (mLC2 mi t mYes mi1 t1 tt1 elt vs vs1) e S = some (.lst (xs.flatMap g), S1) := by
  rw [r_Val]
  unfold mLC2
  rw [hm]
  simp only [Option.bind_some]
  have := lc2Go_seq (bind := t.f) (tt := mYes) (inner := mIn mi1 t1 tt1 elt vs1) (e0 := wipeE e vs) (S := S1) enc g xs (fun x hx => by obtain ⟨e1, h1, h2⟩ := h x hx; exact ⟨e1, h1, rfl, h2⟩) xs.length 0 (by omega)
  rw [List.drop_zero] at this
  rw [show (Src.seq (xs.map enc)).n = xs.length from List.length_map _]
  rw [this]
  simp only [Option.bind_some]
  rw [if_pos hz]; rfl
theorem in_lc {mi : MI} {t : Tg} {tt : MT} {elt : ME} {vs : List Nat} {e : Ev} {S S1 S2 : Store} {L ys : List D} (h : mi e S = some (.seq L, S1)) (h2 : lcL t.f tt elt (wipeE e vs) L S1 = some (ys, S2)) : mIn mi t tt elt vs e S = some (ys, S2) := by
  unfold mIn
  rw [h]
  simp only [Option.bind_some]
  rw [lcGo_all, h2]
theorem forL_each {α : Type} {bind : D → Ev → Option Ev} {body : MS} (enc : α → D) (I : List α → Ev → Store → Prop) (all : List α) (st : ∀ done x rest, done ++ x :: rest = all → ∀ e S, I done e S → ∃ e1 e2 S2, bind (enc x) e = some e1 ∧ body e1 S = some (.nx e2, S2) ∧ I (done ++ [x]) e2 S2) :
    ∀ (xs done : List α) (e : Ev) (S : Store), done ++ xs = all → I done e S → ∃ e' S', forL bind body (xs.map enc) e S = some (.nx e', S') ∧ I all e' S'
  | [], done, e, S, ha, h => ⟨e, S, rfl, by rw [← ha, List.append_nil]; exact h⟩
  | x :: xs, done, e, S, ha, h => by
    obtain ⟨e1, e2, S2, h1, h2, h3⟩ := st done x xs ha e S h
    obtain ⟨e', S', h4, h5⟩ := forL_each enc I all st xs (done ++ [x]) e2 S2 (by rw [List.append_assoc]; exact ha) h3
    refine ⟨e', S', ?_, h5⟩
    simp only [List.map_cons, forL, h1, Option.bind_some, h2, h4]
/-- a comprehension whose elements change the store -/
theorem lcL_inv {bind : D → Ev → Option Ev} {elt : ME} {e0 : Ev} (Inv : Store → Prop) (P : D → Prop) : ∀ (L : List D) (S : Store), Inv S → (∀ d ∈ L, ∀ S, Inv S → ∃ e1 y S', bind d e0 = some e1 ∧ elt e1 S = some (y, S') ∧ P y ∧ Inv S') →
    ∃ ys S', lcL bind mYes elt e0 L S = some (ys, S') ∧ ys.length = L.length ∧ (∀ y ∈ ys, P y) ∧ Inv S'
  | [], S, h, _ => ⟨[], S, rfl, rfl, fun y hy => by simp at hy, h⟩
  | d :: L, S, h, st => by
    obtain ⟨e1, y, S1, h1, h2, h3, h4⟩ := st d (by simp) S h
    obtain ⟨ys, S2, g1, g2, g3, g4⟩ := lcL_inv Inv P L S1 h4 fun x hx => st x (by simp [hx])
    refine ⟨y :: ys, S2, ?_, by simp [g2], fun z hz => ?_, g4⟩
    · simp only [lcL, h1, Option.bind_some, mYes, if_true, h2]
      rw [g1]; rfl
    · rcases List.mem_cons.mp hz with rfl | hz
      · exact h3
      · exact g3 z hz
theorem exists_map {α β : Type} {f : α → β} {Q : α → Prop} : ∀ {ys : List β}, (∀ y ∈ ys, ∃ r, y = f r ∧ Q r) → ∃ rs : List α, ys = rs.map f ∧ ∀ r ∈ rs, Q r
  | [], _ => ⟨[], rfl, fun r hr => by simp at hr⟩
  | y :: ys, h => by
    obtain ⟨r, h1, h2⟩ := h y (by simp)
    obtain ⟨rs, h3, h4⟩ := exists_map fun z hz => h z (List.mem_cons_of_mem y hz)
    refine ⟨r :: rs, by rw [h1, h3]; rfl, fun z hz => ?_⟩
    rcases List.mem_cons.mp hz with rfl | hz
    · exact h2
    · exact h4 z hz
end DV

/-! DVj: more rules: chained comparisons. -/
namespace DV
open PySem PySem.Spec PyProof.Rows L2
section
variable {X : Cx} {K : PySem.W.Frag}
theorem chain_imp {r r' : R2} {f g : D → D → Store → Option (D × Store)} {ma mb mc : ME} (h : OpS K r f) (h' : OpS K r' g) {σ : L2.St} {H : Hp} {Q : VK} (q : tD K (mChain f g ma mb mc) σ H Q) : tChain r r' (tD K ma) (tD K mb) (tD K mc) σ H Q := by
  obtain ⟨w, e, S, d, S', re, k, hm, q⟩ := q
  unfold mChain at hm
  obtain ⟨⟨a, S1⟩, h1, hm⟩ := Option.bind_eq_some_iff.mp hm
  obtain ⟨⟨b, S2⟩, h2, hm⟩ := Option.bind_eq_some_iff.mp hm
  obtain ⟨⟨z, S3⟩, h3, hm⟩ := Option.bind_eq_some_iff.mp hm
  refine ⟨w, e, S, a, S1, re, k, h1, fun w1 H1 x s1 k1 ra => ⟨w1, e, S1, b, S2, re.mono s1, k1, h2, fun w2 H2 y s2 k2 rb => ?_⟩⟩
  refine h w2 S2 H2 a b z x y S3 _ k2 (ra.mono s2) rb h3 fun w3 H3 v s3 k3 rz => ?_
  cases z with
  | bl kb =>
    cases kb with
    | true =>
      obtain ⟨⟨c, S4⟩, h4, hm⟩ := Option.bind_eq_some_iff.mp hm
      refine ⟨true, rz.bl_inv, ?_⟩
      rw [if_pos rfl]
      refine ⟨w3, e, S3, c, S4, ((re.mono s1).mono s2).mono s3, k3, h4, fun w4 H4 u s4 k4 rc => ?_⟩
      exact h' w4 S4 H4 b c d y u S' Q k4 ((rb.mono s3).mono s4) rc hm fun w5 H5 v5 s5 k5 r5 => q w5 H5 v5 ((((s1.trans s2).trans s3).trans s4).trans s5) k5 r5
    | false =>
      cases hm
      refine ⟨false, rz.bl_inv, ?_⟩
      rw [if_neg Bool.false_ne_true]
      exact q w3 H3 _ ((s1.trans s2).trans s3) k3 (.bl false)
  | _ => cases hm
theorem ae_chain {op op' : CmpOp} {r r' : R2} {f g : D → D → Store → Option (D × Store)} {ma mb mc : ME} {a b c : Expr} {pos : Pos} (ho : OpR X (compareOp op) r) (ho' : OpR X (compareOp op') r') (h : OpS X.K r f) (h' : OpS X.K r' g) (ha : AE X a ma) (hb : AE X b mb) (hc : AE X c mc)
    (hm : lastMarks [op, op'] [b, c] = false := by with_unfolding_all rfl) : AE X (.Compare a [op, op'] [b, c] pos) (mChain f g ma mb mc) := PE.imp (pe_chain ho ho' ha hb hc hm) fun σ H Q q => chain_imp h h' q
theorem at_chain {op op' : CmpOp} {r r' : R2} {f g : D → D → Store → Option (D × Store)} {ma mb mc : ME} {a b c : Expr} {pos : Pos} (ho : OpR X (compareOp op) r) (ho' : OpR X (compareOp op') r') (h : OpS X.K r f) (h' : OpS X.K r' g) (ha : AE X a ma) (hb : AE X b mb) (hc : AE X c mc)
    (hm : lastMarks [op, op'] [b, c] = false := by with_unfolding_all rfl) : AT X (.Compare a [op, op'] [b, c] pos) (mTV (mChain f g ma mb mc)) := PT.imp (pt_chain ho ho' ha hb hc hm) fun σ H Q ⟨w, e, S, b, S', re, k, hq, q⟩ => by
  unfold mTV at hq
  obtain ⟨⟨d, S1⟩, h1, hq⟩ := Option.bind_eq_some_iff.mp hq
  simp only at hq
  split at hq
  · cases hq
    exact chain_imp h h' ⟨w, e, S, _, _, re, k, h1, fun w' H' v s' k' r' => ⟨b, r'.bl_inv, q w' H' s' k'⟩⟩
  · cases hq
section
variable {a b c : Expr} {ma mb mc : ME} {pos : Pos} {j : Nat} (hr : Room j X.A)
include hr
theorem ae_lele (ha : AE X a ma) (hb : AE X b mb) (hc : AE X c mc) (hm : lastMarks [.LtE, .LtE] [b, c] = false := by with_unfolding_all rfl) : AE X (.Compare a [.LtE, .LtE] [b, c] pos) (mChain fLeD fLeD ma mb mc) := ae_chain (op_le.or (op_leD hr.units)) (op_le.or (op_leD hr.units)) (fCmp_s fun _ _ => rfl) (fCmp_s fun _ _ => rfl) ha hb hc hm
theorem ae_lelt (ha : AE X a ma) (hb : AE X b mb) (hc : AE X c mc) (hm : lastMarks [.LtE, .Lt] [b, c] = false := by with_unfolding_all rfl) : AE X (.Compare a [.LtE, .Lt] [b, c] pos) (mChain fLeD fLtD ma mb mc) := ae_chain (op_le.or (op_leD hr.units)) (op_lt.or (op_ltD hr.units)) (fCmp_s fun _ _ => rfl) (fCmp_s fun _ _ => rfl) ha hb hc hm
theorem at_lele (ha : AE X a ma) (hb : AE X b mb) (hc : AE X c mc) (hm : lastMarks [.LtE, .LtE] [b, c] = false := by with_unfolding_all rfl) : AT X (.Compare a [.LtE, .LtE] [b, c] pos) (mTV (mChain fLeD fLeD ma mb mc)) := at_chain (op_le.or (op_leD hr.units)) (op_le.or (op_leD hr.units)) (fCmp_s fun _ _ => rfl) (fCmp_s fun _ _ => rfl) ha hb hc hm
theorem at_lelt (ha : AE X a ma) (hb : AE X b mb) (hc : AE X c mc) (hm : lastMarks [.LtE, .Lt] [b, c] = false := by with_unfolding_all rfl) : AT X (.Compare a [.LtE, .Lt] [b, c] pos) (mTV (mChain fLeD fLtD ma mb mc)) := at_chain (op_le.or (op_leD hr.units)) (op_lt.or (op_ltD hr.units)) (fCmp_s fun _ _ => rfl) (fCmp_s fun _ _ => rfl) ha hb hc hm
end
/-! ### module constants -/
/-- content that the written part holds -/
def KD (K : PySem.W.Frag) (u : Value) (d : D) : Prop := ∃ v, RelV v u ∧ ∀ (w : Wd) (H : Hp), Rp K w H d v
def KDs (K : PySem.W.Frag) (us : List Value) (ds : List D) : Prop := ∃ vs, Vals vs us ∧ ∀ (w : Wd) (H : Hp), RpL K w H ds vs
theorem KD.int {i : Int} {t : Tok} : KD K (.int i t) (.int i) := ⟨.int i, ⟨t, rfl⟩, fun _ _ => .int i⟩
theorem KD.str {x : Str} {t : Tok} : KD K (.str x t) (.str x) := ⟨.str x, ⟨t, rfl⟩, fun _ _ => .str x⟩
theorem KD.non : KD K .none .non := ⟨.non, rfl, fun _ _ => .non⟩
theorem KD.bl {b : Bool} : KD K (.bool b) (.bl b) := ⟨.bl b, rfl, fun _ _ => .bl b⟩
theorem KDs.nil : KDs K [] [] := ⟨[], .nil, fun _ _ => .nil⟩
theorem KDs.cons {u : Value} {us : List Value} {d : D} {ds : List D} (h : KD K u d) (t : KDs K us ds) : KDs K (u :: us) (d :: ds) := by
  obtain ⟨v, h1, h2⟩ := h
  obtain ⟨vs, h3, h4⟩ := t
  exact ⟨v :: vs, .cons h1 h3, fun w H => .cons (h2 w H) (h4 w H)⟩
theorem KD.tup {a : Addr} {o : Obj} {us : List Value} {n : Nat} {ds : List D} (h : K.lookup a = some o) (hc : o.cls = .type "tuple") (hd : o.data = .seq us.toArray n) (hn : o.dict = none) (hz : us.length ≤ 1000) (t : KDs K us ds) : KD K (.ref a) (.tup ds) := by
  obtain ⟨vs, h3, h4⟩ := t
  refine ⟨.ref a, rfl, fun w H => .tupK ⟨o, h, hc, hn⟩ (.inr ⟨o, us.toArray, n, h, hc, hd, ?_, by simpa using h3⟩) (h4 w H)⟩
  rw [sizeLine_eq]
  simp
  omega
theorem ae_gk {x : Str} {u : Value} {d : D} {pos : Pos} (hg : Gl X x) (hm : X.mg x = some u) (k : KD X.K u d) (hd : (x == ("__debug__" : Str)) = false := by decide) : AE X (.Name x pos) (mC d) := by
  obtain ⟨v, r, h⟩ := k
  exact PE.imp (pe_glob hg hm r hd) fun σ H Q ⟨w, e, S, d', S', re, kk, hq, q⟩ => by
    cases hq
    exact q w H v .refl kk (h w H)
end
end DV

/-! DVk: t[::-1] of a tuple. -/
namespace HT
open PySem PySem.Spec PyProof.Rows
section
variable {prog : Program} {w : World} {A : Around} {E : Value → Shared → Prop} {s : Shared}
theorem adjust_rev (n : Nat) : Builtin.Slice.sliceAdjust none none (-1) (n : Int) = ((n : Int) - 1, -1) := by
  unfold Builtin.Slice.sliceAdjust
  have h1 : ((-1 : Int) < 0) := by decide
  simp only [h1, if_true]
theorem places_rev (n : Nat) : Builtin.Slice.slicePlaces ((n : Int) - 1) (-1) (-1) = n := by
  unfold Builtin.Slice.slicePlaces
  have h1 : ¬ ((-1 : Int) > 0) := by decide
  simp only [h1, if_false]
  split <;> simp <;> omega
theorem sliceApplied_rev {sl : Addr} {vs : Value} {n : Nat} {Q : Int × Int × Nat → Shared → Prop} (hs : s.heap.IsSliceOf sl .none .none vs) (ps : IsPart vs (some (-1)))
    (h : Q ((n : Int) - 1, -1, n) s) : wpAny (model prog w) A (Builtin.Slice.sliceApplied (.ref sl) (pure (n : Int))) Q E s := by
  obtain ⟨os, hos, hcs, hds⟩ := id hs
  unfold Builtin.Slice.sliceApplied Builtin.Slice.sliceFields
  refine wpAny_bind (wpAny_bind (wpAny_field hos hds (x := .none) rfl (wpAny_bind (wpAny_field hos hds (x := .none) rfl (wpAny_bind (wpAny_field hos hds (x := vs) rfl (wpAny_pure ?_)))))))
  refine wpAny_bind (slicePart_ ps ?_)
  show wpAny _ _ (if ((-1 : Int) == 0) = true then _ else _) _ _ s
  rw [if_neg (by decide)]
  refine wpAny_bind (slicePart_none (wpAny_bind (slicePart_none (wpAny_bind (wpAny_pure ?_)))))
  show wpAny _ _ (match Builtin.Slice.sliceAdjust none none (-1) (n : Int) with | (lo, hi) => pure (lo, (-1 : Int), Builtin.Slice.slicePlaces lo hi (-1))) _ _ s
  rw [adjust_rev n]
  show wpAny _ _ (pure ((n : Int) - 1, (-1 : Int), Builtin.Slice.slicePlaces ((n : Int) - 1) (-1) (-1))) _ _ s
  rw [places_rev]
  exact wpAny_pure h
theorem pick_rev (xs : Array Value) : ((List.range xs.size).filterMap fun (m : Nat) => xs[(((xs.size : Int) - 1) + (m : Int) * (-1)).toNat]?).toArray = xs.toList.reverse.toArray := by
  congr 1
  have e : ∀ m ∈ List.range xs.size, xs[(((xs.size : Int) - 1) + (m : Int) * (-1)).toNat]? = xs.toList.reverse[m]? := by
    intro m hm
    have hm : m < xs.size := by simpa using hm
    have : (((xs.size : Int) - 1) + (m : Int) * (-1)).toNat = xs.size - 1 - m := by omega
    rw [this, List.getElem?_reverse (by simpa using hm)]
    simp
  have hc : ∀ (l : List Nat) (f g : Nat → Option Value), (∀ m ∈ l, f m = g m) → l.filterMap f = l.filterMap g := by
    intro l f g h
    induction l with
    | nil => rfl
    | cons a l ih => simp only [List.filterMap_cons]; rw [h a (by simp), ih fun m hm => h m (by simp [hm])]
  rw [hc _ _ _ e]
  have all : ∀ zs : List Value, (List.range zs.length).filterMap (fun m => zs[m]?) = zs := by
    intro zs
    induction zs with
    | nil => rfl
    | cons z zs ih =>
      rw [List.length_cons, List.range_succ_eq_map, List.filterMap_cons]
      simp only [List.getElem?_cons_zero]
      rw [List.filterMap_map]
      have : ((fun m => (z :: zs)[m]?) ∘ Nat.succ) = fun m => zs[m]? := by funext m; rfl
      rw [this, ih]
  have hl : xs.size = xs.toList.reverse.length := by simp
  rw [hl]
  exact all _
theorem getItem_tuple_rev {t sl : Addr} {items : Array Value} {vs : Value} {Q : Value → Shared → Prop} (ht : IsTup s.heap t items) (hs : s.heap.IsSliceOf sl .none .none vs) (ps : IsPart vs (some (-1)))
    (h : Q (.ref s.heap.objs.size) { s with heap := s.heap.push { cls := .type "tuple", data := .seq items.toList.reverse.toArray } })
    (hsz : items.size ≤ sizeLine) : wpAny (model prog w) A (getItem (.ref t) (.ref sl)) Q E s := by
  have htake : sizeOk (.seq items.toList.reverse.toArray) := by
    show items.toList.reverse.toArray.size ≤ sizeLine
    rw [List.size_toArray, List.length_reverse, Array.length_toList]
    exact hsz
  obtain ⟨os, hos, hcs, hds⟩ := id hs
  have hTs : s.TypeIs (.ref sl) "slice" := ⟨os, hos, hcs⟩
  unfold getItem
  try with_reducible refine wpAny_holding ?_
  first | refine wpAny_bind (wpAny_pure ?_) | skip
  refine wpAny_bind (wpAny_sequenceKey ht.typeIs (by decide) ?_)
  refine wpAny_bind (wpAny_callSpecial?_slot (name := Str.ofString "__getitem__") ht.typeIs PyProof.Rows.slot_tuple_getitem
    (wpAny_call_entry PyProof.Rows.slot_tuple_getitem ht.typeIs entry_tuple_getitem ?_ (args_tuple_getitem _ _)))
  show wpAny _ _ (Builtin.Tuple.tupleItemsOf (.ref t) >>= _) _ _ s
  refine wpAny_bind (tupleItemsOf_ ht ?_)
  refine wpAny_bind (wpAny_typeOf hTs ?_)
  rw [if_pos (by decide)]
  refine wpAny_bind (sliceApplied_rev hs ps ?_)
  have hno : ¬ ((((items.size : Int) - 1) == 0 && (-1 : Int) == 1 && items.size == items.size) = true) := by
    intro q
    rw [Bool.and_eq_true, Bool.and_eq_true] at q
    exact absurd q.1.2 (by decide)
  show wpAny _ _ (if (((items.size : Int) - 1) == 0 && (-1 : Int) == 1 && items.size == items.size) = true then _ else _) _ _ s
  rw [if_neg hno, pick_rev]
  first
    | exact wpAny_bind (m := Builtin.Tuple.tupleExact _) (wpAny_newObj_type (wpAny_pure ⟨_, rfl, wpAny_pure h⟩) htake)
    | exact wpAny_bind (m := Builtin.Tuple.tupleExact _) (wpAny_newObj_type (wpAny_bind (wpAny_pure (wpAny_pure ⟨_, rfl, wpAny_pure h⟩))) htake)
    | exact wpAny_bind (wpAny_bind (m := Builtin.Tuple.tupleExact _) (wpAny_newObj_type (wpAny_pure (wpAny_pure ⟨_, rfl, wpAny_pure h⟩)) htake))
    | exact wpAny_bind (wpAny_bind (m := Builtin.Tuple.tupleExact _) (wpAny_newObj_type (wpAny_pure ⟨_, rfl, wpAny_pure h⟩) htake))
end
end HT
namespace DV
open PySem PySem.Spec PyProof.Rows L2
section
variable {X : Cx}
def tRevTF (K : PySem.W.Frag) (te : TE) : TE := fun σ H Q => te σ H fun x H1 => ∃ a xs, x = .ref a ∧ SqT K H1 a xs ∧ ∀ p o, H1 p = none → Firm o → Q (.ref p) (upd H1 p (.frz o (.tup xs.reverse)))
theorem pe_revTF {e : Expr} {te : TE} {k : Nat} {p1 p2 p3 pos : Pos} (he : PE X e te) : PE X (.Subscript e (.Slice none none (some (.UnaryOp .USub (.Constant (.int 1) k p1) p2)) p3) pos) (tRevTF X.K te) := by
  refine ⟨fun pins s σ H Q I h => ?_⟩
  refine Subscript_ (thn (he.run pins s σ H _ I h) fun v s1 ⟨x, H1, I1, r1, q1⟩ => ?_)
  obtain ⟨a, xs, ex, hx, q⟩ := q1
  subst ex
  cases r1
  have hst : PO X (some (.UnaryOp .USub (.Constant (.int 1) k p1) p2)) (tPart (tUn (rU fun i => .int (-i)) (tC (.int 1)))) := po_some (pe_un un_neg pe_int)
  refine wpAny_Slice (thn (po_none.run pins s1 σ H1 (fun o H2 => o = none ∧ H2 = H1) I1 ⟨rfl, rfl⟩) fun vl s2 ⟨l, H2, I2, pl, el, e2⟩ => ?_)
  subst el e2
  refine thn (po_none.run pins s2 σ H2 (fun o H3 => o = none ∧ H3 = H2) I2 ⟨rfl, rfl⟩) fun vu s3 ⟨u, H3, I3, pu, eu, e3⟩ => ?_
  subst eu e3
  refine thn (hst.run pins s3 σ H3 (fun o H4 => o = some (-1) ∧ H4 = H3) I3 ⟨1, rfl, -1, rfl, rfl, rfl⟩) fun vs s4 ⟨o, H4, I4, ps, eo, e4⟩ => ?_
  subst eo e4
  cases pl
  cases pu
  have I5 : Inv X pins σ H4 { s4 with heap := s4.heap.push { cls := .type "slice", data := .fields #[.none, .none, vs] } } := I4.kept (t' := s4.toks) fun b ob q => Heap.get?_push_of_some _ q
  obtain ⟨its, r, ht, hz⟩ := I5.tuple hx
  have hlen := r.length
  show wpAny (model X.prog X.w) X.A (subscriptTail e (.Slice none none (some (.UnaryOp .USub (.Constant (.int 1) k p1) p2)) p3) (.ref a) (.ref s4.heap.objs.size)) (EP X pins σ Q) X.xe { s4 with heap := s4.heap.push { cls := .type "slice", data := .fields #[.none, .none, vs] } }
  refine tail_any (ops := [.ref a, .ref s4.heap.objs.size]) ht.typeIs PyProof.Rows.slot_tuple_getitem.lookup ?_ (by with_unfolding_all rfl)
  refine HT.getItem_tuple_rev ht (Heap.IsSliceOf.new _ .none .none vs) ps ?_ (by rw [List.size_toArray]; omega)
  refine ⟨.ref _, _, I5.laid (t' := s4.toks) (o := .frz { cls := .type "tuple", data := .seq its.reverse.toArray } (.tup xs.reverse)) (fun b ob q => Heap.get?_push_of_some _ q) (Nat.le_refl _) ?_, rfl, q _ _ (I5.hok.fresh (Nat.le_refl _)) (firm_new _)⟩
  exact ⟨Heap.get?_push_size _ rfl, by rw [List.length_reverse]; exact hz, _, r.reverse, IsTup.new _ _⟩
def mRevT (m : ME) : ME := fun e S => (m e S).bind fun (d, S1) => match d with
  | .tup xs => some (.tup xs.reverse, S1)
  | _ => none
theorem ae_revT {a : Expr} {m : ME} {k : Nat} {p1 p2 p3 pos : Pos} (ha : AE X a m) : AE X (.Subscript a (.Slice none none (some (.UnaryOp .USub (.Constant (.int 1) k p1) p2)) p3) pos) (mRevT m) :=
  PE.imp (pe_revTF ha) fun σ H Q ⟨w, e, S, d, S', re, k, hm, q⟩ => by
    unfold mRevT at hm
    obtain ⟨⟨d1, S1⟩, h1, hm⟩ := Option.bind_eq_some_iff.mp hm
    cases d1 with
    | tup xs =>
      cases hm
      refine ⟨w, e, S, .tup xs, _, re, k, h1, fun w1 H1 x s1 k1 r1 => ?_⟩
      obtain ⟨a, vs, rfl, h5, h6⟩ := r1.tup_inv
      exact ⟨a, vs, rfl, h5, fun p ob hp fm => Post.newT (fun w' H' v s k r => q w' H' v (s1.trans s) k r) k1 hp fm h6.reverse⟩
    | _ => cases hm
/-! ### is, is not of bools; a == b == c -/
def fIsB (neg : Bool) : D → D → Store → Option (D × Store)
  | .bl a, .bl b, S => some (.bl (if neg then !decide (a = b) else decide (a = b)), S)
  | _, _, _ => none
theorem fIsB_s {K : PySem.W.Frag} : OpS K rIsB (fIsB false) := by
  intro w S H a b d x y S' Q k ra rb hm q
  cases a <;> cases b <;> try (cases hm; done)
  rename_i a b
  cases hm
  exact ⟨a, b, ra.bl_inv, rb.bl_inv, q w H _ .refl k (.bl _)⟩
theorem fNotB_s {K : PySem.W.Frag} : OpS K rNotB (fIsB true) := by
  intro w S H a b d x y S' Q k ra rb hm q
  cases a <;> cases b <;> try (cases hm; done)
  rename_i a b
  cases hm
  exact ⟨a, b, ra.bl_inv, rb.bl_inv, q w H _ .refl k (.bl _)⟩
theorem ae_isB {a b : Expr} {ma mb : ME} {pos : Pos} (ha : AE X a ma) (hb : AE X b mb) : AE X (.Compare a [.Is] [b] pos) (mBin (fIsB false) ma mb) := ae_cmp op_isBl fIsB_s ha hb (nomark _)
theorem ae_notB {a b : Expr} {ma mb : ME} {pos : Pos} (ha : AE X a ma) (hb : AE X b mb) : AE X (.Compare a [.IsNot] [b] pos) (mBin (fIsB true) ma mb) := ae_cmp op_notBl fNotB_s ha hb (nomark _)
theorem at_isB {a b : Expr} {ma mb : ME} {pos : Pos} (ha : AE X a ma) (hb : AE X b mb) : AT X (.Compare a [.Is] [b] pos) (mTV (mBin (fIsB false) ma mb)) := at_cmp op_isBl fIsB_s ha hb (nomark _)
theorem at_notB {a b : Expr} {ma mb : ME} {pos : Pos} (ha : AE X a ma) (hb : AE X b mb) : AT X (.Compare a [.IsNot] [b] pos) (mTV (mBin (fIsB true) ma mb)) := at_cmp op_notBl fNotB_s ha hb (nomark _)
theorem ae_eqeq {a b c : Expr} {ma mb mc : ME} {pos : Pos} {j : Nat} (hr : Room j X.A) (ha : AE X a ma) (hb : AE X b mb) (hc : AE X c mc) (hm : lastMarks [.Eq, .Eq] [b, c] = false := by with_unfolding_all rfl) : AE X (.Compare a [.Eq, .Eq] [b, c] pos) (mChain fEq fEq ma mb mc) := ae_chain (op_eqD hr.units) (op_eqD hr.units) fEq_s fEq_s ha hb hc hm
theorem at_eqeq {a b c : Expr} {ma mb mc : ME} {pos : Pos} {j : Nat} (hr : Room j X.A) (ha : AE X a ma) (hb : AE X b mb) (hc : AE X c mc) (hm : lastMarks [.Eq, .Eq] [b, c] = false := by with_unfolding_all rfl) : AT X (.Compare a [.Eq, .Eq] [b, c] pos) (mTV (mChain fEq fEq ma mb mc)) := at_chain (op_eqD hr.units) (op_eqD hr.units) fEq_s fEq_s ha hb hc hm
end
end DV

/-! DVl: o[i], p[j] = a pair. -/
namespace DV
open PySem PySem.Spec PyProof.Rows L2
section
variable {X : Cx}
/-- o[i] = v in the store -/
def fSet (o i v : D) (S : Store) : Option Store := match o, i with
  | .ref p, .int k => match S[p]? with
    | some (.lst xs) => (ixN xs.length k).bind fun j => some (S.set p (.lst (xs.set j v)))
    | _ => none
  | _, _ => none
def mSwap (m mo mi mo2 mi2 : ME) : MS := fun e S => (m e S).bind fun (t, S1) => match t with
  | .tup [v1, v2] => (mo e S1).bind fun (o, S2) => (mi e S2).bind fun (i, S3) => (fSet o i v1 S3).bind fun S4 => (mo2 e S4).bind fun (o2, S5) => (mi2 e S5).bind fun (i2, S6) => (fSet o2 i2 v2 S6).bind fun S7 => some (.nx e, S7)
  | _ => none
theorem fSet_s {w : Wd} {H : Hp} {S S' : Store} {o i d : D} {x y v : V} {K : PySem.W.Frag} (k : Ok K w S H) (ro : Rp K w H o x) (ri : Rp K w H i y) (rv : Rp K w H d v) (h : fSet o i d S = some S') {Q : Hp → Prop} (q : ∀ H', Stp w H w H' → Ok K w S' H' → Q H') : rSetL x y v H Q := by
  unfold fSet at h
  split at h
  · split at h
    · rename_i xs hx
      obtain ⟨j, h4, h⟩ := Option.bind_eq_some_iff.mp h
      cases h
      obtain ⟨a, rfl, ha⟩ := ro.ref_inv
      obtain ⟨vs, h5, h6⟩ := k.lst ha hx
      refine ⟨a, vs, _, j, rfl, ri.int_inv, h5, by rw [← h6.length]; exact h4, ?_⟩
      have st : Stp w H w (upd H a (.lst (vs.set j v))) := .put (List.mem_of_getElem? ha)
      exact q _ st (k.put ha (.lst (h6.set rv j)))
    · cases h
  · cases h
theorem as_swap {o i o2 i2 e : Expr} {m mo mi mo2 mi2 : ME} {kt : Nat} {p1 p2 p3 pos : Pos} (hc : X.calm = true) (he : AE X e m) (ho : AE X o mo) (hi : AE X i mi) (ho2 : AE X o2 mo2) (hi2 : AE X i2 mi2)
    (hs : swapsWithSole [.Tuple [.Subscript o i p1, .Subscript o2 i2 p2] kt p3] e pos.line X.env = pure false := by rfl) (hw : swappedStores [.Tuple [.Subscript o i p1, .Subscript o2 i2 p2] kt p3] e X.env = pure none := by rfl)
    (ha : ∀ v, assign (.Subscript o i p1) X.env v = (do
      let ov ← holding [v] (eval o X.env)
      let iv ← holding [v, ov] (eval i X.env)
      standAt p1
      holding [v, ov, iv] (setItem ov iv v)
      release [v, ov, iv] []) := by intro _; rfl)
    (ha2 : ∀ v, assign (.Subscript o2 i2 p2) X.env v = (do
      let ov ← holding [v] (eval o2 X.env)
      let iv ← holding [v, ov] (eval i2 X.env)
      standAt p2
      holding [v, ov, iv] (setItem ov iv v)
      release [v, ov, iv] []) := by intro _; rfl)
    (h1 : (assignEach [.Tuple [.Subscript o i p1, .Subscript o2 i2 p2] kt p3] X.env).map (·.2) = [assign (.Tuple [.Subscript o i p1, .Subscript o2 i2 p2] kt p3) X.env] := by rfl)
    (h2 : (assignEach [.Subscript o i p1, .Subscript o2 i2 p2] X.env).map (·.2) = assign (.Subscript o i p1) X.env :: (assignEach [.Subscript o2 i2 p2] X.env).map (·.2) := by rfl)
    (h3 : (assignEach [.Subscript o2 i2 p2] X.env).map (·.2) = assign (.Subscript o2 i2 p2) X.env :: (assignEach [] X.env).map (·.2) := by rfl)
    (hn : (assignEach [.Subscript o i p1, .Subscript o2 i2 p2] X.env).length = 2 := by rfl) (hst : (assignEach [.Subscript o i p1, .Subscript o2 i2 p2] X.env).findIdx? (·.1) = none := by rfl) :
    AS X (.Assign [.Tuple [.Subscript o i p1, .Subscript o2 i2 p2] kt p3] e pos) (mSwap m mo mi mo2 mi2) :=
  PS.imp (ps_asg he (pg_tup hc (pgs_cons (pg_sub ho hi set_list ha) (pgs_cons (pg_sub ho2 hi2 set_list ha2) pgs_nil h3) h2) hn hst) hs hw h1) fun D σ H ⟨w, e, S, fl, S', re, k, hm, q⟩ => by
  unfold mSwap at hm
  obtain ⟨⟨t, S1⟩, h1, hm⟩ := Option.bind_eq_some_iff.mp hm
  simp only at hm
  split at hm
  · rename_i v1 v2
    obtain ⟨⟨o1, S2⟩, g1, hm⟩ := Option.bind_eq_some_iff.mp hm
    obtain ⟨⟨i1, S3⟩, g2, hm⟩ := Option.bind_eq_some_iff.mp hm
    obtain ⟨S4, g3, hm⟩ := Option.bind_eq_some_iff.mp hm
    obtain ⟨⟨o2, S5⟩, g4, hm⟩ := Option.bind_eq_some_iff.mp hm
    obtain ⟨⟨i2, S6⟩, g5, hm⟩ := Option.bind_eq_some_iff.mp hm
    obtain ⟨S7, g6, hm⟩ := Option.bind_eq_some_iff.mp hm
    cases hm
    refine ⟨w, e, S, _, S1, re, k, h1, fun w1 H1 u s1 k1 r1 => ?_⟩
    obtain ⟨a, vs, rfl, hq, hl⟩ := r1.tup_inv
    obtain ⟨u1, u2, rfl, r2, r3⟩ := hl.two_inv
    refine ⟨a, _, rfl, hq, rfl, u1, [u2], rfl, w1, e, S1, o1, S2, re.mono s1, k1, g1, fun w2 H2 x2 s2 k2 q2 => ⟨w2, e, S2, i1, S3, (re.mono s1).mono s2, k2, g2, fun w3 H3 y3 s3 k3 q3 => ?_⟩⟩
    have t3 := s2.trans s3
    refine fSet_s k3 (q2.mono s3) q3 (r2.mono t3) g3 fun H4 s4 k4 => ?_
    have t4 := t3.trans s4
    refine ⟨u2, [], rfl, w3, e, S4, o2, S5, (re.mono s1).mono t4, k4, g4, fun w5 H5 x5 s5 k5 q5 => ⟨w5, e, S5, i2, S6, ((re.mono s1).mono t4).mono s5, k5, g5, fun w6 H6 y6 s6 k6 q6 => ?_⟩⟩
    refine fSet_s k6 (q5.mono s6) q6 (r3.mono ((t4.trans s5).trans s6)) g6 fun H7 s7 k7 => ⟨rfl, ?_⟩
    have tt := (s1.trans t4).trans ((s5.trans s6).trans s7)
    exact q w6 H7 tt k7 σ (re.mono tt)
  · cases hm
/-! ### list(range(n)) -/
def mLstRg (m : ME) : ML := fun e S => (m e S).bind fun (d, S1) => match d with
  | .int n => if 0 ≤ n ∧ n ≤ 16777216 then some (rngL 0 n, S1) else none
  | _ => none
theorem rng_rp {K : PySem.W.Frag} {w : Wd} {H : Hp} (f : Nat → Int) : ∀ l : List Nat, RpL K w H (l.map fun i => D.int (f i)) (l.map fun i => V.int (f i))
  | [] => .nil
  | _ :: l => .cons (.int _) (rng_rp f l)
theorem af_listRg {a : Expr} {m : ME} {p p2 pos2 pos : Pos} (hc : X.calm = true) (hl : X.mg "list" = none) (hr : X.mg "range" = none) (ha : AE X a m) (g1 : Gl X "list" := by rfl) (g2 : Gl X "range" := by rfl) (na : starEach [a] X.env = (false, eval a X.env) :: starEach [] X.env := by rfl)
    (na2 : starEach [.Call (.Name "range" p2) [a] [] pos2] X.env = (false, eval (.Call (.Name "range" p2) [a] [] pos2) X.env) :: starEach [] X.env := by rfl) : AF X (.Call (.Name "list" p) [.Call (.Name "range" p2) [a] [] pos2] [] pos) (mLstRg m) :=
  PE.imp (pe_listRg hc g1 hl (prg_1 g2 hr ha na) na2) fun σ H Q ⟨w, e, S, d, S', re, k, hm, q⟩ => by
    unfold mLstRg at hm
    obtain ⟨⟨d1, S1⟩, h1, hm⟩ := Option.bind_eq_some_iff.mp hm
    cases d1 with
    | int n =>
      simp only at hm
      split at hm
      · rename_i hn
        cases hm
        refine ⟨w, e, S, .int n, _, re, k, h1, fun w1 H1 v s1 k1 r1 => ⟨n, r1.int_inv, .of_le (by decide) hn.2 (by decide) hn.1, fun p hp => ?_⟩⟩
        refine q w1 H1 p _ s1 k1 hp ?_
        unfold rngL rgV
        exact rng_rp _ _
      · cases hm
    | _ => cases hm
end
end DV

/-! DVm: zip of lists and tuples in any mix; insert, pop(i), reverse. -/
namespace DV
open PySem PySem.Spec PyProof.Rows L2
/-! ### zip -/
/-- the items of a sequence told by its content -/
def itemsD : D → Option (List D)
  | .tup xs => some xs
  | .lst xs => some xs
  | .fr xs => some xs
  | _ => none
section
variable {K : PySem.W.Frag} {w : Wd} {H : Hp} {S : Store}
theorem SqL.stays {w : Wd} {H : Hp} {a : Addr} {vs : List V} (h : SqL K H a vs) (ho : ∀ o, H a = some o → Out w a) {w1 : Wd} {H1 : Hp} (s1 : Wst w H w1 H1) : SqL K H1 a vs := by
  rcases h with h | h
  · refine .inl ?_
    rcases h with h | ⟨u, h⟩
    · exact .inl (s1.keep _ _ h (ho _ h).1 (ho _ h).2).1
    · exact .inr ⟨u, (s1.keep _ _ h (ho _ h).1 (ho _ h).2).1⟩
  · exact .inr h
theorem SqT.stays {w : Wd} {H : Hp} {a : Addr} {vs : List V} (h : SqT K H a vs) (ho : ∀ o, H a = some o → Out w a) {w1 : Wd} {H1 : Hp} (s1 : Wst w H w1 H1) : SqT K H1 a vs := by
  rcases h with h | h
  · refine .inl ?_
    rcases h with h | ⟨u, h⟩
    · exact .inl (s1.keep _ _ h (ho _ h).1 (ho _ h).2).1
    · exact .inr ⟨u, (s1.keep _ _ h (ho _ h).1 (ho _ h).2).1⟩
  · exact .inr h
theorem Rp.stays {d : D} {v : V} {xs : List D} (r : Rp K w H d v) (h : itemsD d = some xs) : ∃ t a vs, v = .ref a ∧ RpL K w H xs vs ∧ SqB K t H a vs ∧ ∀ w1 H1, Wst w H w1 H1 → SqB K t H1 a vs := by
  cases d with
  | tup ys =>
    cases h
    cases r with
    | tup o h l => exact ⟨false, _, _, rfl, l, .inl h.rd, fun w1 H1 s1 => SqT.stays (.inl h.rd) (fun _ _ => o) s1⟩
    | tupK _ h l => exact ⟨false, _, _, rfl, l, SqT.none_mono h, fun w1 H1 s1 => SqT.none_mono h⟩
  | lst ys =>
    cases h
    obtain ⟨a, vs, rfl, o, h, l⟩ := r.lst_inv
    exact ⟨true, a, vs, rfl, l, .of h, fun w1 H1 s1 => SqL.stays (.of h) (fun _ _ => o) s1⟩
  | fr ys =>
    cases h
    cases r with
    | fr o h l => exact ⟨true, _, _, rfl, l, .inl h, fun w1 H1 s1 => SqL.stays (.inl h) (fun _ _ => o) s1⟩
    | frK h l => exact ⟨true, _, _, rfl, l, SqL.none_mono h, fun w1 H1 s1 => SqL.none_mono h⟩
  | _ => cases h
def zipD (xs ys : List D) : List D := (xs.zip ys).map fun p => .tup [p.1, p.2]
theorem walkZ {t1 t2 : Bool} {a b : Addr} {xs ys : List D} {vs us : List V} (h1 : ∀ w1 H1, Wst w H w1 H1 → SqB K t1 H1 a vs) (h2 : ∀ w1 H1, Wst w H w1 H1 → SqB K t2 H1 b us) (r1 : RpL K w H xs vs) (r2 : RpL K w H ys us) :
    WalkOk K w H (ItzF K t1 t2 a b vs.length us.length) (.seq (zipD xs ys)) := fun i w1 H1 S1 s1 k1 => by
  have g1 := h1 w1 H1 s1
  have g2 := h2 w1 H1 s1
  refine ⟨fun d hd => ?_, fun hn => ?_⟩
  · have hd : (zipD xs ys)[i]? = some d := Option.some.inj hd
    unfold zipD at hd
    rw [List.getElem?_map] at hd
    obtain ⟨⟨p, q⟩, hz, rfl⟩ := Option.map_eq_some_iff.mp hd
    obtain ⟨hp, hq⟩ := List.getElem?_zip_eq_some.mp hz
    obtain ⟨v, hv, rv⟩ := r1.get hp
    obtain ⟨u, hu, ru⟩ := r2.get hq
    refine ⟨⟨vs, us, v, u, g1, g2, rfl, rfl, hv, hu⟩, fun x H' y => ?_⟩
    obtain ⟨T, x', y', ob, rfl, hT, fm, rfl, f1, f2⟩ := y
    have e1 := f1 vs g1
    have e2 := f2 us g2
    rw [hv] at e1
    rw [hu] at e2
    cases e1
    cases e2
    exact ⟨.new hT, k1.laid hT, .tup (k1.new hT) ⟨ob, upd_same, fm⟩ (.cons ((rv.monoW s1).mono (.new hT)) (.cons ((ru.monoW s1).mono (.new hT)) .nil))⟩
  · have hn : (zipD xs ys)[i]? = none := Option.some.inj hn
    have := List.getElem?_eq_none_iff.mp hn
    unfold zipD at this
    rw [List.length_map, List.length_zip, r1.length, r2.length] at this
    exact ⟨vs, us, g1, g2, rfl, rfl, by omega⟩
end
def mZip (m1 m2 : ME) : MI := fun e S => (m1 e S).bind fun (d1, S1) => (m2 e S1).bind fun (d2, S2) => (itemsD d1).bind fun xs => (itemsD d2).bind fun ys => some (.seq (zipD xs ys), S2)
theorem ai_zip {X : Cx} {e e2 : Expr} {m1 m2 : ME} {p pos tpos : Pos} {elts : List Expr} {kk : Nat} (hm : X.mg "zip" = none) (he : AE X e m1) (he2 : AE X e2 m2) (hg : Gl X "zip" := by rfl)
    (hs : starEach [e, e2] X.env = (false, eval e X.env) :: starEach [e2] X.env := by rfl) (hs2 : starEach [e2] X.env = (false, eval e2 X.env) :: starEach [] X.env := by rfl) (hpl : (backTo pos (starEach [e2] X.env)).any (·.1) = false := by rfl) :
    AI X (.Tuple elts kk tpos) (.Call (.Name "zip" p) [e, e2] [] pos) (mZip m1 m2) := PI.imp (pi_zipF hg hm (pa_cons he (pa_cons he2 pa_nil hs2) hs) hs hpl) fun σ H R ⟨w, e, S, src, S', re, k, hm, q⟩ => by
  unfold mZip at hm
  obtain ⟨⟨d1, S1⟩, h1, hm⟩ := Option.bind_eq_some_iff.mp hm
  obtain ⟨⟨d2, S2⟩, h2, hm⟩ := Option.bind_eq_some_iff.mp hm
  obtain ⟨xs, h3, hm⟩ := Option.bind_eq_some_iff.mp hm
  obtain ⟨ys, h4, hm⟩ := Option.bind_eq_some_iff.mp hm
  cases hm
  refine ⟨w, e, S, d1, S1, re, k, h1, fun w1 H1 v1 s1 k1 r1 => ⟨w1, e, S1, d2, _, re.mono s1, k1, h2, fun w2 H2 v2 s2 k2 r2 => ?_⟩⟩
  obtain ⟨t1, a, vs, rfl, l1, g1, f1⟩ := (r1.mono s2).stays h3
  obtain ⟨t2, b, us, rfl, l2, g2, f2⟩ := r2.stays h4
  exact ⟨t1, t2, a, b, vs, us, rfl, g1, g2, q w2 H2 _ (s1.trans s2) k2 (walkZ f1 f2 l1 l2)⟩
/-! ### insert, pop(i) -/
section
variable {X : Cx} {K : PySem.W.Frag}
def rInsert : V → List V → Hp → VK → Prop := fun x vs H Q => ∃ (l : Addr) (xs : List V) (i : Int) (y : V), x = .ref l ∧ vs = [.int i, y] ∧ H l = some (.lst xs) ∧ xs.length < sizeLine ∧ 0 ≤ i ∧ i < 2 ^ 63 ∧
    Q .non (upd H l (.lst (xs.take i.toNat ++ [y] ++ xs.drop i.toNat)))
def fInsert : List D → List D → Option (D × List D)
  | xs, [.int i, y] => if xs.length < LIM ∧ 0 ≤ i ∧ i < 2 ^ 62 then some (.non, xs.take i.toNat ++ [y] ++ xs.drop i.toNat) else none
  | _, _ => none
theorem fInsert_s : MtS K rInsert fInsert := by
  intro w S H p a xs ds ys vs us d Q k ha hu ru rd hf q
  unfold fInsert at hf
  split at hf
  · split at hf
    · rename_i i y hz
      cases hf
      obtain ⟨v, u, rfl, rv, r2⟩ := rd.two_inv
      cases rv.int_inv
      exact ⟨a, us, i, u, rfl, rfl, hu, by rw [lim_eq, ← ru.length]; exact hz.1, hz.2.1, by have := hz.2.2; omega, Post.putL q k ha (((ru.take i.toNat).append (.cons r2 .nil)).append (ru.drop i.toNat)) .non⟩
    · cases hf
  · cases hf
def fPopAt : List D → List D → Option (D × List D)
  | xs, [.int i] => if -(2 ^ 62) ≤ i ∧ i < 2 ^ 62 then (ixN xs.length i).bind fun j => (xs[j]?).bind fun y => some (y, xs.eraseIdx j) else none
  | _, _ => none
theorem fPopAt_s : MtS K rPopAt fPopAt := by
  intro w S H p a xs ds ys vs us d Q k ha hu ru rd hf q
  unfold fPopAt at hf
  split at hf
  · split at hf
    · rename_i i hz
      obtain ⟨j, hj, hf⟩ := Option.bind_eq_some_iff.mp hf
      obtain ⟨y, hy, hf⟩ := Option.bind_eq_some_iff.mp hf
      cases hf
      obtain ⟨v, rfl, rv⟩ := rd.one_inv
      cases rv.int_inv
      obtain ⟨u, hu2, r2⟩ := ru.get hy
      exact ⟨a, us, i, j, u, rfl, rfl, hu, by have := hz.1; omega, by have := hz.2; omega, by rw [← ru.length]; exact (ixN_seq hj).1, hu2, Post.putL q k ha (ru.eraseIdx j) r2⟩
    · cases hf
  · cases hf
variable {o e : Expr} {es : List Expr} {mo : ME} {ms : ML} {apos cpos : Pos}
theorem ae_insert (ho : AE X o mo) (ha : AA X (e :: es) ms) (hbase : attributeBase o "insert" X.env (eval o X.env) = eval o X.env := by rfl)
    (hfew : ((backTo cpos (starEach (e :: es) X.env)).all (fun x => !x.1) && (backToKw cpos (keywordEach [] X.env)).all (fun x => x.1.isSome)
      && decide ((e :: es).length + ([] : List Keyword).length + (if ([] : List Keyword).isEmpty then 0 else 1) < 30)) = true := by rfl)
    (hline : (apos.endLine == cpos.line) = true := by rfl) (hs : starEach (e :: es) X.env = (false, eval e X.env) :: starEach es X.env := by rfl) (hplain : (backTo cpos (starEach es X.env)).any (·.1) = false := by rfl) :
    AE X (.Call (.Attribute o "insert" apos) (e :: es) [] cpos) (mMt' fInsert mo ms) := PE.imp (pe_bm PySem.F.plainAttrs_list PySem.F.slot_list_insert PySem.F.type_list_insert (show MtR X "list.insert" rInsert from mt_insert) ho ha hbase hfew hline hs hplain) fun _ _ _ => mt_imp' fInsert_s
theorem ae_popAt (ho : AE X o mo) (ha : AA X (e :: es) ms) (hbase : attributeBase o "pop" X.env (eval o X.env) = eval o X.env := by rfl)
    (hfew : ((backTo cpos (starEach (e :: es) X.env)).all (fun x => !x.1) && (backToKw cpos (keywordEach [] X.env)).all (fun x => x.1.isSome)
      && decide ((e :: es).length + ([] : List Keyword).length + (if ([] : List Keyword).isEmpty then 0 else 1) < 30)) = true := by rfl)
    (hline : (apos.endLine == cpos.line) = true := by rfl) (hs : starEach (e :: es) X.env = (false, eval e X.env) :: starEach es X.env := by rfl) (hplain : (backTo cpos (starEach es X.env)).any (·.1) = false := by rfl) :
    AE X (.Call (.Attribute o "pop" apos) (e :: es) [] cpos) (mMt' fPopAt mo ms) := PE.imp (pe_bm PySem.F.plainAttrs_list PySem.F.slot_list_pop PySem.F.type_list_pop mt_popAt ho ha hbase hfew hline hs hplain) fun _ _ _ => mt_imp' fPopAt_s
end
end DV

/-! FTc: t.index(x) of firm tuples of flat items. -/
namespace DV
open PySem PySem.Spec PyProof.Rows L2
section
variable {X : Cx}
def rTupIndex (K : PySem.W.Frag) : V → List V → Hp → VK → Prop := fun x xs H Q => ∃ (p : Addr) (ys : List V) (z : V) (j : Nat), x = .ref p ∧ xs = [z] ∧ SqT K H p ys ∧ ys.all flatV = true ∧ flatV z = true ∧ (∃ y, ys[j]? = some y ∧ eqV y z = true) ∧
  (∀ m y, m < j → ys[m]? = some y → eqV y z = false) ∧ Q (.int (j : Nat)) H
theorem mt_tup_indexV : MtR X "tuple.index" (rTupIndex X.K) := by
  intro pins s σ H x xs v us Q I rx rs h
  obtain ⟨p, ys, z, j, rfl, rfl, hq, hf, hfz, ⟨y0, hy, hyz⟩, hno, q⟩ := h
  cases rx
  obtain ⟨u, rfl, ru⟩ := vals1 rs
  obtain ⟨its, r, pl, hz⟩ := I.tuple hq
  obtain ⟨⟨cls, dd, dt, sl⟩, ho, hc, n, hd⟩ := pl
  simp only at hc hd
  subst hc
  subst hd
  have hl : its.toArray.size = ys.length := by rw [List.size_toArray, ← r.length]
  have hj : j < its.toArray.size := by rw [hl]; exact (List.getElem?_eq_some_iff.mp hy).1
  have fl : ∀ (m : Nat) (y : V), ys[m]? = some y → flatV y = true := fun m y e => List.all_eq_true.mp hf y (List.mem_of_getElem? e)
  have at' : ∀ (m : Nat) (hm : m < its.toArray.size), ∃ y, ys[m]? = some y ∧ RelV y its.toArray[m] := fun m hm => by
    have hm' : m < ys.length := by rw [← hl]; exact hm
    obtain ⟨w, hw, hr⟩ := r.get (i := m) (x := ys[m]) (by simp [hm'])
    refine ⟨ys[m], List.getElem?_eq_getElem hm', ?_⟩
    have e := (List.getElem?_eq_some_iff.mp hw).2
    have e2 : its.toArray[m] = w := by rw [← e]; simp
    rw [e2]; exact hr
  refine call_meets PySem.F.slot_tuple_index ⟨_, ho, rfl⟩ PySem.F.entry_tuple_index (PySem.F.args_tuple_index_2 _ _) (TI.tuple_indexAt p its.toArray n dd sl u (eqU z) j hj ?_ ?_)
    ⟨ho, fun w hw => mem_eqAt (x := z) ru hfz r hf w (by simpa using hw), ⟨.int (j : Nat), H, I.tok _, ⟨_, rfl⟩, q⟩⟩
  · obtain ⟨y, h1, h2⟩ := at' j hj
    rw [hy] at h1
    cases h1
    rw [eqU_of h2 (fl _ _ hy)]; exact hyz
  · intro m hm hmj
    obtain ⟨y, h1, h2⟩ := at' m hm
    rw [eqU_of h2 (fl _ _ h1)]; exact hno m y hmj h1
/-- a firm tuple, or a known one without a dict -/
def tyF (K : PySem.W.Frag) (x : V) (H : Hp) : Prop := ∃ p, x = .ref p ∧ ((∃ o u, H p = some (.frz o u) ∧ Firm o) ∨ ∃ o, K.lookup p = some o ∧ o.cls = .type "tuple" ∧ o.dict = none)
theorem tyF_ok : TyOk X "tuple" (tyF X.K) := by
  intro pins σ H s x v I r h
  obtain ⟨p, rfl, h⟩ := h
  cases r
  rcases h with ⟨o, u, hp, hc, hd⟩ | ⟨o, hk, hc, hd⟩
  · have e := (I.hok p _ hp).1
    exact ⟨⟨o, e, hc⟩, fun a ea => by cases ea; exact ⟨o, e, hd⟩⟩
  · exact tyV_is (T := "tuple") (x := .ref p) I rfl (.inr (.inl ⟨rfl, o, hk, hc, hd⟩))
end
end DV

/-! DVn: t.index(x), t a tuple of ints. -/
namespace DV
open PySem PySem.Spec PyProof.Rows L2
def intT : D → Option Int
  | .int i => some i
  | _ => none
def intsT : List D → Option (List Int)
  | [] => some []
  | d :: ds => (intT d).bind fun i => (intsT ds).bind fun is => some (i :: is)
def firstIx (x : Int) : List Int → Option Nat
  | [] => none
  | y :: ys => if y = x then some 0 else (firstIx x ys).map (· + 1)
theorem firstIx_spec {x : Int} : ∀ {ys : List Int} {j : Nat}, firstIx x ys = some j → ys[j]? = some x ∧ ∀ m y, m < j → ys[m]? = some y → y ≠ x
  | y :: ys, j, h => by
    unfold firstIx at h
    split at h
    · rename_i e
      cases h
      exact ⟨by simp [e], fun m y hm => by omega⟩
    · rename_i e
      obtain ⟨k, hk, rfl⟩ := Option.map_eq_some_iff.mp h
      obtain ⟨h1, h2⟩ := firstIx_spec hk
      refine ⟨by simpa using h1, fun m z hm hz => ?_⟩
      cases m with
      | zero => simp at hz; subst hz; exact e
      | succ m => exact h2 m z (by omega) (by simpa using hz)
theorem intsT_eq : ∀ {ds : List D} {is : List Int}, intsT ds = some is → ds = is.map D.int
  | [], is, h => by cases h; rfl
  | d :: ds, is, h => by
    obtain ⟨i, h1, h⟩ := Option.bind_eq_some_iff.mp h
    obtain ⟨js, h2, h⟩ := Option.bind_eq_some_iff.mp h
    cases h
    rw [intsT_eq h2]
    cases d <;> cases h1
    rfl
/-- t.index(x) -/
def mIxT (mo : ME) (ms : ML) : ME := fun e S => (mo e S).bind fun (o, S1) => (ms e S1).bind fun (ds, S2) => match o, ds with
  | .tup xs, [.int i] => (intsT xs).bind fun is => (firstIx i is).bind fun j => some (.int (j : Nat), S2)
  | _, _ => none
section
variable {X : Cx} {o e : Expr} {es : List Expr} {mo : ME} {ms : ML} {apos cpos : Pos}
theorem RpL.ints_inv {K : PySem.W.Frag} {w : Wd} {H : Hp} : ∀ {is : List Int} {vs : List V}, RpL K w H (is.map D.int) vs → vs = is.map V.int
  | [], _, .nil => rfl
  | i :: is, _, .cons r t => by rw [r.int_inv, RpL.ints_inv t]; rfl
theorem eqV_int (a b : Int) : eqV (.int a) (.int b) = (a == b) := rfl
theorem ae_index (ho : AE X o mo) (ha : AA X (e :: es) ms) (hbase : attributeBase o "index" X.env (eval o X.env) = eval o X.env := by rfl)
    (hfew : ((backTo cpos (starEach (e :: es) X.env)).all (fun x => !x.1) && (backToKw cpos (keywordEach [] X.env)).all (fun x => x.1.isSome)
      && decide ((e :: es).length + ([] : List Keyword).length + (if ([] : List Keyword).isEmpty then 0 else 1) < 30)) = true := by rfl)
    (hline : (apos.endLine == cpos.line) = true := by rfl) (hs : starEach (e :: es) X.env = (false, eval e X.env) :: starEach es X.env := by rfl) (hplain : (backTo cpos (starEach es X.env)).any (·.1) = false := by rfl) :
    AE X (.Call (.Attribute o "index" apos) (e :: es) [] cpos) (mIxT mo ms) := PE.imp (pe_mG tyF_ok PySem.F.plainAttrs_tuple PySem.F.slot_tuple_index PySem.F.type_tuple_index mt_tup_indexV ho ha hbase hfew hline hs hplain) fun σ H Q ⟨w, e, S, d, S', re, k, hm, q⟩ => by
  unfold mIxT at hm
  obtain ⟨⟨d1, S1⟩, h1, hm⟩ := Option.bind_eq_some_iff.mp hm
  obtain ⟨⟨ds, S2⟩, h2, hm⟩ := Option.bind_eq_some_iff.mp hm
  simp only at hm
  split at hm
  · rename_i xs i hmm
    obtain ⟨is, h3, hm⟩ := Option.bind_eq_some_iff.mp hm
    obtain ⟨j, h4, hm⟩ := Option.bind_eq_some_iff.mp hm
    cases hm
    have exs := intsT_eq h3
    subst exs
    obtain ⟨f1, f2⟩ := firstIx_spec h4
    refine ⟨w, e, S, _, S1, re, k, h1, fun w1 H1 v s1 k1 r1 => ?_⟩
    have hty : tyF X.K v H1 := by
      cases r1 with
      | tup o h l => obtain ⟨ob, h, f⟩ := h; exact ⟨_, rfl, .inl ⟨ob, _, h, f⟩⟩
      | tupK f h l => exact ⟨_, rfl, .inr f⟩
    refine ⟨hty, w1, e, S1, _, _, re.mono s1, k1, h2, fun w2 H2 vs s2 k2 r2 => ?_⟩
    obtain ⟨a, us, rfl, g1, g2⟩ := (r1.mono s2).tup_inv
    have eus := RpL.ints_inv g2
    subst eus
    obtain ⟨v1, rfl, rv⟩ := r2.one_inv
    cases rv.int_inv
    refine ⟨a, _, .int i, j, rfl, rfl, g1, ?_, rfl, ⟨.int i, by simp [f1], by simp [eqV_int]⟩, fun m y hm hy => ?_, q w2 H2 _ (s1.trans s2) k2 (.int _)⟩
    · rw [List.all_map]; exact List.all_eq_true.mpr fun _ _ => rfl
    · rw [List.getElem?_map] at hy
      obtain ⟨z, hz, rfl⟩ := Option.map_eq_some_iff.mp hy
      have := f2 m z hm hz
      rw [eqV_int]
      simpa using this
  · cases hm
end
end DV

/-! DVnn: a def called without arguments. -/
namespace DV
open PySem PySem.Spec PyProof.Rows L2
section
variable {X : Cx} {E0 : XK}
theorem ae_call0 {x : Str} {p pos : Pos} {k j : Nat} {f : Addr} {fd : FuncData} {M : Fn} (F : FnOk X.prog X.w X.K X.mg X.base CX0 k f fd [] (spD X.K 0 M)) (hr : Room j X.A) (hm : X.mg x = some (.ref f))
    (hk : PySem.W.keepIn X.K (.ref f) = true) (hb : Binds X.K fd [] []) (hkj : k ≤ j := by decide) (hg : Gl X x := by rfl) (hdb : (x == ("__debug__" : Str)) = false := by decide) : AE X (.Call (.Name x p) [] [] pos) (mCall M mNil) :=
  PE.imp (pe_call0 F (hr.mono hkj) hg hm hk hb .nil pass0 hdb) fun σ H Q ⟨w, e, S, d, S', re, k, hm, q⟩ => by
    unfold mCall at hm
    obtain ⟨⟨ds, S1⟩, h1, hm⟩ := Option.bind_eq_some_iff.mp hm
    cases h1
    exact ⟨rfl, w, S, [], d, S', .nil, k, hm, fun w2 H2 v s2 k2 r2 => q w2 H2 v s2 k2 r2⟩
end
end DV

/-! DXa: x.index(y), x.count(y) of tuples and lists of any plain content. -/
namespace DV
open PySem PySem.Spec PyProof.Rows L2
section
variable {X : Cx}
/-- items of a tuple as data: what each is equal to -/
theorem dp_items {pins : List (Addr × Obj)} {σ : L2.St} {H : Hp} {s : Shared} (I : Inv X pins σ H s) {ys : List V} {zs : List PyData} {its : List Value} (ha : DpAll X.K H ys zs) (rv : Vals ys its) {y : V} {uy : Value} {d : PyData} (hy : Dp X.K H y d) (ry : RelV y uy)
    (hl : PyData.canLayAll0 zs = true) (sd : SeqAt.shaped d = true) (hu : X.A.units + 65 < cLine) :
    its.map (SeqAt.readOf s.heap) = zs ∧ ∀ u, u ∈ its.toArray → SeqAt.EqAt X.A.in1 s u uy (PyData.eqv (SeqAt.readOf s.heap u) d) := by
  obtain ⟨as, h4⟩ := Dp.readsAll I zs ys its ha rv
  obtain ⟨bs, r1⟩ := Dp.reads I d y uy hy ry
  have hroom : X.A.units + 1 + min (PyData.depthAll zs) d.depth < cLine := room_in_shaped sd hu
  exact ⟨SeqAt.readsAll_map zs its as hl h4, SeqAt.items_eqAt (vs := its.toArray) (show ReadsAll s.heap its.toArray.toList zs as from h4) r1 hl (SeqAt.canLay_of_shaped sd) hroom⟩
/-- the first place -/
def FirstAt (zs : List PyData) (d : PyData) (j : Nat) : Prop := (∃ z, zs[j]? = some z ∧ PyData.eqv z d = true) ∧ ∀ (m : Nat) (z : PyData), m < j → zs[m]? = some z → PyData.eqv z d = false
theorem firstAt_at {h : Heap} {its : List Value} {zs : List PyData} {d : PyData} {j : Nat} (hm : its.map (SeqAt.readOf h) = zs) (f : FirstAt zs d j) : ∃ hj : j < its.toArray.size, PyData.eqv (SeqAt.readOf h its.toArray[j]) d = true ∧
    ∀ m (hm : m < its.toArray.size), m < j → PyData.eqv (SeqAt.readOf h its.toArray[m]) d = false := by
  obtain ⟨⟨z, hz, e⟩, no⟩ := f
  subst hm
  have at_ : ∀ (m : Nat) (hm : m < its.toArray.size), (its.map (SeqAt.readOf h))[m]? = some (SeqAt.readOf h its.toArray[m]) := fun m hm => by
    have hml : m < its.length := by simpa using hm
    rw [List.getElem?_map, List.getElem?_eq_getElem hml]
    simp
  have hj : j < its.toArray.size := by
    have := (List.getElem?_eq_some_iff.mp hz).1
    simpa using this
  refine ⟨hj, ?_, fun m hml hlt => no m _ hlt (at_ m hml)⟩
  have := at_ j hj
  rw [hz] at this
  rw [← Option.some.inj this]; exact e
def rIxTD (K : PySem.W.Frag) : V → List V → Hp → VK → Prop := fun x xs H Q => ∃ (a : Addr) (y : V) (ys : List V) (d : PyData) (ds : List PyData) (j : Nat), x = .ref a ∧ xs = [y] ∧ SqT K H a ys ∧ DpAll K H ys ds ∧ Dp K H y d ∧
  PyData.canLayAll0 ds = true ∧ SeqAt.shaped d = true ∧ FirstAt ds d j ∧ Q (.int (j : Nat)) H
theorem mt_ixTD (hu : X.A.units + 65 < cLine) : MtR X "tuple.index" (rIxTD X.K) := by
  intro pn s σ H x xs v us Q I rx rl h
  obtain ⟨a, y, ys, d, ds, j, rfl, rfl, hq, hl, hy, sl, sd, f, q⟩ := h
  cases rx
  obtain ⟨u, rfl, ru⟩ := vals1 rl
  obtain ⟨its, r, pl, hz⟩ := I.tuple hq
  obtain ⟨⟨cls, dd, dt, sls⟩, ho, hc, n, hd⟩ := pl
  simp only at hc hd
  subst hc hd
  obtain ⟨e1, e2⟩ := dp_items I hl r hy ru sl sd hu
  obtain ⟨hj, f1, f2⟩ := firstAt_at e1 f
  exact call_meets PySem.F.slot_tuple_index ⟨_, ho, rfl⟩ PySem.F.entry_tuple_index (PySem.F.args_tuple_index_2 _ _) (TI.tuple_indexAt a its.toArray n dd sls u (fun z => PyData.eqv (SeqAt.readOf s.heap z) d) j hj f1 f2)
    ⟨ho, e2, ⟨.int (j : Nat), H, I.tok _, ⟨_, rfl⟩, q⟩⟩
def rCnT (K : PySem.W.Frag) : V → List V → Hp → VK → Prop := fun x xs H Q => ∃ (a : Addr) (y : V) (ys : List V) (d : PyData) (ds : List PyData), x = .ref a ∧ xs = [y] ∧ SqT K H a ys ∧ DpAll K H ys ds ∧ Dp K H y d ∧
  PyData.canLayAll0 ds = true ∧ SeqAt.shaped d = true ∧ Q (.int (ds.countP fun z => PyData.eqv z d : Nat)) H
def rCnL (K : PySem.W.Frag) : V → List V → Hp → VK → Prop := fun x xs H Q => ∃ (a : Addr) (y : V) (ys : List V) (d : PyData) (ds : List PyData), x = .ref a ∧ xs = [y] ∧ SqL K H a ys ∧ DpAll K H ys ds ∧ Dp K H y d ∧
  PyData.canLayAll0 ds = true ∧ SeqAt.shaped d = true ∧ Q (.int (ds.countP fun z => PyData.eqv z d : Nat)) H
theorem mt_cnT (hu : X.A.units + 65 < cLine) : MtR X "tuple.count" (rCnT X.K) := by
  intro pn s σ H x xs v us Q I rx rl h
  obtain ⟨a, y, ys, d, ds, rfl, rfl, hq, hl, hy, sl, sd, q⟩ := h
  cases rx
  obtain ⟨u, rfl, ru⟩ := vals1 rl
  obtain ⟨its, r, pl, hz⟩ := I.tuple hq
  obtain ⟨⟨cls, dd, dt, sls⟩, ho, hc, n, hd⟩ := pl
  simp only at hc hd
  subst hc hd
  obtain ⟨e1, e2⟩ := dp_items I hl r hy ru sl sd hu
  refine call_meets PySem.F.slot_tuple_count ⟨_, ho, rfl⟩ PySem.F.entry_tuple_count (PySem.F.args_tuple_count_2 _ _) (SeqAt.tuple_countAt a its.toArray n dd sls u (fun z => PyData.eqv (SeqAt.readOf s.heap z) d))
    ⟨ho, e2, ⟨.int (ds.countP fun z => PyData.eqv z d : Nat), H, I.tok _, ⟨s.toks, ?_⟩, q⟩⟩
  have e3 : its.countP (fun z => PyData.eqv (SeqAt.readOf s.heap z) d) = ds.countP fun z => PyData.eqv z d := by
    rw [← e1, List.countP_map]; rfl
  show Value.int ((its.toArray.toList.countP _ : Nat) : Int) s.toks = _
  rw [List.toList_toArray, e3]
theorem mt_cnL (hu : X.A.units + 65 < cLine) : MtR X "list.count" (rCnL X.K) := by
  intro pn s σ H x xs v us Q I rx rl h
  obtain ⟨a, y, ys, d, ds, rfl, rfl, hq, hl, hy, sl, sd, q⟩ := h
  cases rx
  obtain ⟨u, rfl, ru⟩ := vals1 rl
  obtain ⟨its, r, ⟨⟨cls, dd, data, sls⟩, n, ho, hc, hdn, hd⟩, hz⟩ := I.list hq
  simp only at hc hd
  subst hc hd
  obtain ⟨e1, e2⟩ := dp_items I hl r hy ru sl sd hu
  refine call_meets PySem.F.slot_list_count ⟨_, ho, rfl⟩ PySem.F.entry_list_count (PySem.F.args_list_count_2 _ _) (SeqAt.list_countAt a its.toArray n dd sls u (fun z => PyData.eqv (SeqAt.readOf s.heap z) d))
    ⟨ho, e2, ⟨.int (ds.countP fun z => PyData.eqv z d : Nat), H, I.tok _, ⟨s.toks, ?_⟩, q⟩⟩
  have e3 : its.countP (fun z => PyData.eqv (SeqAt.readOf s.heap z) d) = ds.countP fun z => PyData.eqv z d := by
    rw [← e1, List.countP_map]; rfl
  show Value.int ((its.toArray.toList.countP _ : Nat) : Int) s.toks = _
  rw [List.toList_toArray, e3]
end

/-! ### over content -/
def ixD (y : D) : List D → Option Nat
  | [] => none
  | x :: xs => if deq x y then some 0 else (ixD y xs).map (· + 1)
def cntD (y : D) (xs : List D) : Nat := xs.countP fun x => deq x y
theorem ixD_first {y : D} : ∀ {xs : List D} {j : Nat}, ixD y xs = some j → FirstAt (D.pyL xs) y.py j
  | x :: xs, j, h => by
    unfold ixD at h
    split at h
    · rename_i e
      cases h
      exact ⟨⟨x.py, by simp [D.pyL], e⟩, fun m z hm => by omega⟩
    · rename_i e
      obtain ⟨k, hk, rfl⟩ := Option.map_eq_some_iff.mp h
      obtain ⟨⟨z, hz, e2⟩, no⟩ := ixD_first hk
      refine ⟨⟨z, by simpa [D.pyL] using hz, e2⟩, fun m z hm hz => ?_⟩
      cases m with
      | zero =>
        simp [D.pyL] at hz; subst hz
        have e : ¬ deq x y = true := e
        unfold deq at e
        simpa using e
      | succ m => exact no m z (by omega) (by simpa [D.pyL] using hz)
theorem cntD_eq {y : D} {xs : List D} : cntD y xs = (D.pyL xs).countP fun z => PyData.eqv z y.py := by
  unfold cntD
  rw [D.pyL_map, List.countP_map]; rfl
/-- what a method of one argument that only reads says -/
inductive Rd1 where
  | index
  | count
def Rd1.f : Rd1 → D → List D → Option Int
  | .index, y, xs => (ixD y xs).map fun j => ((j : Nat) : Int)
  | .count, y, xs => some ((cntD y xs : Nat) : Int)
/-- t.index(x), t.count(x), t a tuple -/
def mRdT (k : Rd1) (mo : ME) (ms : ML) : ME := fun e S => (mo e S).bind fun (o, S1) => match o with
  | .tup xs => (ms e S1).bind fun (ds, S2) => match ds with
    | [y] => if D.fit 32 y ∧ D.fitL 32 xs then (k.f y xs).bind fun j => some (.int j, S2) else none
    | _ => none
  | _ => none
/-- l.index(x), l.count(x), l a list -/
def mRdL (k : Rd1) (mo : ME) (ms : ML) : ME := fun e S => (mo e S).bind fun (o, S1) => (lstOf o S1).bind fun _ => (ms e S1).bind fun (ds, S2) => (lstOf o S2).bind fun xs => match ds with
  | [y] => if D.fit 32 y ∧ D.fitL 32 xs then (k.f y xs).bind fun j => some (.int j, S2) else none
  | _ => none
section
variable {X : Cx} {o e : Expr} {es : List Expr} {mo : ME} {ms : ML} {apos cpos : Pos}
theorem Rp.tyF {K : PySem.W.Frag} {w : Wd} {H : Hp} {xs : List D} {v : V} (r : Rp K w H (.tup xs) v) : tyF K v H := by
  cases r with
  | tup o h l => obtain ⟨ob, h, f⟩ := h; exact ⟨_, rfl, .inl ⟨ob, _, h, f⟩⟩
  | tupK f h l => exact ⟨_, rfl, .inr f⟩
theorem fitL_lay {xs : List D} (h : D.fitL 32 xs = true) : PyData.canLayAll0 (D.pyL xs) = true := (D.fitL_lay xs 32 h).1
section
variable {j : Nat} (hr : Room j X.A)
include hr
theorem ae_indexT (ho : AE X o mo) (ha : AA X (e :: es) ms) (hbase : attributeBase o "index" X.env (eval o X.env) = eval o X.env := by rfl)
    (hfew : ((backTo cpos (starEach (e :: es) X.env)).all (fun x => !x.1) && (backToKw cpos (keywordEach [] X.env)).all (fun x => x.1.isSome)
      && decide ((e :: es).length + ([] : List Keyword).length + (if ([] : List Keyword).isEmpty then 0 else 1) < 30)) = true := by rfl)
    (hline : (apos.endLine == cpos.line) = true := by rfl) (hs : starEach (e :: es) X.env = (false, eval e X.env) :: starEach es X.env := by rfl) (hplain : (backTo cpos (starEach es X.env)).any (·.1) = false := by rfl) :
    AE X (.Call (.Attribute o "index" apos) (e :: es) [] cpos) (mRdT .index mo ms) := PE.imp (pe_mG tyF_ok PySem.F.plainAttrs_tuple PySem.F.slot_tuple_index PySem.F.type_tuple_index (mt_ixTD (by have := hr.un; omega)) ho ha hbase hfew hline hs hplain) fun σ H Q ⟨w, e, S, d, S', re, k, hm, q⟩ => by
  unfold mRdT at hm
  obtain ⟨⟨d1, S1⟩, h1, hm⟩ := Option.bind_eq_some_iff.mp hm
  simp only at hm
  split at hm
  · rename_i xs
    obtain ⟨⟨ds, S2⟩, h2, hm⟩ := Option.bind_eq_some_iff.mp hm
    simp only at hm
    split at hm
    · rename_i y
      split at hm
      · rename_i hf
        obtain ⟨j, h4, hm⟩ := Option.bind_eq_some_iff.mp hm
        cases hm
        obtain ⟨jj, h5, rfl⟩ := Option.map_eq_some_iff.mp h4
        refine ⟨w, e, S, _, S1, re, k, h1, fun w1 H1 v s1 k1 r1 => ⟨r1.tyF, w1, e, S1, _, _, re.mono s1, k1, h2, fun w2 H2 vs s2 k2 r2 => ?_⟩⟩
        obtain ⟨a, us, rfl, g1, g2⟩ := (r1.mono s2).tup_inv
        obtain ⟨v1, rfl, rv⟩ := r2.one_inv
        exact ⟨a, v1, us, y.py, D.pyL xs, jj, rfl, rfl, g1, g2.dp _ _ _ hf.2, rv.dp _ _ _ hf.1, fitL_lay hf.2, D.fit_shaped hf.1, ixD_first h5, q w2 H2 _ (s1.trans s2) k2 (.int _)⟩
      · cases hm
    · cases hm
  · cases hm
theorem ae_countT (ho : AE X o mo) (ha : AA X (e :: es) ms) (hbase : attributeBase o "count" X.env (eval o X.env) = eval o X.env := by rfl)
    (hfew : ((backTo cpos (starEach (e :: es) X.env)).all (fun x => !x.1) && (backToKw cpos (keywordEach [] X.env)).all (fun x => x.1.isSome)
      && decide ((e :: es).length + ([] : List Keyword).length + (if ([] : List Keyword).isEmpty then 0 else 1) < 30)) = true := by rfl)
    (hline : (apos.endLine == cpos.line) = true := by rfl) (hs : starEach (e :: es) X.env = (false, eval e X.env) :: starEach es X.env := by rfl) (hplain : (backTo cpos (starEach es X.env)).any (·.1) = false := by rfl) :
    AE X (.Call (.Attribute o "count" apos) (e :: es) [] cpos) (mRdT .count mo ms) := PE.imp (pe_mG tyF_ok PySem.F.plainAttrs_tuple PySem.F.slot_tuple_count PySem.F.type_tuple_count (mt_cnT (by have := hr.un; omega)) ho ha hbase hfew hline hs hplain) fun σ H Q ⟨w, e, S, d, S', re, k, hm, q⟩ => by
  unfold mRdT at hm
  obtain ⟨⟨d1, S1⟩, h1, hm⟩ := Option.bind_eq_some_iff.mp hm
  simp only at hm
  split at hm
  · rename_i xs
    obtain ⟨⟨ds, S2⟩, h2, hm⟩ := Option.bind_eq_some_iff.mp hm
    simp only at hm
    split at hm
    · rename_i y
      split at hm
      · rename_i hf
        obtain ⟨j, h4, hm⟩ := Option.bind_eq_some_iff.mp hm
        cases hm
        cases h4
        refine ⟨w, e, S, _, S1, re, k, h1, fun w1 H1 v s1 k1 r1 => ⟨r1.tyF, w1, e, S1, _, _, re.mono s1, k1, h2, fun w2 H2 vs s2 k2 r2 => ?_⟩⟩
        obtain ⟨a, us, rfl, g1, g2⟩ := (r1.mono s2).tup_inv
        obtain ⟨v1, rfl, rv⟩ := r2.one_inv
        exact ⟨a, v1, us, y.py, D.pyL xs, rfl, rfl, g1, g2.dp _ _ _ hf.2, rv.dp _ _ _ hf.1, fitL_lay hf.2, D.fit_shaped hf.1, by rw [← cntD_eq]; exact q w2 H2 _ (s1.trans s2) k2 (.int _)⟩
      · cases hm
    · cases hm
  · cases hm
theorem ae_indexL (ho : AE X o mo) (ha : AA X (e :: es) ms) (hbase : attributeBase o "index" X.env (eval o X.env) = eval o X.env := by rfl)
    (hfew : ((backTo cpos (starEach (e :: es) X.env)).all (fun x => !x.1) && (backToKw cpos (keywordEach [] X.env)).all (fun x => x.1.isSome)
      && decide ((e :: es).length + ([] : List Keyword).length + (if ([] : List Keyword).isEmpty then 0 else 1) < 30)) = true := by rfl)
    (hline : (apos.endLine == cpos.line) = true := by rfl) (hs : starEach (e :: es) X.env = (false, eval e X.env) :: starEach es X.env := by rfl) (hplain : (backTo cpos (starEach es X.env)).any (·.1) = false := by rfl) :
    AE X (.Call (.Attribute o "index" apos) (e :: es) [] cpos) (mRdL .index mo ms) := PE.imp (pe_bm PySem.F.plainAttrs_list PySem.F.slot_list_index PySem.F.type_list_index (mt_indexD (by have := hr.un; omega)) ho ha hbase hfew hline hs hplain) fun σ H Q ⟨w, e, S, d, S', re, k, hm, q⟩ => by
  unfold mRdL at hm
  obtain ⟨⟨d1, S1⟩, h1, hm⟩ := Option.bind_eq_some_iff.mp hm
  obtain ⟨zs, hz, hm⟩ := Option.bind_eq_some_iff.mp hm
  obtain ⟨⟨ds, S2⟩, h2, hm⟩ := Option.bind_eq_some_iff.mp hm
  obtain ⟨xs, h3, hm⟩ := Option.bind_eq_some_iff.mp hm
  match ds, h2, hm with
  | [], _, hm => cases hm
  | _ :: _ :: _, _, hm => cases hm
  | [y], h2, hm =>
    simp only at hm
    split at hm
    · rename_i hf
      obtain ⟨j, h4, hm⟩ := Option.bind_eq_some_iff.mp hm
      cases hm
      obtain ⟨jj, h5, rfl⟩ := Option.map_eq_some_iff.mp h4
      refine ⟨w, e, S, _, S1, re, k, h1, fun w1 H1 v s1 k1 r1 => ?_⟩
      obtain ⟨a, us, rfl, g1, g2⟩ := lst_rd k1 r1 hz
      refine ⟨.inl ⟨rfl, us, g1⟩, w1, e, S1, _, _, re.mono s1, k1, h2, fun w2 H2 vs s2 k2 r2 => ?_⟩
      obtain ⟨a2, us2, e2, g3, g4⟩ := lst_rd k2 (r1.mono s2) h3
      cases e2
      obtain ⟨v1, rfl, rv⟩ := r2.one_inv
      obtain ⟨⟨z, f1, f2⟩, f3⟩ := ixD_first h5
      exact ⟨a, v1, y.py, D.pyL xs, jj, z, rfl, rfl, .lst g3 (g4.dp _ _ _ hf.2), rv.dp _ _ _ hf.1, (D.fitL_shaped hf.2).1, D.fit_shaped hf.1, f1, f2, f3, q w2 H2 _ (s1.trans s2) k2 (.int _)⟩
    · cases hm
theorem ae_countL (ho : AE X o mo) (ha : AA X (e :: es) ms) (hbase : attributeBase o "count" X.env (eval o X.env) = eval o X.env := by rfl)
    (hfew : ((backTo cpos (starEach (e :: es) X.env)).all (fun x => !x.1) && (backToKw cpos (keywordEach [] X.env)).all (fun x => x.1.isSome)
      && decide ((e :: es).length + ([] : List Keyword).length + (if ([] : List Keyword).isEmpty then 0 else 1) < 30)) = true := by rfl)
    (hline : (apos.endLine == cpos.line) = true := by rfl) (hs : starEach (e :: es) X.env = (false, eval e X.env) :: starEach es X.env := by rfl) (hplain : (backTo cpos (starEach es X.env)).any (·.1) = false := by rfl) :
    AE X (.Call (.Attribute o "count" apos) (e :: es) [] cpos) (mRdL .count mo ms) := PE.imp (pe_bm PySem.F.plainAttrs_list PySem.F.slot_list_count PySem.F.type_list_count (mt_cnL (by have := hr.un; omega)) ho ha hbase hfew hline hs hplain) fun σ H Q ⟨w, e, S, d, S', re, k, hm, q⟩ => by
  unfold mRdL at hm
  obtain ⟨⟨d1, S1⟩, h1, hm⟩ := Option.bind_eq_some_iff.mp hm
  obtain ⟨zs, hz, hm⟩ := Option.bind_eq_some_iff.mp hm
  obtain ⟨⟨ds, S2⟩, h2, hm⟩ := Option.bind_eq_some_iff.mp hm
  obtain ⟨xs, h3, hm⟩ := Option.bind_eq_some_iff.mp hm
  match ds, h2, hm with
  | [], _, hm => cases hm
  | _ :: _ :: _, _, hm => cases hm
  | [y], h2, hm =>
    simp only at hm
    split at hm
    · rename_i hf
      obtain ⟨j, h4, hm⟩ := Option.bind_eq_some_iff.mp hm
      cases hm
      cases h4
      refine ⟨w, e, S, _, S1, re, k, h1, fun w1 H1 v s1 k1 r1 => ?_⟩
      obtain ⟨a, us, rfl, g1, g2⟩ := lst_rd k1 r1 hz
      refine ⟨.inl ⟨rfl, us, g1⟩, w1, e, S1, _, _, re.mono s1, k1, h2, fun w2 H2 vs s2 k2 r2 => ?_⟩
      obtain ⟨a2, us2, e2, g3, g4⟩ := lst_rd k2 (r1.mono s2) h3
      cases e2
      obtain ⟨v1, rfl, rv⟩ := r2.one_inv
      exact ⟨a, v1, us2, y.py, D.pyL xs, rfl, rfl, g3, g4.dp _ _ _ hf.2, rv.dp _ _ _ hf.1, fitL_lay hf.2, D.fit_shaped hf.1, by rw [← cntD_eq]; exact q w2 H2 _ (s1.trans s2) k2 (.int _)⟩
    · cases hm
end
end
end DV

/-! DVt: typed reckoning: Lean values of plain types, how they are laid as DV's values, and each construct's meaning over them. -/
namespace DV
open PySem PySem.Spec PyProof.Rows L2
/-! ### how plain values are laid -/
abbrev Sx := {x : Str // PyData.strOk x = true ∧ x.length ≤ LIM}
abbrev eI : Int → D := D.int
abbrev eB : Bool → D := D.bl
abbrev eN : Unit → D := fun _ => .non
abbrev eS : Sx → D := fun x => .str x.1
abbrev eT {α : Type} (e : α → D) (xs : List α) : D := .tup (xs.map e)
abbrev eL {α : Type} (e : α → D) (xs : List α) : D := .lst (xs.map e)
abbrev eP1 {α : Type} (e1 : α → D) (p : α) : D := .tup [e1 p]
abbrev eP2 {α β : Type} (e1 : α → D) (e2 : β → D) (p : α × β) : D := .tup [e1 p.1, e2 p.2]
abbrev eP3 {α β γ : Type} (e1 : α → D) (e2 : β → D) (e3 : γ → D) (p : α × β × γ) : D := .tup [e1 p.1, e2 p.2.1, e3 p.2.2]
abbrev eP4 {α β γ δ : Type} (e1 : α → D) (e2 : β → D) (e3 : γ → D) (e4 : δ → D) (p : α × β × γ × δ) : D := .tup [e1 p.1, e2 p.2.1, e3 p.2.2.1, e4 p.2.2.2]
abbrev eP5 {α β γ δ ε : Type} (e1 : α → D) (e2 : β → D) (e3 : γ → D) (e4 : δ → D) (e5 : ε → D) (p : α × β × γ × δ × ε) : D := .tup [e1 p.1, e2 p.2.1, e3 p.2.2.1, e4 p.2.2.2.1, e5 p.2.2.2.2]
abbrev eQ2 {α β : Type} (e1 : α → D) (e2 : β → D) (p : α × β) : D := .lst [e1 p.1, e2 p.2]
abbrev eQ3 {α β γ : Type} (e1 : α → D) (e2 : β → D) (e3 : γ → D) (p : α × β × γ) : D := .lst [e1 p.1, e2 p.2.1, e3 p.2.2]
def eO {α : Type} (e : α → D) : Option α → D
  | none => .non
  | some a => e a
@[simp] theorem eO_none {α : Type} (e : α → D) : eO e none = .non := rfl
@[simp] theorem eO_some {α : Type} (e : α → D) (a : α) : eO e (some a) = e a := rfl
def getO {α : Type} [Inhabited α] : Option α → α
  | some a => a
  | none => default
@[simp] theorem getO_some {α : Type} [Inhabited α] (a : α) : getO (some a) = a := rfl
theorem eO_get {α : Type} [Inhabited α] {e : α → D} {o : Option α} (h : o.isSome = true) : eO e o = e (getO o) := by
  cases o with
  | none => simp at h
  | some a => rfl
/-! any value: content, not too deep, ints not too great -/
mutual
def D.av (n : Nat) : D → Bool
  | .non => true
  | .bl _ => true
  | .int i => decide (i.natAbs < 1099511627776)
  | .str x => PyData.strOk x && decide (x.length ≤ LIM)
  | .tup xs => match n with
    | 0 => false
    | n + 1 => decide (xs.length ≤ 1048576) && D.avL n xs
  | .lst xs => match n with
    | 0 => false
    | n + 1 => decide (xs.length ≤ 1048576) && D.avL n xs
  | _ => false
def D.avL (n : Nat) : List D → Bool
  | [] => true
  | x :: xs => D.av n x && D.avL n xs
end
theorem avL_mem {n : Nat} : ∀ {xs : List D}, D.avL n xs = true ↔ ∀ d ∈ xs, D.av n d = true
  | [] => by simp [D.avL]
  | x :: xs => by simp [D.avL, avL_mem (xs := xs)]
mutual
theorem av_fit : ∀ (n : Nat) (d : D), D.av n d = true → D.fit n d = true
  | n, .non, _ => by simp
  | n, .bl _, _ => by simp
  | n, .int _, _ => by simp
  | n, .str _, h => by simp only [D.av, Bool.and_eq_true] at h; simp [h.1]
  | 0, .tup _, h => by simp [D.av] at h
  | n + 1, .tup xs, h => by simp only [D.av, Bool.and_eq_true] at h; simp only [fit_tup]; exact avL_fit n xs h.2
  | 0, .lst _, h => by simp [D.av] at h
  | n + 1, .lst xs, h => by simp only [D.av, Bool.and_eq_true] at h; simp only [fit_lst]; exact avL_fit n xs h.2
  | n, .ref _, h => by simp [D.av] at h
  | n, .fr _, h => by simp [D.av] at h
  | n, .rng _ _, h => by simp [D.av] at h
theorem avL_fit : ∀ (n : Nat) (xs : List D), D.avL n xs = true → D.fitL n xs = true
  | n, [], _ => rfl
  | n, x :: xs, h => by
    simp only [D.avL, Bool.and_eq_true] at h
    simp only [fitL_cons, Bool.and_eq_true]
    exact ⟨av_fit n x h.1, avL_fit n xs h.2⟩
end
mutual
theorem av_mono : ∀ (n m : Nat), n ≤ m → ∀ d : D, D.av n d = true → D.av m d = true
  | n, m, h, .non, q => by simpa [D.av] using q
  | n, m, h, .bl _, q => by simpa [D.av] using q
  | n, m, h, .int _, q => by simpa [D.av] using q
  | n, m, h, .str _, q => by simpa [D.av] using q
  | 0, m, h, .tup _, q => by simp [D.av] at q
  | n + 1, 0, h, _, q => by omega
  | n + 1, m + 1, h, .tup xs, q => by simp only [D.av, Bool.and_eq_true] at q ⊢; exact ⟨q.1, avL_mono n m (by omega) xs q.2⟩
  | 0, m, h, .lst _, q => by simp [D.av] at q
  | n + 1, m + 1, h, .lst xs, q => by simp only [D.av, Bool.and_eq_true] at q ⊢; exact ⟨q.1, avL_mono n m (by omega) xs q.2⟩
  | n, m, h, .ref _, q => by simp [D.av] at q
  | n, m, h, .fr _, q => by simp [D.av] at q
  | n, m, h, .rng _ _, q => by simp [D.av] at q
theorem avL_mono : ∀ (n m : Nat), n ≤ m → ∀ xs : List D, D.avL n xs = true → D.avL m xs = true
  | n, m, h, [], _ => rfl
  | n, m, h, x :: xs, q => by
    simp only [D.avL, Bool.and_eq_true] at q ⊢
    exact ⟨av_mono n m h x q.1, avL_mono n m h xs q.2⟩
end
abbrev AV := {d : D // D.av 9 d = true}
abbrev eA : AV → D := Subtype.val
instance : Inhabited AV := ⟨⟨.non, rfl⟩⟩
instance : Inhabited Sx := ⟨⟨"", by decide +kernel⟩⟩
instance : Inhabited D := ⟨.non⟩
theorem av_fit' (v : AV) {k : Nat} : D.fit (9 + k) v.1 = true := D.fit_mono 9 (9 + k) (by omega) _ (av_fit 9 _ v.2)
namespace AV
def isTup (v : AV) : Bool := match v.1 with | .tup _ => true | _ => false
def isLst (v : AV) : Bool := match v.1 with | .lst _ => true | _ => false
def isStr (v : AV) : Bool := match v.1 with | .str _ => true | _ => false
def isBl (v : AV) : Bool := match v.1 with | .bl _ => true | _ => false
def isI (v : AV) : Bool := match v.1 with | .int _ => true | _ => false
def isInt (v : AV) : Bool := match v.1 with | .int _ => true | .bl _ => true | _ => false
def isNon (v : AV) : Bool := match v.1 with | .non => true | _ => false
def int (v : AV) : Int := match v.1 with | .int i => i | _ => 0
def bl (v : AV) : Bool := match v.1 with | .bl i => i | _ => false
def raw (v : AV) : List D := match v.1 with | .tup xs => xs | .lst xs => xs | _ => []
theorem raw_av (v : AV) : ∀ d ∈ v.raw, D.av 9 d = true := by
  obtain ⟨d, hd⟩ := v
  unfold raw
  cases d with
  | tup xs => simp only [D.av, Bool.and_eq_true] at hd; exact fun d h => av_mono 8 9 (by omega) d (avL_mem.1 hd.2 d h)
  | lst xs => simp only [D.av, Bool.and_eq_true] at hd; exact fun d h => av_mono 8 9 (by omega) d (avL_mem.1 hd.2 d h)
  | _ => intro d h; simp at h
@[irreducible] def items (v : AV) : List AV := v.raw.attach.map fun d => ⟨d.1, v.raw_av d.1 d.2⟩
theorem items_raw (v : AV) : v.items.map eA = v.raw := by
  unfold items
  rw [List.map_map]
  have : (eA ∘ fun d : {x // x ∈ v.raw} => (⟨d.1, v.raw_av d.1 d.2⟩ : AV)) = Subtype.val := rfl
  rw [this, List.attach_map_subtype_val]
theorem tup_eq {v : AV} (h : v.isTup = true) : v.1 = eT eA v.items := by
  show _ = D.tup (v.items.map eA)
  rw [items_raw]
  obtain ⟨d, hd⟩ := v
  cases d with
  | tup xs => rfl
  | _ => cases h
theorem lst_eq {v : AV} (h : v.isLst = true) : v.1 = eL eA v.items := by
  show _ = D.lst (v.items.map eA)
  rw [items_raw]
  obtain ⟨d, hd⟩ := v
  cases d with
  | lst xs => rfl
  | _ => cases h
theorem i_eq {v : AV} (h : v.isI = true) : v.1 = .int v.int := by
  obtain ⟨d, hd⟩ := v
  cases d with
  | int i => rfl
  | _ => cases h
theorem bl_eq {v : AV} (h : v.isBl = true) : v.1 = .bl v.bl := by
  obtain ⟨d, hd⟩ := v
  cases d with
  | bl i => rfl
  | _ => cases h
theorem len_items (v : AV) : v.items.length ≤ 1048576 := by
  have : v.items.length = v.raw.length := by rw [← items_raw v, List.length_map]
  rw [this]
  obtain ⟨d, hd⟩ := v
  cases d with
  | tup xs => simp only [D.av, Bool.and_eq_true, decide_eq_true_eq] at hd; exact hd.1
  | lst xs => simp only [D.av, Bool.and_eq_true, decide_eq_true_eq] at hd; exact hd.1
  | _ => simp [raw]
def isSeq (v : AV) : Bool := v.isTup || v.isLst
theorem seq_eq {v : AV} (h : v.isSeq = true) {S : Store} : seqOf v.1 S = some (v.items.map eA) := by
  rw [items_raw]
  obtain ⟨d, hd⟩ := v
  cases d with
  | tup xs => rfl
  | lst xs => rfl
  | _ => cases h
theorem int_lt (v : AV) : v.int.natAbs < 1099511627776 := by
  obtain ⟨d, hd⟩ := v
  cases d with
  | int i => simp only [D.av, decide_eq_true_eq] at hd; exact hd
  | _ => exact (by decide : (0 : Int).natAbs < 1099511627776)
end AV
/-- a value of which it is known that it is one of the small ones -/
def mkA (d : D) : AV := if h : D.av 9 d = true then ⟨d, h⟩ else ⟨.non, rfl⟩
theorem mkA_eq {d : D} (h : D.av 9 d = true) : eA (mkA d) = d := by unfold mkA; rw [dif_pos h]
/-! ### where Python's == is equality -/
structure Eqv {α : Type} [DecidableEq α] (k : Nat) (e : α → D) : Prop where
  fit : ∀ a, D.fit k (e a) = true
  eq : ∀ a b, deq (e a) (e b) = decide (a = b)
structure NN {α : Type} (e : α → D) : Prop where
  l : ∀ a, deq .non (e a) = false
  r : ∀ a, deq (e a) .non = false
@[simp] theorem deq_bl {b c : Bool} : deq (.bl b) (.bl c) = decide (b = c) := by cases b <;> cases c <;> decide
@[simp] theorem deq_non : deq .non .non = true := by decide
@[simp] theorem deq_non_int {i : Int} : deq .non (.int i) = false := by simp [deq, D.py, PyData.eqv]
@[simp] theorem deq_int_non {i : Int} : deq (.int i) .non = false := by simp [deq, D.py, PyData.eqv]
@[simp] theorem deq_non_tup {i : List D} : deq .non (.tup i) = false := by simp [deq, D.py, PyData.eqv]
@[simp] theorem deq_tup_non {i : List D} : deq (.tup i) .non = false := by simp [deq, D.py, PyData.eqv]
@[simp] theorem deq_non_lst {i : List D} : deq .non (.lst i) = false := by simp [deq, D.py, PyData.eqv]
@[simp] theorem deq_lst_non {i : List D} : deq (.lst i) .non = false := by simp [deq, D.py, PyData.eqv]
@[simp] theorem deq_non_str {i : Str} : deq .non (.str i) = false := by simp [deq, D.py, PyData.eqv]
@[simp] theorem deq_str_non {i : Str} : deq (.str i) .non = false := by simp [deq, D.py, PyData.eqv]
section
variable {α β γ δ ε : Type} [DecidableEq α] [DecidableEq β] [DecidableEq γ] [DecidableEq δ] [DecidableEq ε] {k : Nat} {e : α → D} {e2 : β → D} {e3 : γ → D} {e4 : δ → D} {e5 : ε → D}
theorem eqv_I : Eqv k eI := ⟨fun a => by simp, fun a b => by simp; rfl⟩
theorem eqv_B : Eqv k eB := ⟨fun a => by simp, fun a b => by simp⟩
theorem eqv_N : Eqv k eN := ⟨fun a => by simp, fun a b => by simp⟩
theorem eqv_S : Eqv k eS := ⟨fun a => by simp [a.2.1], fun a b => by rw [deq_str, Bool.eq_iff_iff]; simp [Subtype.ext_iff]⟩
theorem deqL_map (h : ∀ a b, deq (e a) (e b) = decide (a = b)) : ∀ x y : List α, deqL (x.map e) (y.map e) = decide (x = y)
  | [], [] => by simp
  | [], _ :: _ => by simp
  | _ :: _, [] => by simp
  | a :: x, b :: y => by
    simp only [List.map_cons, deqL_cons, h, deqL_map h x y, List.cons.injEq]
    by_cases h1 : a = b <;> simp [h1]
theorem eqv_T (h : Eqv k e) : Eqv (k + 1) (eT e) := ⟨fun a => by simp only [fit_tup]; exact fitL_map fun x _ => h.fit x, fun a b => by rw [deq_tup, deqL_map h.eq]⟩
theorem eqv_L (h : Eqv k e) : Eqv (k + 1) (eL e) := ⟨fun a => by simp only [fit_lst]; exact fitL_map fun x _ => h.fit x, fun a b => by rw [deq_lst, deqL_map h.eq]⟩
theorem eqv_P1 (h : Eqv k e) : Eqv (k + 1) (eP1 e) := ⟨fun a => by simp [h.fit], fun a b => by simp [h.eq]⟩
theorem eqv_P2 (h : Eqv k e) (h2 : Eqv k e2) : Eqv (k + 1) (eP2 e e2) := ⟨fun a => by simp [h.fit, h2.fit], fun a b => by
  obtain ⟨a1, a2⟩ := a; obtain ⟨b1, b2⟩ := b; simp [h.eq, h2.eq, Prod.ext_iff]⟩
theorem eqv_P3 (h : Eqv k e) (h2 : Eqv k e2) (h3 : Eqv k e3) : Eqv (k + 1) (eP3 e e2 e3) := ⟨fun a => by simp [h.fit, h2.fit, h3.fit], fun a b => by
  obtain ⟨a1, a2, a3⟩ := a; obtain ⟨b1, b2, b3⟩ := b; simp [h.eq, h2.eq, h3.eq, Prod.ext_iff]⟩
theorem eqv_P4 (h : Eqv k e) (h2 : Eqv k e2) (h3 : Eqv k e3) (h4 : Eqv k e4) : Eqv (k + 1) (eP4 e e2 e3 e4) := ⟨fun a => by simp [h.fit, h2.fit, h3.fit, h4.fit], fun a b => by
  obtain ⟨a1, a2, a3, a4⟩ := a; obtain ⟨b1, b2, b3, b4⟩ := b; simp [h.eq, h2.eq, h3.eq, h4.eq, Prod.ext_iff]⟩
theorem eqv_Q2 (h : Eqv k e) (h2 : Eqv k e2) : Eqv (k + 1) (eQ2 e e2) := ⟨fun a => by simp [h.fit, h2.fit], fun a b => by
  obtain ⟨a1, a2⟩ := a; obtain ⟨b1, b2⟩ := b; simp [h.eq, h2.eq, Prod.ext_iff]⟩
theorem eqv_O (h : Eqv k e) (n : NN e) : Eqv k (eO e) := ⟨fun a => by cases a <;> simp [h.fit], fun a b => by
  cases a <;> cases b <;> simp [h.eq, n.l, n.r]⟩
end
theorem nn_I : NN eI := ⟨fun a => by simp, fun a => by simp⟩
theorem nn_S : NN eS := ⟨fun a => by simp, fun a => by simp⟩
theorem nn_T {α : Type} {e : α → D} : NN (eT e) := ⟨fun a => by simp, fun a => by simp⟩
theorem nn_L {α : Type} {e : α → D} : NN (eL e) := ⟨fun a => by simp, fun a => by simp⟩
theorem nn_P2 {α β : Type} {e : α → D} {e2 : β → D} : NN (eP2 e e2) := ⟨fun a => by simp, fun a => by simp⟩
theorem nn_P3 {α β γ : Type} {e : α → D} {e2 : β → D} {e3 : γ → D} : NN (eP3 e e2 e3) := ⟨fun a => by simp, fun a => by simp⟩
/-! fit alone -/
abbrev Fit {α : Type} (k : Nat) (e : α → D) : Prop := ∀ a, D.fit k (e a) = true
section
variable {α β γ δ ε : Type} {k : Nat} {e : α → D} {e2 : β → D} {e3 : γ → D} {e4 : δ → D} {e5 : ε → D}
theorem fit_I : Fit k eI := fun a => by simp
theorem fit_B : Fit k eB := fun a => by simp
theorem fit_N : Fit k eN := fun a => by simp
theorem fit_S : Fit k eS := fun a => by simp [a.2.1]
theorem fit_A : Fit (9 + k) eA := fun a => av_fit' a
theorem fit_T (h : Fit k e) : Fit (k + 1) (eT e) := fun a => by simp only [fit_tup]; exact fitL_map fun x _ => h x
theorem fit_L (h : Fit k e) : Fit (k + 1) (eL e) := fun a => by simp only [fit_lst]; exact fitL_map fun x _ => h x
theorem fit_P1 (h : Fit k e) : Fit (k + 1) (eP1 e) := fun a => by simp [h a]
theorem fit_P2 (h : Fit k e) (h2 : Fit k e2) : Fit (k + 1) (eP2 e e2) := fun a => by simp [h a.1, h2 a.2]
theorem fit_Q2 (h : Fit k e) (h2 : Fit k e2) : Fit (k + 1) (eQ2 e e2) := fun a => by simp [h a.1, h2 a.2]
theorem fit_P3 (h : Fit k e) (h2 : Fit k e2) (h3 : Fit k e3) : Fit (k + 1) (eP3 e e2 e3) := fun a => by simp [h a.1, h2 a.2.1, h3 a.2.2]
theorem fit_Q3 (h : Fit k e) (h2 : Fit k e2) (h3 : Fit k e3) : Fit (k + 1) (eQ3 e e2 e3) := fun a => by simp [h a.1, h2 a.2.1, h3 a.2.2]
theorem fit_P4 (h : Fit k e) (h2 : Fit k e2) (h3 : Fit k e3) (h4 : Fit k e4) : Fit (k + 1) (eP4 e e2 e3 e4) := fun a => by simp [h a.1, h2 a.2.1, h3 a.2.2.1, h4 a.2.2.2]
theorem fit_O (h : Fit k e) : Fit k (eO e) := fun a => by cases a <;> simp [h _]
theorem fit_up {j : Nat} (h : Fit j e) (hk : j ≤ k) : Fit k e := fun a => D.fit_mono j k hk _ (h a)
end
end DV

/-! DVu: each construct's meaning over plain values. -/
namespace DV
open PySem PySem.Spec PyProof.Rows L2
/-! ### plain words -/
def ixP (n : Nat) (i : Int) : Nat := if i < 0 then (i + n).toNat else i.toNat
def InR {α : Type} (xs : List α) (i : Int) : Prop := -(xs.length : Int) ≤ i ∧ i < xs.length
def ixZ {α : Type} [Inhabited α] (xs : List α) (i : Int) : α := xs.getD (ixP xs.length i) default
def cutZ {α : Type} (xs : List α) (lo hi : Option Int) : List α := (xs.drop (HT.sIx xs.length 0 lo)).take (HT.sIx xs.length xs.length hi - HT.sIx xs.length 0 lo)
def rngZ (lo hi : Int) : List Int := (List.range (hi - lo).toNat).map fun (i : Nat) => lo + (i : Int)
def enumZ {α : Type} (xs : List α) : List (Int × α) := xs.mapIdx fun i x => ((i : Int), x)
def minZ : List Int → Int
  | [] => 0
  | n :: ns => minI n ns
def maxZ : List Int → Int
  | [] => 0
  | n :: ns => maxI n ns
def setZ {α : Type} (xs : List α) (i : Int) (x : α) : List α := xs.set (ixP xs.length i) x
def repZ {α : Type} (n : Int) (xs : List α) : List α := (List.replicate n.toNat xs).flatten
def absZ (i : Int) : Int := if i < 0 then -i else i
def sortZ {α : Type} (en : α → D) (xs : List α) : List α := xs.mergeSort fun a b => dle (en a) (en b)
theorem ixN_Z {n : Nat} {i : Int} (h : -(n : Int) ≤ i ∧ i < n) : ixN n i = some (ixP n i) ∧ ixP n i < n := by
  unfold ixN ixP
  by_cases h0 : i < 0
  · rw [if_neg (by omega), if_pos (by omega), if_pos h0]; exact ⟨rfl, by omega⟩
  · rw [if_pos (by omega), if_pos (by omega), if_neg h0]; exact ⟨rfl, by omega⟩
theorem ixZ_mem {α : Type} [Inhabited α] {xs : List α} {i : Int} (h : InR xs i) : ixZ xs i ∈ xs := by
  have := (ixN_Z h).2
  unfold ixZ
  rw [List.getD_eq_getElem?_getD, List.getElem?_eq_getElem this]
  exact List.getElem_mem this
theorem atI_Z {α : Type} [Inhabited α] {xs : List α} {en : α → D} {i : Int} (h : InR xs i) : atI (xs.map en) i = some (en (ixZ xs i)) := by
  obtain ⟨h1, h2⟩ := ixN_Z h
  unfold atI ixZ
  rw [List.length_map, h1]
  simp [h2]
theorem cutD_Z {α : Type} {xs : List α} {en : α → D} {lo hi : Option Int} : cutD (xs.map en) lo hi = (cutZ xs lo hi).map en := by
  unfold cutD cutZ
  simp [List.map_take, List.map_drop]
theorem rngL_Z {a b : Int} : rngL a b = (rngZ a b).map eI := by
  unfold rngL rngZ
  rw [List.map_map]; rfl
theorem enumD_Z {α : Type} {xs : List α} {en : α → D} : ((xs.map en).mapIdx fun i d => D.tup [.int (i : Nat), d]) = (enumZ xs).map (eP2 eI en) := by
  unfold enumZ
  apply List.ext_getElem
  · simp
  · intro i h1 h2
    simp
/-! ### values -/
section
variable {α β γ : Type} {e : Ev} {S S1 S2 S3 : Store} {m mi ma mb mc : ME} {ml : ML} {en : α → D} {en2 : β → D} {xs ys : List α} {i j : Int} {d d1 d2 : D} {v : AV} {t a b : MT} {x y : Bool}
theorem var_of {k : Nat} (h : e[k]? = some (some d)) : mV k e S = some (d, S) := by rw [r_V, h]
theorem ix_T [Inhabited α] (h : m e S = some (eT en xs, S1)) (hi : mi e S1 = some (.int i, S2)) (hr : InR xs i) : mBin fIx m mi e S = some (en (ixZ xs i), S2) :=
  bin_of h hi (by rw [DV.ix_tup, atI_Z hr]; rfl)
theorem ix_L [Inhabited α] (h : m e S = some (eL en xs, S1)) (hi : mi e S1 = some (.int i, S2)) (hr : InR xs i) : mBin fIx m mi e S = some (en (ixZ xs i), S2) :=
  bin_of h hi (by rw [DV.ix_lst, atI_Z hr]; rfl)
theorem ix_R [Inhabited α] {p : Nat} (h : m e S = some (.ref p, S1)) (hi : mi e S1 = some (.int i, S2)) (hp : S2[p]? = some (.lst (xs.map en))) (hr : InR xs i) : mBin fIx m mi e S = some (en (ixZ xs i), S2) :=
  bin_of h hi (by rw [DV.ix_ref, seq_ref, hp]; simp only [Option.bind_some]; rw [atI_Z hr]; rfl)
theorem ix_A (h : m e S = some (eA v, S1)) (hi : mi e S1 = some (.int i, S2)) (hq : v.isTup = true) (hr : InR v.items i) : mBin fIx m mi e S = some (eA (ixZ v.items i), S2) :=
  ix_T (by rw [h]; show some (v.1, S1) = _; rw [AV.tup_eq hq]) hi hr
theorem o1_of (h : m e S = some (.int i, S1)) : mO1 m e S = some (some i, S1) := by unfold mO1; rw [h]; rfl
theorem sl_T {lo hi : Option Int} {ml mh : MO} (h : m e S = some (eT en xs, S1)) (hl : ml e S1 = some (lo, S2)) (hh : mh e S2 = some (hi, S3)) : mSl fSlT m ml mh e S = some (eT en (cutZ xs lo hi), S3) := by
  rw [r_Sl, h]; simp only [Option.bind_some]; rw [hl]; simp only [Option.bind_some]; rw [hh]; simp only [Option.bind_some, r_slT, cutD_Z]
theorem sl_A {lo hi : Option Int} {ml mh : MO} (h : m e S = some (eA v, S1)) (hq : v.isTup = true) (hl : ml e S1 = some (lo, S2)) (hh : mh e S2 = some (hi, S3)) : mSl fSlT m ml mh e S = some (eT eA (cutZ v.items lo hi), S3) :=
  sl_T (by rw [h]; show some (v.1, S1) = _; rw [AV.tup_eq hq]) hl hh
theorem sl_L {lo hi : Option Int} {ml mh : MO} (h : m e S = some (d, S1)) (hl : ml e S1 = some (lo, S2)) (hh : mh e S2 = some (hi, S3)) (hs : lstOf d S3 = some (xs.map en)) : mSlL m ml mh e S = some ((cutZ xs lo hi).map en, S3) := by
  rw [r_SlL, h]; simp only [Option.bind_some]; rw [hl]; simp only [Option.bind_some]; rw [hh]; simp only [Option.bind_some]; rw [hs]; simp only [Option.bind_some, cutD_Z]
theorem rev_T (h : m e S = some (eT en xs, S1)) : mRevT m e S = some (eT en xs.reverse, S1) := by unfold mRevT; rw [h]; simp
theorem add_T (h : xs.length + ys.length ≤ LIM) : fAdd (eT en xs) (eT en ys) S = some (eT en (xs ++ ys), S) := by
  rw [r_addT, if_pos (by simpa using h), ← List.map_append]
theorem add_L (h : xs.length + ys.length ≤ LIM) : fAdd (eL en xs) (eL en ys) S = some (eL en (xs ++ ys), S) := by
  rw [r_addL, if_pos (by simpa using h), ← List.map_append]
theorem add_TD {ds es : List D} (h : ds.length + es.length ≤ LIM) : fAdd (.tup ds) (.tup es) S = some (.tup (ds ++ es), S) := by rw [r_addT, if_pos h]
theorem cat_of {da db : D} (ha : ma e S = some (da, S1)) (hb : mb e S1 = some (db, S2)) (h1 : lstTr da S2 = some (xs.map en)) (h2 : lstTr db S2 = some (ys.map en)) (h : xs.length + ys.length ≤ LIM) : mCat ma mb e S = some ((xs ++ ys).map en, S2) := by
  unfold mCat; rw [ha]; simp only [Option.bind_some]; rw [hb]; simp only [Option.bind_some]; rw [h1]; simp only [Option.bind_some]; rw [h2]; simp only [Option.bind_some]
  rw [if_pos (by simpa using h), List.map_append]
theorem flat_map {n : Nat} : (List.replicate n (xs.map en)).flatten = ((List.replicate n xs).flatten).map en := by
  rw [List.map_flatten, List.map_replicate]
theorem rep_L (h : -(2 ^ 63) ≤ j ∧ j < 2 ^ 63 ∧ xs.length * j.toNat ≤ LIM) : fMul (eL en xs) (.int j) S = some (eL en (repZ j xs), S) := by
  simp only [fMul, eL, ltr_lst, Option.bind_some]
  rw [if_pos (by simpa using h)]
  unfold repZ; rw [flat_map]
theorem repL_of {da : D} (ha : ma e S = some (da, S1)) (hb : mb e S1 = some (.int j, S2)) (h1 : lstTr da S2 = some (xs.map en)) (h : -(2 ^ 63) ≤ j ∧ j < 2 ^ 63 ∧ xs.length * j.toNat ≤ LIM) : mRepL ma mb e S = some ((repZ j xs).map en, S2) := by
  unfold mRepL; rw [ha]; simp only [Option.bind_some]; rw [hb]; simp only [Option.bind_some]; rw [h1]; simp only [Option.bind_some]
  rw [if_pos (by simpa using h)]
  unfold repZ; rw [flat_map]
theorem pow_of (h : 0 ≤ j ∧ j ≤ 1000000 ∧ i.natAbs < 2 ^ 64) : fPow (.int i) (.int j) S = some (.int (i ^ j.toNat), S) := by rw [r_pow, if_pos h]
theorem neg_of (h : m e S = some (.int i, S1)) : mUn fNeg m e S = some (.int (-i), S1) := by rw [r_Un, h]; rfl
theorem rt_fit {k : Nat} (h : D.fit k d = true) : readTop d S = d := by
  cases d <;> simp_all [D.fit, readTop]
theorem eq_D {k l : Nat} (h1 : D.fit k d1 = true) (h2 : D.fit l d2 = true) (hk : k ≤ 32) (hl : l ≤ 32) : fEq d1 d2 S = some (.bl (deq d1 d2), S) := by
  rw [r_eq, rt_fit h1, rt_fit h2, if_pos ⟨D.fit_mono _ _ hk _ h1, D.fit_mono _ _ hl _ h2⟩]
theorem ne_D {k l : Nat} (h1 : D.fit k d1 = true) (h2 : D.fit l d2 = true) (hk : k ≤ 32) (hl : l ≤ 32) : fNe d1 d2 S = some (.bl (!deq d1 d2), S) := by
  rw [r_ne, rt_fit h1, rt_fit h2, if_pos ⟨D.fit_mono _ _ hk _ h1, D.fit_mono _ _ hl _ h2⟩]
theorem eq_E [DecidableEq α] {p q : α} (h : Eqv 32 en) : fEq (en p) (en q) S = some (.bl (decide (p = q)), S) := by
  rw [eq_D (h.fit p) (h.fit q) (Nat.le_refl _) (Nat.le_refl _), h.eq]
theorem ne_E [DecidableEq α] {p q : α} (h : Eqv 32 en) : fNe (en p) (en q) S = some (.bl (!decide (p = q)), S) := by
  rw [ne_D (h.fit p) (h.fit q) (Nat.le_refl _) (Nat.le_refl _), h.eq]
theorem eq_RL [DecidableEq α] {p : Nat} (h : Eqv 32 (eL en)) (hp : S[p]? = some (.lst (xs.map en))) : fEq (.ref p) (eL en ys) S = some (.bl (decide (xs = ys)), S) := by
  have := h.fit xs
  rw [r_eq]
  have e1 : readTop (.ref p) S = eL en xs := by simp only [readTop, hp]
  rw [e1, rt_fit (h.fit ys), if_pos ⟨h.fit _, h.fit _⟩, h.eq]
theorem in_E [DecidableEq α] {p : α} (h : Eqv 32 en) (hs : seqOf d S = some (xs.map en)) : fIn (en p) d S = some (.bl (decide (p ∈ xs)), S) := by
  unfold fIn fInB
  rw [hs]; simp only [Option.bind_some]
  rw [if_pos ⟨h.fit p, fitL_map fun x _ => h.fit x⟩]
  have : ((xs.map en).any fun z => deq z (en p)) = decide (p ∈ xs) := by
    rw [Bool.eq_iff_iff]; simp [h.eq]
  simp only [Bool.false_eq_true, if_false, this]
theorem nin_E [DecidableEq α] {p : α} (h : Eqv 32 en) (hs : seqOf d S = some (xs.map en)) : fNotIn (en p) d S = some (.bl (!decide (p ∈ xs)), S) := by
  unfold fNotIn fInB
  rw [hs]; simp only [Option.bind_some]
  rw [if_pos ⟨h.fit p, fitL_map fun x _ => h.fit x⟩]
  have : ((xs.map en).any fun z => deq z (en p)) = decide (p ∈ xs) := by
    rw [Bool.eq_iff_iff]; simp [h.eq]
  simp only [if_true, this]
/-- any value in a row -/
theorem in_D {k : Nat} (h : ∀ z ∈ xs, D.fit 32 (en z) = true) (h1 : D.fit k d1 = true) (hk : k ≤ 32) (hs : seqOf d S = some (xs.map en)) : fIn d1 d S = some (.bl (xs.any fun z => deq (en z) d1), S) := by
  unfold fIn fInB
  rw [hs]; simp only [Option.bind_some]
  rw [if_pos ⟨D.fit_mono _ _ hk _ h1, fitL_map h⟩]
  simp only [Bool.false_eq_true, if_false, List.any_map]; rfl
theorem nin_D {k : Nat} (h : ∀ z ∈ xs, D.fit 32 (en z) = true) (h1 : D.fit k d1 = true) (hk : k ≤ 32) (hs : seqOf d S = some (xs.map en)) : fNotIn d1 d S = some (.bl (!(xs.any fun z => deq (en z) d1)), S) := by
  unfold fNotIn fInB
  rw [hs]; simp only [Option.bind_some]
  rw [if_pos ⟨D.fit_mono _ _ hk _ h1, fitL_map h⟩]
  simp only [if_true, List.any_map]; rfl
theorem isN_O {o : Option α} (hn : ∀ a, fIsN (en a) .non S = some (.bl false, S)) : fIsN (eO en o) .non S = some (.bl o.isNone, S) := by
  cases o with
  | none => rfl
  | some a => exact hn a
theorem notN_O {o : Option α} (hn : ∀ a, fIsN (en a) .non S = some (.bl false, S)) : fNotN (eO en o) .non S = some (.bl o.isSome, S) := by
  unfold fNotN
  rw [isN_O hn]
  cases o <;> rfl
theorem isN_A : fIsN (eA v) .non S = some (.bl v.isNon, S) := by
  obtain ⟨d, hd⟩ := v
  cases d <;> first | rfl | (simp [D.av] at hd)
theorem notN_A : fNotN (eA v) .non S = some (.bl (!v.isNon), S) := by
  unfold fNotN; rw [isN_A]; rfl
theorem chain_of {f g : D → D → Store → Option (D × Store)} {p q r : D} (ha : ma e S = some (p, S1)) (hb : mb e S1 = some (q, S2)) (hf : f p q S2 = some (.bl x, S2)) (hc : x = true → mc e S2 = some (r, S2)) (hg : x = true → g q r S2 = some (.bl y, S2)) : mChain f g ma mb mc e S = some (.bl (x && y), S2) := by
  unfold mChain; rw [ha]; simp only [Option.bind_some]; rw [hb]; simp only [Option.bind_some]; rw [hf]; simp only [Option.bind_some]
  cases x with
  | true => simp only; rw [hc rfl]; simp only [Option.bind_some]; rw [hg rfl]; rfl
  | false => rfl
theorem and_E (ha : a e S = some (x, S1)) (hb : x = true → b e S1 = some (y, S1)) : mAnd a b e S = some (x && y, S1) := by
  rw [r_And, ha]; cases x with
  | true => simp only [Option.bind_some, if_true]; rw [hb rfl]; rfl
  | false => rfl
theorem or_E (ha : a e S = some (x, S1)) (hb : x = false → b e S1 = some (y, S1)) : mOr a b e S = some (x || y, S1) := by
  rw [r_Or, ha]; cases x with
  | false => simp only [Option.bind_some, Bool.false_eq_true, if_false]; rw [hb rfl]; rfl
  | true => rfl
/-- the same where the second one changes the store -/
theorem and_C {σ : γ → Store} {c1 c2 : γ} (ha : a e S = some (x, σ c1)) (hb : x = true → b e (σ c1) = some (y, σ c2)) : mAnd a b e S = some (x && y, σ (bif x then c2 else c1)) := by
  rw [r_And, ha]; cases x with
  | true => simp only [Option.bind_some, if_true]; rw [hb rfl]; rfl
  | false => rfl
theorem or_C {σ : γ → Store} {c1 c2 : γ} (ha : a e S = some (x, σ c1)) (hb : x = false → b e (σ c1) = some (y, σ c2)) : mOr a b e S = some (x || y, σ (bif x then c1 else c2)) := by
  rw [r_Or, ha]; cases x with
  | false => simp only [Option.bind_some, Bool.false_eq_true, if_false]; rw [hb rfl]; rfl
  | true => rfl
theorem andv_E (ha : ma e S = some (.bl x, S1)) (hb : x = true → mb e S1 = some (.bl y, S1)) : mAndV ma mb e S = some (.bl (x && y), S1) := by
  rw [r_AndV, ha]; cases x with
  | true => simp only [Option.bind_some, tr_bl, if_true]; rw [hb rfl]; rfl
  | false => rfl
theorem orv_E (ha : ma e S = some (.bl x, S1)) (hb : x = false → mb e S1 = some (.bl y, S1)) : mOrV ma mb e S = some (.bl (x || y), S1) := by
  rw [r_OrV, ha]; cases x with
  | false => simp only [Option.bind_some, tr_bl, Bool.false_eq_true, if_false]; rw [hb rfl]; rfl
  | true => rfl
theorem notv_E (ha : ma e S = some (d, S1)) (ht : truth' d S1 = some x) : mNotV ma e S = some (.bl (!x), S1) := by
  rw [r_NotV, ha]; simp only [Option.bind_some]; rw [ht]; rfl
theorem if_E {p q : α} (hc : t e S = some (x, S1)) (h1 : x = true → ma e S1 = some (en p, S1)) (h2 : x = false → mb e S1 = some (en q, S1)) : mIf t ma mb e S = some (en (bif x then p else q), S1) := by
  rw [r_If, hc]; cases x with
  | true => exact h1 rfl
  | false => exact h2 rfl
theorem if_C {σ : γ → Store} {c1 c2 : γ} {p q : α} (hc : t e S = some (x, S1)) (h1 : x = true → ma e S1 = some (en p, σ c1)) (h2 : x = false → mb e S1 = some (en q, σ c2)) : mIf t ma mb e S = some (en (bif x then p else q), σ (bif x then c1 else c2)) := by
  rw [r_If, hc]; cases x with
  | true => exact h1 rfl
  | false => exact h2 rfl
theorem tr_T : truth' (eT en xs) S = some !xs.isEmpty := by rw [tr_tup]; cases xs <;> rfl
theorem tr_L : truth' (eL en xs) S = some !xs.isEmpty := by rw [tr_lst]; cases xs <;> rfl
theorem tr_R {p : Nat} (hp : S[p]? = some (.lst (xs.map en))) : truth' (.ref p) S = some !xs.isEmpty := by rw [tr_ref, hp]; cases xs <;> rfl
theorem tr_O {o : Option α} (ht : ∀ a, truth' (en a) S = some true) : truth' (eO en o) S = some o.isSome := by
  cases o with
  | none => rfl
  | some a => exact ht a
theorem tru_of' (h1 : m e S = some (d, S1)) (h2 : truth' d S1 = some x) : mTru m e S = some (x, S1) := tru_of h1 h2
theorem len_E (h : m e S = some (d, S1)) (hns : ∀ y, d ≠ .str y) (hs : seqOf d S1 = some (xs.map en)) : mCB fLen (mCons m mNil) e S = some (.int (xs.length : Int), S1) :=
  cb_of (one_of h) (by rw [len_of hns hs, List.length_map])
theorem len_A (h : m e S = some (eA v, S1)) (hq : v.isTup = true) : mCB fLen (mCons m mNil) e S = some (.int (v.items.length : Int), S1) :=
  len_E (en := eA) (d := eT eA v.items) (by rw [h]; show some (v.1, S1) = _; rw [AV.tup_eq hq]) (by simp) rfl
theorem tuple_E (h : m e S = some (d, S1)) (hs : seqOf d S1 = some (xs.map en)) : mCB fTuple (mCons m mNil) e S = some (eT en xs, S1) :=
  cb_of (one_of h) (by rw [r_tuple, hs]; rfl)
theorem sum_E {ns : List Int} (h : m e S = some (d, S1)) (hs : lstOf d S1 = some (ns.map eI)) : mCB fSum (mCons m mNil) e S = some (.int ns.sum, S1) :=
  cb_of (one_of h) (by rw [r_sum, hs]; simp only [Option.bind_some]; rw [ints_map]; rfl)
theorem any_E {ns : List Bool} (h : m e S = some (d, S1)) (hs : lstOf d S1 = some (ns.map eB)) : mCB fAny (mCons m mNil) e S = some (.bl (ns.any id), S1) :=
  cb_of (one_of h) (by rw [r_any, hs]; simp only [Option.bind_some]; rw [bls_map]; rfl)
theorem all_E {ns : List Bool} (h : m e S = some (d, S1)) (hs : lstOf d S1 = some (ns.map eB)) : mCB fAll (mCons m mNil) e S = some (.bl (ns.all id), S1) :=
  cb_of (one_of h) (by rw [r_all, hs]; simp only [Option.bind_some]; rw [bls_map]; rfl)
theorem abs_E (h : m e S = some (.int i, S1)) : mCB fAbs (mCons m mNil) e S = some (.int (absZ i), S1) := cb_of (one_of h) rfl
theorem int_B (h : m e S = some (.bl x, S1)) : mCB fInt (mCons m mNil) e S = some (.int (if x then 1 else 0), S1) := cb_of (one_of h) rfl
theorem int_I (h : m e S = some (.int i, S1)) : mCB fInt (mCons m mNil) e S = some (.int i, S1) := cb_of (one_of h) rfl
theorem min_2 (h : ma e S = some (.int i, S1)) (h2 : mb e S1 = some (.int j, S2)) : mCB fMinA (mCons ma (mCons mb mNil)) e S = some (.int (if j < i then j else i), S2) := cb_of (cons_of h (one_of h2)) rfl
theorem max_2 (h : ma e S = some (.int i, S1)) (h2 : mb e S1 = some (.int j, S2)) : mCB fMaxA (mCons ma (mCons mb mNil)) e S = some (.int (if j > i then j else i), S2) := cb_of (cons_of h (one_of h2)) rfl
theorem min_L {ns : List Int} (h : m e S = some (eL eI ns, S1)) (hn : ns ≠ []) : mCB fMinA (mCons m mNil) e S = some (.int (minZ ns), S1) := by
  cases ns with
  | nil => exact absurd rfl hn
  | cons n ns =>
    refine cb_of (one_of h) ?_
    have : intsOf (D.int n :: ns.map D.int) = some (n :: ns) := ints_map (n :: ns)
    simp only [fMinA, fMinX, eL, List.map_cons, seq_lst, lst_lst, Option.bind_some]
    show (match intsOf (D.int n :: ns.map D.int), some (D.int n :: ns.map D.int) with | some (n :: ns), some _ => _ | _, _ => _) = _
    rw [this]; rfl
theorem max_L {ns : List Int} (h : m e S = some (eL eI ns, S1)) (hn : ns ≠ []) : mCB fMaxA (mCons m mNil) e S = some (.int (maxZ ns), S1) := by
  cases ns with
  | nil => exact absurd rfl hn
  | cons n ns =>
    refine cb_of (one_of h) ?_
    have : intsOf (D.int n :: ns.map D.int) = some (n :: ns) := ints_map (n :: ns)
    simp only [fMaxA, fMinX, eL, List.map_cons, seq_lst, lst_lst, Option.bind_some]
    show (match intsOf (D.int n :: ns.map D.int), some (D.int n :: ns.map D.int) with | some (n :: ns), some _ => _ | _, _ => _) = _
    rw [this]; rfl
theorem val_E {ds : List D} (h : ml e S = some (ds, S1)) : mVal ml e S = some (.lst ds, S1) := by rw [r_Val, h]; rfl
theorem sto_E {ds : List D} (h : ml e S = some (ds, S1)) : mSto ml e S = some (.ref S1.length, S1 ++ [.lst ds]) := by rw [r_Sto, h]; rfl
theorem listOf_E (h : m e S = some (d, S1)) (hs : seqOf d S1 = some (xs.map en)) : mListOf m e S = some (xs.map en, S1) := by
  rw [r_ListOf, h]; simp only [Option.bind_some]; rw [hs]; rfl
theorem lstRg_E (h : m e S = some (.int i, S1)) (hi : 0 ≤ i ∧ i ≤ 16777216) : mLstRg m e S = some ((rngZ 0 i).map eI, S1) := by
  unfold mLstRg; rw [h]; simp only [Option.bind_some]; rw [if_pos hi, rngL_Z]
theorem lst_E {ms : ML} {ds : List D} (h1 : ms e S = some (ds, S1)) (h : ds.length ≤ LIM) : mLst ms e S = some (ds, S1) := by
  rw [r_Lst, h1]; simp only [Option.bind_some]; rw [if_pos h]
theorem sorted_E (h : m e S = some (d, S1)) (hs : seqOf d S1 = some (xs.map en)) (hc : D.fitL 31 (xs.map en) = true ∧ alikeB (xs.map en) = true ∧ sortableB (xs.map en) = true) : mSorted m e S = some ((sortZ en xs).map en, S1) := by
  rw [r_Sorted, h]; simp only [Option.bind_some]; rw [hs]; simp only [Option.bind_some]; rw [if_pos hc]
  have e : (xs.mergeSort fun a b => dle (en a) (en b)).map en = (xs.map en).mergeSort dle := List.map_mergeSort (f := en) (r := fun a b => dle (en a) (en b)) (s := dle) (l := xs) (fun a _ b _ => rfl)
  unfold sortZ
  rw [e]
theorem ty_A : tyOf (eA v) S = some (if v.isTup then "tuple" else if v.isLst then "list" else if v.isStr then "str" else if v.isBl then "bool" else if v.isI then "int" else "NoneType") := by
  obtain ⟨d, hd⟩ := v
  cases d <;> first | rfl | (simp [D.av] at hd)
theorem isi_A {T : String} {r : Bool} (h : m e S = some (eA v, S1)) (hr : isT (if v.isTup then "tuple" else if v.isLst then "list" else if v.isStr then "str" else if v.isBl then "bool" else if v.isI then "int" else "NoneType") T = r) : mIsi T m e S = some (.bl r, S1) := isi_of h ty_A hr
theorem isi_tup (h : m e S = some (eA v, S1)) : mIsi "tuple" m e S = some (.bl v.isTup, S1) := isi_A h (by obtain ⟨d, hd⟩ := v; cases d <;> first | exact (by decide +kernel : isT "tuple" "tuple" = true) | exact (by decide +kernel : isT "list" "tuple" = false) | exact (by decide +kernel : isT "str" "tuple" = false) | exact (by decide +kernel : isT "bool" "tuple" = false) | exact (by decide +kernel : isT "int" "tuple" = false) | exact (by decide +kernel : isT "NoneType" "tuple" = false) | (simp [D.av] at hd))
theorem isi_lst (h : m e S = some (eA v, S1)) : mIsi "list" m e S = some (.bl v.isLst, S1) := isi_A h (by obtain ⟨d, hd⟩ := v; cases d <;> first | exact (by decide +kernel : isT "tuple" "list" = false) | exact (by decide +kernel : isT "list" "list" = true) | exact (by decide +kernel : isT "str" "list" = false) | exact (by decide +kernel : isT "bool" "list" = false) | exact (by decide +kernel : isT "int" "list" = false) | exact (by decide +kernel : isT "NoneType" "list" = false) | (simp [D.av] at hd))
theorem isi_str (h : m e S = some (eA v, S1)) : mIsi "str" m e S = some (.bl v.isStr, S1) := isi_A h (by obtain ⟨d, hd⟩ := v; cases d <;> first | exact (by decide +kernel : isT "tuple" "str" = false) | exact (by decide +kernel : isT "list" "str" = false) | exact (by decide +kernel : isT "str" "str" = true) | exact (by decide +kernel : isT "bool" "str" = false) | exact (by decide +kernel : isT "int" "str" = false) | exact (by decide +kernel : isT "NoneType" "str" = false) | (simp [D.av] at hd))
theorem isi_bl (h : m e S = some (eA v, S1)) : mIsi "bool" m e S = some (.bl v.isBl, S1) := isi_A h (by obtain ⟨d, hd⟩ := v; cases d <;> first | exact (by decide +kernel : isT "tuple" "bool" = false) | exact (by decide +kernel : isT "list" "bool" = false) | exact (by decide +kernel : isT "str" "bool" = false) | exact (by decide +kernel : isT "bool" "bool" = true) | exact (by decide +kernel : isT "int" "bool" = false) | exact (by decide +kernel : isT "NoneType" "bool" = false) | (simp [D.av] at hd))
theorem isi_int (h : m e S = some (eA v, S1)) : mIsi "int" m e S = some (.bl v.isInt, S1) := isi_A h (by obtain ⟨d, hd⟩ := v; cases d <;> first | exact (by decide +kernel : isT "tuple" "int" = false) | exact (by decide +kernel : isT "list" "int" = false) | exact (by decide +kernel : isT "str" "int" = false) | exact (by decide +kernel : isT "bool" "int" = true) | exact (by decide +kernel : isT "int" "int" = true) | exact (by decide +kernel : isT "NoneType" "int" = false) | (simp [D.av] at hd))
end
end DV

/-! DVv: comprehensions, loops and blocks over plain values. -/
namespace DV
open PySem PySem.Spec PyProof.Rows L2
section
variable {α β γ δ T R J : Type} {e e1 : Ev} {S S1 S2 S3 : Store} {m ma mb mc : ME} {mi mi1 : MI} {ml : ML} {ms : ML} {en : α → D} {en2 : β → D} {en3 : γ → D} {xs : List α} {i j : Int} {d d1 d2 : D} {v : AV} {tt tt1 : MT} {t t1 : Tg} {elt : ME} {vs vs1 : List Nat}
/-! ### what is walked -/
theorem src_T (h : m e S = some (eT en xs, S1)) : mIt m e S = some (.seq (xs.map en), S1) := it_of h rfl
theorem src_L (h : m e S = some (eL en xs, S1)) : mIt m e S = some (.seq (xs.map en), S1) := it_of h rfl
theorem src_D {ds : List D} (h : m e S = some (d, S1)) (hd : srcOf d S1 = some (.seq ds)) : mIt m e S = some (.seq ds, S1) := it_of h hd
theorem src_A (h : m e S = some (eA v, S1)) (hq : v.isTup = true) : mIt m e S = some (.seq (v.items.map eA), S1) :=
  src_T (by rw [h]; show some (v.1, S1) = _; rw [AV.tup_eq hq])
theorem src_R {p : Nat} (h : m e S = some (.ref p, S1)) (hp : S1[p]? = some (.lst (xs.map en))) : mIt m e S = some (.live p xs.length, S1) := by
  refine it_of h ?_
  simp only [srcOf]; rw [hp]; simp
theorem src_rg1 (h : m e S = some (.int i, S1)) (hi : I62 i) : mRg1 (mCons m mNil) e S = some (.seq ((rngZ 0 i).map eI), S1) := by
  rw [rg1_b (one_of h) hi, rngL_Z]
theorem src_rg2 (h : ma e S = some (.int i, S1)) (h2 : mb e S1 = some (.int j, S2)) (hi : I62 i ∧ I62 j) : mRg2 (mCons ma (mCons mb mNil)) e S = some (.seq ((rngZ i j).map eI), S2) := by
  unfold mRg2
  rw [cons_of h (one_of h2)]; simp only [Option.bind_some]
  rw [if_pos hi, rngL_Z]
theorem src_enT (h : m e S = some (eT en xs, S1)) : mEnum m e S = some (.seq ((enumZ xs).map (eP2 eI en)), S1) := by
  rw [r_Enum, h]; simp only [Option.bind_some, eT, src_tup, enum_seq, enumD_Z]
theorem src_enL (h : m e S = some (eL en xs, S1)) : mEnum m e S = some (.seq ((enumZ xs).map (eP2 eI en)), S1) := by
  rw [r_Enum, h]; simp only [Option.bind_some, eL, src_lst, enum_seq, enumD_Z]
theorem src_enA (h : m e S = some (eA v, S1)) (hq : v.isTup = true) : mEnum m e S = some (.seq ((enumZ v.items).map (eP2 eI eA)), S1) :=
  src_enT (by rw [h]; show some (v.1, S1) = _; rw [AV.tup_eq hq])
/-! ### comprehensions -/
theorem lc_E {p : α → Bool} {f : α → β} (hi : mi e S = some (.seq (xs.map en), S1)) (hz : xs.length ≤ LIM) (h : ∀ x ∈ xs, ∃ e1, t.f (en x) (wipeE e vs) = some e1 ∧ tt e1 S1 = some (p x, S1) ∧ (p x = true → elt e1 S1 = some (en2 (f x), S1))) :
    mLC mi t tt elt vs e S = some (((xs.filter p).map f).map en2, S1) := by
  rw [r_LC hi, lcL_pure en p (fun x => en2 (f x)) xs h]
  simp only [Option.bind_some]
  rw [if_pos (by rw [List.length_map]; exact Nat.le_trans (List.length_filter_le _ _) hz), List.map_map]; rfl
theorem lcm_E {f : α → β} (hi : mi e S = some (.seq (xs.map en), S1)) (hz : xs.length ≤ LIM) (h : ∀ x ∈ xs, ∃ e1, t.f (en x) (wipeE e vs) = some e1 ∧ elt e1 S1 = some (en2 (f x), S1)) :
    mLC mi t mYes elt vs e S = some ((xs.map f).map en2, S1) := by
  rw [r_LC hi, lcL_map en (fun x => en2 (f x)) xs h]
  simp only [Option.bind_some]
  rw [if_pos (by rw [List.length_map]; exact hz), List.map_map]; rfl
theorem lcGo_liveE {p : α → Bool} {f : α → β} {q : Nat} {bind : D → Ev → Option Ev} {e0 : Ev} (hS : S[q]? = some (.lst (xs.map en))) (h : ∀ x ∈ xs, ∃ e1, bind (en x) e0 = some e1 ∧ tt e1 S = some (p x, S) ∧ (p x = true → elt e1 S = some (en2 (f x), S))) :
    lcGo (Src.live q xs.length).get bind tt elt e0 (Src.live q xs.length).n 0 S = some (((xs.filter p).map f).map en2, S) := by
  have := lcGo_live (bind := bind) (tt := tt) (elt := elt) (e0 := e0) en p (fun x => en2 (f x)) xs hS h (N := xs.length) xs.length 0 (by omega)
  rw [List.drop_zero] at this
  rw [List.map_map]; exact this
/-- over a list of the store -/
theorem lcR_E {p : α → Bool} {f : α → β} {q : Nat} (hi : mi e S = some (.live q xs.length, S1)) (hS : S1[q]? = some (.lst (xs.map en))) (hz : xs.length ≤ LIM) (h : ∀ x ∈ xs, ∃ e1, t.f (en x) (wipeE e vs) = some e1 ∧ tt e1 S1 = some (p x, S1) ∧ (p x = true → elt e1 S1 = some (en2 (f x), S1))) :
    mLC mi t tt elt vs e S = some (((xs.filter p).map f).map en2, S1) := by
  unfold mLC
  rw [hi]
  simp only [Option.bind_some]
  rw [lcGo_liveE hS h]
  simp only [Option.bind_some]
  rw [if_pos (by rw [List.length_map, List.length_map]; exact Nat.le_trans (List.length_filter_le _ _) hz)]
theorem lcRm_E {f : α → β} {q : Nat} (hi : mi e S = some (.live q xs.length, S1)) (hS : S1[q]? = some (.lst (xs.map en))) (hz : xs.length ≤ LIM) (h : ∀ x ∈ xs, ∃ e1, t.f (en x) (wipeE e vs) = some e1 ∧ elt e1 S1 = some (en2 (f x), S1)) :
    mLC mi t mYes elt vs e S = some ((xs.map f).map en2, S1) := by
  have := lcR_E (tt := mYes) (p := fun _ => true) hi hS hz fun x hx => by obtain ⟨e1, h1, h2⟩ := h x hx; exact ⟨e1, h1, rfl, fun _ => h2⟩
  rw [this, List.filter_eq_self.2 (fun _ _ => rfl)]
/-- two clauses -/
theorem lc2Go_E {p : α → Bool} {g : α → List D} {bind : D → Ev → Option Ev} {inner : Ev → Store → Option (List D × Store)} {e0 : Ev} : ∀ (xs : List α), (∀ x ∈ xs, ∃ e1, bind (en x) e0 = some e1 ∧ tt e1 S = some (p x, S) ∧ (p x = true → inner e1 S = some (g x, S))) →
    ∀ (n i : Nat), xs.length = i + n → lc2Go (Src.seq (xs.map en)).get bind tt inner e0 n i S = some (((xs.drop i).filter p).flatMap g, S) := by
  intro xs h n
  induction n with
  | zero =>
    intro i hl
    have e : xs.drop i = [] := List.drop_eq_nil_of_le (by omega)
    have hg : (Src.seq (xs.map en)).get i S = some none := by show some (xs.map en)[i]? = some none; rw [List.getElem?_eq_none (by rw [List.length_map]; omega)]
    rw [e]
    simp only [lc2Go, hg]
    rfl
  | succ n ih =>
    intro i hl
    have hi : i < xs.length := by omega
    have hg : (Src.seq (xs.map en)).get i S = some (some (en xs[i])) := by show some (xs.map en)[i]? = _; rw [List.getElem?_map, List.getElem?_eq_getElem hi]; rfl
    obtain ⟨e1, h1, h2, h3⟩ := h xs[i] (List.getElem_mem hi)
    have ih := ih (i + 1) (by omega)
    rw [List.drop_eq_getElem_cons hi]
    simp only [lc2Go, hg, h1, Option.bind_some, h2]
    by_cases hp : p xs[i] = true
    · rw [if_pos hp, h3 hp, Option.bind_some, ih, Option.bind_some, List.filter_cons_of_pos hp, List.flatMap_cons]
    · rw [if_neg hp, ih, List.filter_cons_of_neg hp]
theorem lc2_E {p : α → Bool} {ys : α → List β} {q : α → β → Bool} {f : α → β → γ} (hi : mi e S = some (.seq (xs.map en), S1)) (hz : ((xs.filter p).flatMap fun x => ((ys x).filter (q x)).map (f x)).length ≤ LIM)
    (h : ∀ x ∈ xs, ∃ e1, t.f (en x) (wipeE e vs) = some e1 ∧ tt e1 S1 = some (p x, S1) ∧ (p x = true → mi1 e1 S1 = some (.seq ((ys x).map en2), S1) ∧
      ∀ y ∈ ys x, ∃ e2, t1.f (en2 y) (wipeE e1 vs1) = some e2 ∧ tt1 e2 S1 = some (q x y, S1) ∧ (q x y = true → elt e2 S1 = some (en3 (f x y), S1)))) :
    mLC2 mi t tt mi1 t1 tt1 elt vs vs1 e S = some (((xs.filter p).flatMap fun x => ((ys x).filter (q x)).map (f x)).map en3, S1) := by
  unfold mLC2
  rw [hi]
  simp only [Option.bind_some]
  have := lc2Go_E (S := S1) (tt := tt) (en := en) (p := p) (g := fun x => (((ys x).filter (q x)).map (f x)).map en3) (bind := t.f) (inner := mIn mi1 t1 tt1 elt vs1) (e0 := wipeE e vs) xs (fun x hx => by
    obtain ⟨e1, h1, h2, h3⟩ := h x hx
    refine ⟨e1, h1, h2, fun hp => ?_⟩
    obtain ⟨h4, h5⟩ := h3 hp
    refine in_lc h4 ?_
    rw [lcL_pure en2 (q x) (fun y => en3 (f x y)) (ys x) h5, List.map_map]; rfl) xs.length 0 (by omega)
  rw [List.drop_zero] at this
  rw [show (Src.seq (xs.map en)).n = xs.length from List.length_map _, this]
  simp only [Option.bind_some]
  have e2 : ((xs.filter p).flatMap fun x => (((ys x).filter (q x)).map (f x)).map en3) = ((xs.filter p).flatMap fun x => ((ys x).filter (q x)).map (f x)).map en3 := by rw [List.map_flatMap]
  rw [e2, if_pos (by rw [List.length_map]; exact hz)]
/-- a comprehension whose elements take from the cursor -/
def mapA {α β γ : Type} (f : γ → α → β × γ) : γ → List α → List β × γ
  | c, [] => ([], c)
  | c, x :: xs => ((f c x).1 :: (mapA f (f c x).2 xs).1, (mapA f (f c x).2 xs).2)
def okA {α β γ : Type} (f : γ → α → β × γ) (ok : γ → α → Prop) : γ → List α → Prop
  | _, [] => True
  | c, x :: xs => ok c x ∧ okA f ok (f c x).2 xs
/-- with a test: g says whether it is taken -/
def fmapA {α β γ : Type} (g : γ → α → Bool × γ) (f : γ → α → β × γ) : γ → List α → List β × γ
  | c, [] => ([], c)
  | c, x :: xs => bif (g c x).1 then ((f (g c x).2 x).1 :: (fmapA g f (f (g c x).2 x).2 xs).1, (fmapA g f (f (g c x).2 x).2 xs).2) else fmapA g f (g c x).2 xs
def okFA {α β γ : Type} (g : γ → α → Bool × γ) (f : γ → α → β × γ) (ok : γ → α → Prop) : γ → List α → Prop
  | _, [] => True
  | c, x :: xs => ok c x ∧ ((g c x).1 = true → okFA g f ok (f (g c x).2 x).2 xs) ∧ ((g c x).1 = false → okFA g f ok (g c x).2 xs)
theorem mapA_length {f : γ → α → β × γ} : ∀ (xs : List α) (c : γ), (mapA f c xs).1.length = xs.length
  | [], _ => rfl
  | x :: xs, c => by simp [mapA, mapA_length xs]
theorem fmapA_length {g : γ → α → Bool × γ} {f : γ → α → β × γ} : ∀ (xs : List α) (c : γ), (fmapA g f c xs).1.length ≤ xs.length
  | [], _ => Nat.le_refl _
  | x :: xs, c => by
    unfold fmapA
    cases (g c x).1
    · exact Nat.le_trans (fmapA_length xs _) (by simp)
    · exact Nat.succ_le_succ (fmapA_length xs _)
theorem lcA_L {σ : γ → Store} {f : γ → α → β × γ} {ok : γ → α → Prop} {bind : D → Ev → Option Ev} {e0 : Ev} (h : ∀ c x, ok c x → ∃ e1, bind (en x) e0 = some e1 ∧ elt e1 (σ c) = some (en2 (f c x).1, σ (f c x).2)) : ∀ (xs : List α) (c : γ), okA f ok c xs →
    lcL bind mYes elt e0 (xs.map en) (σ c) = some ((mapA f c xs).1.map en2, σ (mapA f c xs).2)
  | [], _, _ => rfl
  | x :: xs, c, hk => by
    obtain ⟨e1, h1, h2⟩ := h c x hk.1
    simp only [List.map_cons, lcL, h1, Option.bind_some, mYes, if_true, h2, lcA_L h xs _ hk.2, mapA]
theorem lcA_E {σ : γ → Store} {f : γ → α → β × γ} {ok : γ → α → Prop} {c : γ} (hi : mi e S = some (.seq (xs.map en), σ c)) (hz : xs.length ≤ LIM) (hk : okA f ok c xs) (h : ∀ c x, ok c x → ∃ e1, t.f (en x) (wipeE e vs) = some e1 ∧ elt e1 (σ c) = some (en2 (f c x).1, σ (f c x).2)) :
    mLC mi t mYes elt vs e S = some ((mapA f c xs).1.map en2, σ (mapA f c xs).2) := by
  rw [r_LC hi, lcA_L h xs c hk]
  simp only [Option.bind_some]
  rw [if_pos (by rw [List.length_map, mapA_length]; exact hz)]
theorem lcFA_L {σ : γ → Store} {g : γ → α → Bool × γ} {f : γ → α → β × γ} {ok : γ → α → Prop} {bind : D → Ev → Option Ev} {e0 : Ev} (h : ∀ c x, ok c x → ∃ e1, bind (en x) e0 = some e1 ∧ tt e1 (σ c) = some ((g c x).1, σ (g c x).2) ∧ ((g c x).1 = true → elt e1 (σ (g c x).2) = some (en2 (f (g c x).2 x).1, σ (f (g c x).2 x).2))) : ∀ (xs : List α) (c : γ), okFA g f ok c xs →
    lcL bind tt elt e0 (xs.map en) (σ c) = some ((fmapA g f c xs).1.map en2, σ (fmapA g f c xs).2)
  | [], _, _ => rfl
  | x :: xs, c, hk => by
    obtain ⟨e1, h1, h2, h3⟩ := h c x hk.1
    simp only [List.map_cons, lcL, h1, Option.bind_some, h2, fmapA]
    cases hg : (g c x).1
    · simp only [Bool.false_eq_true, if_false, cond_false]
      exact lcFA_L h xs _ (hk.2.2 hg)
    · simp only [if_true, cond_true, h3 hg, Option.bind_some, lcFA_L h xs _ (hk.2.1 hg), List.map_cons]
theorem lcFA_E {σ : γ → Store} {g : γ → α → Bool × γ} {f : γ → α → β × γ} {ok : γ → α → Prop} {c : γ} (hi : mi e S = some (.seq (xs.map en), σ c)) (hz : xs.length ≤ LIM) (hk : okFA g f ok c xs) (h : ∀ c x, ok c x → ∃ e1, t.f (en x) (wipeE e vs) = some e1 ∧ tt e1 (σ c) = some ((g c x).1, σ (g c x).2) ∧ ((g c x).1 = true → elt e1 (σ (g c x).2) = some (en2 (f (g c x).2 x).1, σ (f (g c x).2 x).2))) :
    mLC mi t tt elt vs e S = some ((fmapA g f c xs).1.map en2, σ (fmapA g f c xs).2) := by
  rw [r_LC hi, lcFA_L h xs c hk]
  simp only [Option.bind_some]
  rw [if_pos (by rw [List.length_map]; exact Nat.le_trans (fmapA_length _ _) hz)]
/-! ### blocks -/
def PB (x : Option (Fl × Store)) (Q : Fl → Store → Prop) : Prop := ∃ fl S', x = some (fl, S') ∧ Q fl S'
variable {Q : Fl → Store → Prop} {s s1 s2 s3 : MS} {x : Bool} {c : MT}
theorem pb_ret (h : m e S = some (d, S1)) (q : Q (.rt d) S1) : PB (mRet m e S) Q := ⟨_, _, ret_of h, q⟩
theorem pb_seq_ret (h : m e S = some (d, S1)) (q : Q (.rt d) S1) : PB (mSeq (mRet m) s e S) Q := ⟨_, _, seq_rt (ret_of h), q⟩
theorem pb_end (h : s e S = some (.nx e1, S1)) (q : Q (.nx e1) S1) : PB (s e S) Q := ⟨_, _, h, q⟩
theorem pb_skip (q : Q (.nx e) S) : PB (mSkip e S) Q := ⟨_, _, rfl, q⟩
theorem pb_bk (q : Q (.bk e) S) : PB (mBk e S) Q := ⟨_, _, rfl, q⟩
theorem pb_ct (q : Q (.ct e) S) : PB (mCt e S) Q := ⟨_, _, rfl, q⟩
theorem pb_seq_bk (q : Q (.bk e) S) : PB (mSeq mBk s e S) Q := ⟨_, _, seq_bk rfl, q⟩
theorem pb_seq_ct (q : Q (.ct e) S) : PB (mSeq mCt s e S) Q := ⟨_, _, rfl, q⟩
theorem pb_seq (h : s e S = some (.nx e1, S1)) (q : PB (s1 e1 S1) Q) : PB (mSeq s s1 e S) Q := by
  rw [seq_nx h rfl]; exact q
theorem pb_assoc (q : PB (mSeq s (mSeq s1 s2) e S) Q) : PB (mSeq (mSeq s s1) s2 e S) Q := by
  have e1 : mSeq (mSeq s s1) s2 e S = mSeq s (mSeq s1 s2) e S := by
    unfold mSeq
    cases s e S with
    | none => rfl
    | some z =>
      obtain ⟨f, S1⟩ := z
      cases f <;> rfl
  rw [e1]; exact q
theorem pb_seq_skip (q : PB (s e S) Q) : PB (mSeq mSkip s e S) Q := pb_seq rfl q
theorem pb_if {Q : α → Fl → Store → Prop} {p q : α} (hc : c e S = some (x, S1)) (h1 : x = true → PB (s e S1) (Q p)) (h2 : x = false → PB (s1 e S1) (Q q)) : PB (mIfS c s s1 e S) (Q (bif x then p else q)) := by
  rw [r_IfS, hc]; cases x with
  | true => exact h1 rfl
  | false => exact h2 rfl
theorem pb_seq_if {Q : α → Fl → Store → Prop} {p q : α} (hc : c e S = some (x, S1)) (h1 : x = true → PB (mSeq s s2 e S1) (Q p)) (h2 : x = false → PB (mSeq s1 s2 e S1) (Q q)) : PB (mSeq (mIfS c s s1) s2 e S) (Q (bif x then p else q)) := by
  have e1 : mSeq (mIfS c s s1) s2 e S = (if x = true then mSeq s s2 e S1 else mSeq s1 s2 e S1) := by
    unfold mSeq
    rw [r_IfS, hc]; cases x <;> rfl
  rw [e1]; cases x with
  | true => exact h1 rfl
  | false => exact h2 rfl
/-- an if that only sets -/
theorem ifs_join {E : Bool → Ev} {σ : Bool → Store} (hc : c e S = some (x, S1)) (h1 : x = true → s e S1 = some (.nx (E true), σ true)) (h2 : x = false → s1 e S1 = some (.nx (E false), σ false)) : mIfS c s s1 e S = some (.nx (E x), σ x) := by
  rw [r_IfS, hc]; cases x with
  | true => exact h1 rfl
  | false => exact h2 rfl
theorem asg_tp {is : List Nat} {ds : List D} (h : m e S = some (.tup ds, S1)) (hl : ds.length = is.length) : mAsg m (.tp is) e S = some (.nx (setAll is ds e), S1) := by
  rw [r_Asg, h]; simp only [Option.bind_some, r_tp]; rw [if_pos hl]; rfl
theorem par_E {k l : Nat} (h : ms e S = some ([d1, d2], S1)) : mPar k l ms e S = some (.nx ((e.set k (some d1)).set l (some d2)), S1) := by
  rw [r_Par, h]; rfl
theorem aug_I {k : Nat} (hk : e[k]? = some (some (.int i))) (h : m e S = some (.int j, S1)) : mAug k m fAddI e S = some (.nx (e.set k (some (.int (i + j)))), S1) := by
  unfold mAug; rw [hk]; simp only; rw [h]; rfl
theorem aug_S {k : Nat} (hk : e[k]? = some (some (.int i))) (h : m e S = some (.int j, S1)) : mAug k m fSub e S = some (.nx (e.set k (some (.int (i - j)))), S1) := by
  unfold mAug; rw [hk]; simp only; rw [h]; rfl
theorem app_E {p : Nat} {y : α} (ho : ma e S = some (.ref p, S)) (h : m e S = some (en y, S)) (hp : S[p]? = some (.lst (xs.map en))) (hz : xs.length < LIM) : mDrop (mMt' fAppend ma (mCons m mNil)) e S = some (.nx e, S.set p (.lst ((xs ++ [y]).map en))) := by
  refine drop_of (d := .non) ?_
  unfold mMt'
  rw [ho]; simp only [Option.bind_some]; rw [hp]; simp only
  rw [one_of h]; simp only [Option.bind_some]; rw [hp]; simp only [fAppend, Option.bind_some]
  rw [if_pos (by simpa using hz)]
  simp
theorem set_E {p : Nat} {y : α} {ma mb : ME} (h : m e S = some (en y, S1)) (ho : ma e S1 = some (.ref p, S2)) (hi : mb e S2 = some (.int i, S3)) (hp : S3[p]? = some (.lst (xs.map en))) (hr : InR xs i) : mSetIx m ma mb e S = some (.nx e, S3.set p (.lst ((setZ xs i y).map en))) := by
  rw [setix_of h ho hi hp (by rw [List.length_map]; exact (ixN_Z hr).1)]
  unfold setZ; rw [List.map_set]
/-! ### a store with some lists of its own behind -/
theorem get_app {L : Store} {k : Nat} : (S ++ L)[S.length + k]? = L[k]? := by
  rw [List.getElem?_append_right (by omega)]; congr 1; omega
theorem set_app {L : Store} {k : Nat} {o : Ob} : (S ++ L).set (S.length + k) o = S ++ L.set k o := by
  rw [List.set_append_right _ _ (by omega)]; congr 2; omega
/-! ### for -/
inductive Lo (T R : Type) where
  | nx (t : T)
  | bk (t : T)
  | rt (r : R)
def Lo.fin {T R : Type} (k : T → R) : Lo T R → R
  | .nx t => k t
  | .bk t => k t
  | .rt r => r
def forP {α T R : Type} (step : T → α → Lo T R) : T → List α → Lo T R
  | t, [] => .nx t
  | t, x :: xs => match step t x with
    | .nx t' => forP step t' xs
    | .bk t' => .nx t'
    | .rt r => .rt r
def okFor {α T R : Type} (ok : T → α → Prop) (step : T → α → Lo T R) : T → List α → Prop
  | _, [] => True
  | t, x :: xs => ok t x ∧ match step t x with
    | .nx t' => okFor ok step t' xs
    | _ => True
def okFold {α T : Type} (ok : T → α → Prop) (step : T → α → T) : T → List α → Prop
  | _, [] => True
  | t, x :: xs => ok t x ∧ okFold ok step (step t x) xs
/-- how a loop's body ends -/
def LQ {T R J : Type} (E : T → J → Ev) (σ : T → J → Store) (QR : R → Fl → Store → Prop) : Lo T R → Fl → Store → Prop
  | .nx t, fl, S' => ∃ j, (fl = .nx (E t j) ∨ fl = .ct (E t j)) ∧ S' = σ t j
  | .bk t, fl, S' => ∃ j, fl = .bk (E t j) ∧ S' = σ t j
  | .rt r, fl, S' => (∃ d, fl = .rt d) ∧ QR r fl S'
/-- how a loop ends -/
def FQ {T R J : Type} (E : T → J → Ev) (σ : T → J → Store) (QR : R → Fl → Store → Prop) : Lo T R → Fl → Store → Prop
  | .nx t, fl, S' => ∃ j, fl = .nx (E t j) ∧ S' = σ t j
  | .bk _, _, _ => False
  | .rt r, fl, S' => (∃ d, fl = .rt d) ∧ QR r fl S'
theorem forL_P {E : T → J → Ev} {σ : T → J → Store} {QR : R → Fl → Store → Prop} {step : T → α → Lo T R} {ok : T → α → Prop} {bind : D → Ev → Option Ev} {body : MS}
    (h : ∀ t j x, ok t x → ∃ e1, bind (en x) (E t j) = some e1 ∧ PB (body e1 (σ t j)) (LQ E σ QR (step t x))) : ∀ (xs : List α) (t : T) (j : J), okFor ok step t xs → PB (forL bind body (xs.map en) (E t j) (σ t j)) (FQ E σ QR (forP step t xs))
  | [], t, j, _ => ⟨_, _, rfl, j, rfl, rfl⟩
  | x :: xs, t, j, hk => by
    obtain ⟨e1, h1, fl, S', h2, h3⟩ := h t j x hk.1
    have hk2 := hk.2
    simp only [List.map_cons, forL, h1, Option.bind_some, h2, forP]
    cases hs : step t x with
    | nx t' =>
      rw [hs] at h3 hk2
      obtain ⟨j', h4, h5⟩ := h3
      subst h5
      rcases h4 with rfl | rfl <;> exact forL_P h xs t' j' hk2
    | bk t' =>
      rw [hs] at h3
      obtain ⟨j', rfl, rfl⟩ := h3
      exact ⟨_, _, rfl, j', rfl, rfl⟩
    | rt r =>
      rw [hs] at h3
      obtain ⟨⟨d, rfl⟩, h4⟩ := h3
      exact ⟨_, _, rfl, ⟨d, rfl⟩, h4⟩
theorem forL_F {E : T → J → Ev} {σ : T → J → Store} {step : T → α → T} {ok : T → α → Prop} {bind : D → Ev → Option Ev} {body : MS}
    (h : ∀ t j x, ok t x → ∃ e1, bind (en x) (E t j) = some e1 ∧ PB (body e1 (σ t j)) (LQ E σ (fun (_ : Empty) _ _ => False) (.nx (step t x)))) : ∀ (xs : List α) (t : T) (j : J), okFold ok step t xs → ∃ j', forL bind body (xs.map en) (E t j) (σ t j) = some (.nx (E (xs.foldl step t) j'), σ (xs.foldl step t) j')
  | [], t, j, _ => ⟨j, rfl⟩
  | x :: xs, t, j, hk => by
    obtain ⟨e1, h1, fl, S', h2, j1, h4, h5⟩ := h t j x hk.1
    obtain ⟨j', h6⟩ := forL_F h xs (step t x) j1 hk.2
    refine ⟨j', ?_⟩
    simp only [List.map_cons, forL, h1, Option.bind_some, h2, List.foldl_cons]
    subst h5
    rcases h4 with rfl | rfl <;> exact h6
/-- the loop over a list of the store that is not changed in it -/
theorem forGo_live {E : T → J → Ev} {σ : T → J → Store} {QR : R → Fl → Store → Prop} {step : T → α → Lo T R} {ok : T → α → Prop} {bind : D → Ev → Option Ev} {body : MS} {q N : Nat} {xs : List α} (hS : ∀ t j, (σ t j)[q]? = some (.lst (xs.map en)))
    (h : ∀ t j x, ok t x → ∃ e1, bind (en x) (E t j) = some e1 ∧ PB (body e1 (σ t j)) (LQ E σ QR (step t x))) : ∀ (n i : Nat) (t : T) (j : J), xs.length = i + n → okFor ok step t (xs.drop i) → PB (forGo (Src.live q N).get bind body n i (E t j) (σ t j)) (FQ E σ QR (forP step t (xs.drop i)))
  | 0, i, t, j, hl, _ => by
    have e : xs.drop i = [] := List.drop_eq_nil_of_le (by omega)
    have hg : (Src.live q N).get i (σ t j) = some none := by simp only [Src.live]; rw [hS]; simp only; rw [List.getElem?_eq_none (by rw [List.length_map]; omega)]
    rw [e]
    refine ⟨_, _, ?_, j, rfl, rfl⟩
    simp only [forGo, hg]
  | n + 1, i, t, j, hl, hk => by
    have hi : i < xs.length := by omega
    have hg : (Src.live q N).get i (σ t j) = some (some (en xs[i])) := by simp only [Src.live]; rw [hS]; simp only; rw [List.getElem?_map, List.getElem?_eq_getElem hi]; rfl
    rw [List.drop_eq_getElem_cons hi] at hk ⊢
    obtain ⟨e1, h1, fl, S', h2, h3⟩ := h t j xs[i] hk.1
    have hk2 := hk.2
    simp only [forGo, hg, h1, Option.bind_some, h2, forP]
    cases hs : step t xs[i] with
    | nx t' =>
      rw [hs] at h3 hk2
      obtain ⟨j', h4, h5⟩ := h3
      subst h5
      rcases h4 with rfl | rfl <;> exact forGo_live hS h n (i + 1) t' j' (by omega) hk2
    | bk t' =>
      rw [hs] at h3
      obtain ⟨j', rfl, rfl⟩ := h3
      exact ⟨_, _, rfl, j', rfl, rfl⟩
    | rt r =>
      rw [hs] at h3
      obtain ⟨⟨d, rfl⟩, h4⟩ := h3
      exact ⟨_, _, rfl, ⟨d, rfl⟩, h4⟩
/-- a loop that only folds, and what comes behind it -/
theorem for_F {E : T → J → Ev} {σ : T → J → Store} {step : T → α → T} {ok : T → α → Prop} {body : MS} {t0 : T} {j0 : J} (hi : mi e S = some (.seq (xs.map en), S1)) (he : e = E t0 j0) (hs : S1 = σ t0 j0) (hk : okFold ok step t0 xs)
    (h : ∀ t' j x, ok t' x → ∃ e1, t.f (en x) (E t' j) = some e1 ∧ PB (body e1 (σ t' j)) (LQ E σ (fun (_ : Empty) _ _ => False) (.nx (step t' x)))) : ∃ j', mFor mi t body e S = some (.nx (E (xs.foldl step t0) j'), σ (xs.foldl step t0) j') := by
  subst he hs
  obtain ⟨j', h1⟩ := forL_F h xs t0 j0 hk
  exact ⟨j', by rw [r_For hi, h1]⟩
theorem pb_for_F {E : T → J → Ev} {σ : T → J → Store} {step : T → α → T} {ok : T → α → Prop} {body : MS} {t0 : T} {j0 : J} (hi : mi e S = some (.seq (xs.map en), S1)) (he : e = E t0 j0) (hs : S1 = σ t0 j0) (hk : okFold ok step t0 xs)
    (h : ∀ t' j x, ok t' x → ∃ e1, t.f (en x) (E t' j) = some e1 ∧ PB (body e1 (σ t' j)) (LQ E σ (fun (_ : Empty) _ _ => False) (.nx (step t' x)))) (q : ∀ j, PB (s (E (xs.foldl step t0) j) (σ (xs.foldl step t0) j)) Q) : PB (mSeq (mFor mi t body) s e S) Q := by
  obtain ⟨j, h1⟩ := for_F (body := body) (t := t) hi he hs hk h
  exact pb_seq h1 (q j)
theorem pb_for_P {E : T → J → Ev} {σ : T → J → Store} {QR : R → Fl → Store → Prop} {step : T → α → Lo T R} {ok : T → α → Prop} {body : MS} {t0 : T} {j0 : J} {k : T → R} (hi : mi e S = some (.seq (xs.map en), S1)) (he : e = E t0 j0) (hs : S1 = σ t0 j0) (hk : okFor ok step t0 xs)
    (h : ∀ t' j x, ok t' x → ∃ e1, t.f (en x) (E t' j) = some e1 ∧ PB (body e1 (σ t' j)) (LQ E σ QR (step t' x))) (q : ∀ t' j, forP step t0 xs = .nx t' → PB (s (E t' j) (σ t' j)) (QR (k t'))) : PB (mSeq (mFor mi t body) s e S) (QR ((forP step t0 xs).fin k)) := by
  subst he hs
  obtain ⟨fl, S', h1, h2⟩ := forL_P h xs t0 j0 hk
  have h3 : mFor mi t body (E t0 j0) S = some (fl, S') := by rw [r_For hi, h1]
  cases ho : forP step t0 xs with
  | nx t' =>
    rw [ho] at h2
    obtain ⟨j', rfl, rfl⟩ := h2
    exact pb_seq h3 (q t' j' ho)
  | bk t' => rw [ho] at h2; cases h2
  | rt r =>
    rw [ho] at h2
    obtain ⟨⟨d, rfl⟩, h4⟩ := h2
    exact ⟨_, _, seq_rt h3, h4⟩
theorem pb_forR_P {E : T → J → Ev} {σ : T → J → Store} {QR : R → Fl → Store → Prop} {step : T → α → Lo T R} {ok : T → α → Prop} {body : MS} {t0 : T} {j0 : J} {k : T → R} {p : Nat} (hi : mi e S = some (.live p xs.length, S1)) (he : e = E t0 j0) (hs : S1 = σ t0 j0) (hS : ∀ t j, (σ t j)[p]? = some (.lst (xs.map en))) (hk : okFor ok step t0 xs)
    (h : ∀ t' j x, ok t' x → ∃ e1, t.f (en x) (E t' j) = some e1 ∧ PB (body e1 (σ t' j)) (LQ E σ QR (step t' x))) (q : ∀ t' j, forP step t0 xs = .nx t' → PB (s (E t' j) (σ t' j)) (QR (k t'))) : PB (mSeq (mFor mi t body) s e S) (QR ((forP step t0 xs).fin k)) := by
  subst he hs
  have := forGo_live (N := xs.length) hS h xs.length 0 t0 j0 (by omega) (by rw [List.drop_zero]; exact hk)
  rw [List.drop_zero] at this
  obtain ⟨fl, S', h1, h2⟩ := this
  have h3 : mFor mi t body (E t0 j0) S = some (fl, S') := by unfold mFor; rw [hi]; exact h1
  cases ho : forP step t0 xs with
  | nx t' =>
    rw [ho] at h2
    obtain ⟨j', rfl, rfl⟩ := h2
    exact pb_seq h3 (q t' j' ho)
  | bk t' => rw [ho] at h2; cases h2
  | rt r =>
    rw [ho] at h2
    obtain ⟨⟨d, rfl⟩, h4⟩ := h2
    exact ⟨_, _, seq_rt h3, h4⟩
/-! ### while -/
def whileP {T R : Type} (cond : T → Bool) (step : T → Lo T R) : Nat → T → Lo T R
  | 0, t => .nx t
  | n + 1, t => bif cond t then (match step t with
    | .nx t' => whileP cond step n t'
    | .bk t' => .nx t'
    | .rt r => .rt r) else .nx t
def okWhile {T R : Type} (okc : T → Prop) (ok : T → Prop) (cond : T → Bool) (step : T → Lo T R) : Nat → T → Prop
  | 0, _ => False
  | n + 1, t => okc t ∧ (cond t = true → ok t ∧ match step t with
    | .nx t' => okWhile okc ok cond step n t'
    | _ => True)
theorem whileGo_P {E : T → J → Ev} {σ : T → J → Store} {QR : R → Fl → Store → Prop} {cond : T → Bool} {step : T → Lo T R} {okc ok : T → Prop} {body : MS}
    (hc : ∀ t j, okc t → c (E t j) (σ t j) = some (cond t, σ t j)) (h : ∀ t j, ok t → PB (body (E t j) (σ t j)) (LQ E σ QR (step t))) : ∀ (n : Nat) (t : T) (j : J), okWhile okc ok cond step n t → PB (whileGo c body n (E t j) (σ t j)) (FQ E σ QR (whileP cond step n t))
  | 0, t, j, hk => hk.elim
  | n + 1, t, j, hk => by
    simp only [whileGo, hc t j hk.1, Option.bind_some, whileP]
    cases hb : cond t with
    | false => exact ⟨_, _, rfl, j, rfl, rfl⟩
    | true =>
      obtain ⟨h1, h2⟩ := hk.2 hb
      obtain ⟨fl, S', h3, h4⟩ := h t j h1
      simp only [if_true, h3, Option.bind_some, cond_true]
      cases hs : step t with
      | nx t' =>
        rw [hs] at h4 h2
        obtain ⟨j', h5, h6⟩ := h4
        subst h6
        rcases h5 with rfl | rfl <;> exact whileGo_P hc h n t' j' h2
      | bk t' =>
        rw [hs] at h4
        obtain ⟨j', rfl, rfl⟩ := h4
        exact ⟨_, _, rfl, j', rfl, rfl⟩
      | rt r =>
        rw [hs] at h4
        obtain ⟨⟨d, rfl⟩, h5⟩ := h4
        exact ⟨_, _, rfl, ⟨d, rfl⟩, h5⟩
theorem pb_while {E : T → J → Ev} {σ : T → J → Store} {QR : R → Fl → Store → Prop} {cond : T → Bool} {step : T → Lo T R} {okc ok : T → Prop} {body : MS} {t0 : T} {j0 : J} {k : T → R} {n : Nat} (he : e = E t0 j0) (hs : S = σ t0 j0) (hk : okWhile okc ok cond step n t0)
    (hc : ∀ t j, okc t → c (E t j) (σ t j) = some (cond t, σ t j)) (h : ∀ t j, ok t → PB (body (E t j) (σ t j)) (LQ E σ QR (step t))) (q : ∀ t' j, whileP cond step n t0 = .nx t' → PB (s (E t' j) (σ t' j)) (QR (k t'))) : PB (mSeq (mWhile n c body) s e S) (QR ((whileP cond step n t0).fin k)) := by
  subst he hs
  obtain ⟨fl, S', h3, h2⟩ := whileGo_P hc h n t0 j0 hk
  have h3 : mWhile n c body (E t0 j0) (σ t0 j0) = some (fl, S') := h3
  cases ho : whileP cond step n t0 with
  | nx t' =>
    rw [ho] at h2
    obtain ⟨j', rfl, rfl⟩ := h2
    exact pb_seq h3 (q t' j' ho)
  | bk t' => rw [ho] at h2; cases h2
  | rt r =>
    rw [ho] at h2
    obtain ⟨⟨d, rfl⟩, h4⟩ := h2
    exact ⟨_, _, seq_rt h3, h4⟩
/-! ### a def -/
/-- what a def's block must end with: it gives v -/
def RQ (m : Mode) (S : Store) (ρ : α → D × Store) (v : α) : Fl → Store → Prop := fun fl S' => match fl with
  | .rt d => fin m S d S' = some (ρ v)
  | .nx _ => fin m S .non S' = some (ρ v)
  | _ => False
theorem fn_P {nN np : Nat} {m : Mode} {body : MS} {ds : List D} {S : Store} {ρ : α → D × Store} {v : α} (hl : ds.length = np) (hb : PB (body (ds.map some ++ List.replicate (nN - np) none) S) (RQ m S ρ v)) : fnM nN np m body ds S = some (ρ v) := by
  obtain ⟨fl, S', h1, h2⟩ := hb
  unfold fnM; rw [if_pos hl, h1]
  cases fl with
  | rt d => exact h2
  | nx e => exact h2
  | bk e => cases h2
  | ct e => cases h2
/-- lists of the store that a def gives back -/
theorem fin_ref {L : Store} {k : Nat} {xs : List α} (hk : L[k]? = some (.lst (xs.map en))) (hf : Fit 10 en) : fin .pure S (.ref (S.length + k)) (S ++ L) = some (eL en xs, S) := by
  unfold fin
  have h1 : (S ++ L).take S.length = S := by simp
  simp only
  rw [if_pos h1]
  have h2 : ¬ S.length + k < S.length := by omega
  have h3 : frz S.length (S ++ L) 12 (.ref (S.length + k)) = some (eL en xs) := by
    unfold frz
    rw [if_neg h2, get_app, hk]
    simp only
    have : ∀ xs : List α, frz.frzL S.length (S ++ L) 11 (xs.map en) = some (xs.map en) := by
      intro xs
      induction xs with
      | nil => simp only [List.map_nil, frz.frzL]
      | cons x xs ih => simp only [List.map_cons, frz.frzL]; rw [frz_fit 10 _ _ _ (hf x), ih]; rfl
    rw [this]; rfl
  rw [h3]; rfl
end
end DV

/-! DVw: the cursor of the laws, and values that are spoilt. -/
namespace DV
open PySem PySem.Spec PyProof.Rows L2
structure Cu where
  cells : List Int
  pos : Nat
  a : Int
  b : Int
  ok : pos ≤ cells.length
def Cu.ob (c : Cu) : Ob := .lst [.lst (c.cells.map D.int), .int c.pos, .int c.a, .int c.b, .int 20]
instance : Inhabited Cu := ⟨⟨[], 0, 0, 0, Nat.le_refl _⟩⟩
abbrev obO (cells : List Int) (pos : Nat) (a b : Int) (L : Store) : Store := .lst [.lst (cells.map D.int), .int pos, .int a, .int b, .int 20] :: L
theorem atI_last {cells : List Int} (h : cells ≠ []) : ∃ z : Int, atI (cells.map D.int) (-1) = some (.int z) := by
  have hl : 0 < cells.length := List.length_pos_iff.mpr h
  have e : ((cells.length : Int) + -1).toNat = cells.length - 1 := by omega
  refine ⟨cells[cells.length - 1], ?_⟩
  have hx : ixN (cells.map D.int).length (-1) = some (cells.length - 1) := by
    rw [List.length_map]
    unfold ixN
    rw [if_neg (by decide), if_pos (by omega)]
    congr 1
  unfold atI
  rw [hx]
  simp [List.getElem?_eq_getElem (show cells.length - 1 < cells.length by omega)]
def curT1 : MS := mIfS (mAnd (mTru (mBin fIx (mV 0) (mC (.int 0)))) (mTV (mBin fGeD (mBin fIx (mV 0) (mC (.int 1))) (mCB fLen (mCons (mBin fIx (mV 0) (mC (.int 0))) mNil))))) (mAsg (mBin fAdd (mV 1) (mBin fMod (mCB fInt (mCons (mBin fIx (mBin fIx (mV 0) (mC (.int 0))) (mUn fNeg (mC (.int 1)))) mNil)) (mC (.int 1000003)))) (.nm 1)) mSkip
def curT2 : MS := mSeq (mAsg (mBin fMod (mCB fInt (mCons (mBin fAdd (mBin fMul (mV 1) (mC (.int 48271))) (mBin fMul (mBin fIx (mV 0) (mC (.int 3))) (mC (.int 69621)))) mNil)) (mC (.int 2147483647))) (.nm 1))
    (mRet (mBin fAdd (mBin fDiv (mCB fInt (mCons (mBin fAdd (mBin fAdd (mBin fMul (mV 1) (mV 1)) (mBin fMul (mBin fIx (mV 0) (mC (.int 3))) (mC (.int 7919)))) (mC (.int 11))) mNil)) (mC (.int 64))) (mC (.int 36028797018963968))))
def curFA : MS := mSeq (mSetIx (mBin fAdd (mBin fIx (mV 0) (mC (.int 3))) (mC (.int 1))) (mV 0) (mC (.int 3)))
    (mSeq (mAsg (mBin fAdd (mBin fMul (mBin fIx (mV 0) (mC (.int 3))) (mC (.int 69621))) (mC (.int 12345))) (.nm 1))
    (mSeq (mIfS (mTV (mBin fLtD (mBin fIx (mV 0) (mC (.int 1))) (mCB fLen (mCons (mBin fIx (mV 0) (mC (.int 0))) mNil)))) (mSeq (mAsg (mBin fIx (mBin fIx (mV 0) (mC (.int 0))) (mBin fIx (mV 0) (mC (.int 1)))) (.nm 1))
    (mSeq (mSetIx (mBin fAdd (mBin fIx (mV 0) (mC (.int 1))) (mC (.int 1))) (mV 0) (mC (.int 1)))
    (mSeq (mIfS (mTV (mBin fLtD (mV 1) (mC (.int 0)))) (mAsg (mBin fSub (mBin fSub (mC (.int 0)) (mC (.int 1))) (mV 1)) (.nm 1)) mSkip)
    (mIfS (mTV (mBin fGeD (mV 1) (mBin fPow (mC (.int 10)) (mC (.int 18))))) (mRet (mV 1)) mSkip)))) mSkip)
    (mSeq curT1 curT2)))
def curFB : MS := mSeq (mSetIx (mBin fAdd (mBin fIx (mV 0) (mC (.int 3))) (mC (.int 1))) (mV 0) (mC (.int 3)))
    (mSeq (mAsg (mBin fAdd (mBin fMul (mBin fIx (mV 0) (mC (.int 3))) (mC (.int 69621))) (mC (.int 12345))) (.nm 1))
    (mSeq (mIfS (mTV (mBin fLtD (mBin fIx (mV 0) (mC (.int 1))) (mCB fLen (mCons (mBin fIx (mV 0) (mC (.int 0))) mNil)))) (mSeq (mAsg (mCB fMaxA (mCons (mBin fIx (mBin fIx (mV 0) (mC (.int 0))) (mBin fIx (mV 0) (mC (.int 1)))) (mCons (mBin fSub (mBin fSub (mC (.int 0)) (mC (.int 1))) (mBin fIx (mBin fIx (mV 0) (mC (.int 0))) (mBin fIx (mV 0) (mC (.int 1))))) mNil))) (.nm 1))
    (mSeq (mSetIx (mBin fAdd (mBin fIx (mV 0) (mC (.int 1))) (mC (.int 1))) (mV 0) (mC (.int 1)))
    (mIfS (mTV (mBin fGeD (mV 1) (mBin fPow (mC (.int 10)) (mC (.int 18))))) (mRet (mV 1)) mSkip))) mSkip)
    (mSeq curT1 curT2)))
section
variable {cells : List Int} {pos : Nat} {a b x : Int} {L : Store}
theorem cix0 {i : Int} {d : D} {e : Ev} (h : atI [.lst (cells.map D.int), .int pos, .int a, .int b, .int 20] i = some d) (he : e[0]? = some (some (.ref 0))) : mBin fIx (mV 0) (mC (.int i)) e (obO cells pos a b L) = some (d, obO cells pos a b L) := by
  refine bin_of (a := .ref 0) (S1 := obO cells pos a b L) ?_ rfl ?_
  · rw [r_V, he]
  · rw [DV.ix_ref, seq_ref]
    show (some [D.lst (cells.map D.int), .int pos, .int a, .int b, .int 20]).bind _ = _
    rw [Option.bind_some, h]; rfl
theorem curT1_eq (cells : List Int) (pos : Nat) (a b x : Int) : ∃ y : Int, ∀ L, curT1 [some (.ref 0), some (.int x)] (obO cells pos a b L) = some (.nx [some (.ref 0), some (.int y)], obO cells pos a b L) := by
  have ht : ∀ L, mTru (mBin fIx (mV 0) (mC (.int 0))) [some (.ref 0), some (.int x)] (obO cells pos a b L) = some (!(cells.map D.int).isEmpty, obO cells pos a b L) := fun L => tru_of (cix0 rfl rfl) rfl
  have hg : ∀ L, mTV (mBin fGeD (mBin fIx (mV 0) (mC (.int 1))) (mCB fLen (mCons (mBin fIx (mV 0) (mC (.int 0))) mNil))) [some (.ref 0), some (.int x)] (obO cells pos a b L) = some (decide ((cells.length : Int) ≤ pos), obO cells pos a b L) := by
    intro L
    refine tv_of (bin_of (cix0 rfl rfl) (cb_of (one_of (cix0 rfl rfl)) rfl) ?_)
    simp
  by_cases hc : cells = []
  · exact ⟨x, fun L => ifs_of (b := false) (and_of (ht L) (by rw [hc]; rfl)) rfl⟩
  · by_cases hp : (cells.length : Int) ≤ pos
    · obtain ⟨z, hz⟩ := atI_last hc
      have hz1 : ∀ L, mBin fIx (mBin fIx (mV 0) (mC (.int 0))) (mUn fNeg (mC (.int 1))) [some (.ref 0), some (.int x)] (obO cells pos a b L) = some (.int z, obO cells pos a b L) := by
        intro L
        refine bin_of (cix0 rfl rfl) (S2 := obO cells pos a b L) (b := .int (-1)) rfl ?_
        rw [DV.ix_lst, hz]; rfl
      refine ⟨x + z % 1000003, fun L => ifs_of (b := true) (and_of (ht L) ?_) (asg_of (bin_of (S1 := obO cells pos a b L) (S2 := obO cells pos a b L) (b := .int (z % 1000003)) rfl (bin_of (cb_of (one_of (hz1 L)) r_int) rfl (mod_of (by decide))) rfl))⟩
      have : (!(cells.map D.int).isEmpty) = true := by cases cells <;> simp_all
      rw [this, if_pos rfl, hg, decide_eq_true hp]
    · refine ⟨x, fun L => ifs_of (b := false) (and_of (ht L) ?_) rfl⟩
      have : (!(cells.map D.int).isEmpty) = true := by cases cells <;> simp_all
      rw [this, if_pos rfl, hg, decide_eq_false hp]
theorem curT2_eq (cells : List Int) (pos : Nat) (a b x : Int) : ∃ y : Int, ∀ L, curT2 [some (.ref 0), some (.int x)] (obO cells pos a b L) = some (.rt (.int y), obO cells pos a b L) := by
  have hm : ∀ z : Int, I64 (z % 2147483647) := fun z => by
    have h1 := Int.emod_nonneg z (b := 2147483647) (by decide)
    have h2 := Int.emod_lt_of_pos z (b := 2147483647) (by decide)
    have e : (2 : Int) ^ 64 = 18446744073709551616 := by decide
    simp only [I64, e]
    omega
  refine ⟨_, fun L => seq_nx (asg_of (bin_of (cb_of (one_of (bin_of (bin_of rfl rfl (mul_of (.inr (by decide)))) (bin_of (cix0 rfl rfl) rfl (mul_of (.inr (by decide)))) rfl)) rfl) rfl (mod_of (by decide)))) (ret_of (bin_of (bin_of (cb_of (one_of (bin_of (bin_of (bin_of rfl rfl (mul_of (.inl (hm _)))) (bin_of (cix0 rfl rfl) rfl (mul_of (.inr (by decide)))) rfl) rfl rfl)) rfl) rfl (div_of (by decide) (by decide))) rfl rfl))⟩
def FillOk (F : Fn) : Prop := ∀ cells pos a b, pos ≤ cells.length → ∃ r pos' b', pos' ≤ cells.length ∧ ∀ L, F [.ref 0] (obO cells pos a b L) = some (.int r, obO cells pos' a b' L)
theorem fillA_ok : FillOk (fnM 2 1 .keep curFA) := by
  intro cells pos a b hp
  have hstep : ∀ L, mSetIx (mBin fAdd (mBin fIx (mV 0) (mC (.int 3))) (mC (.int 1))) (mV 0) (mC (.int 3)) [some (.ref 0), none] (obO cells pos a b L) = some (.nx [some (.ref 0), none], obO cells pos a (b + 1) L) := fun L =>
    setix_of (S3 := obO cells pos a b L) (p := 0) (j := 3) (xs := [.lst (cells.map D.int), .int pos, .int a, .int b, .int 20]) (d := .int (b + 1)) (bin_of (cix0 rfl rfl) rfl rfl) rfl rfl rfl rfl
  have hnum : ∀ L, mAsg (mBin fAdd (mBin fMul (mBin fIx (mV 0) (mC (.int 3))) (mC (.int 69621))) (mC (.int 12345))) (.nm 1) [some (.ref 0), none] (obO cells pos a (b + 1) L) = some (.nx [some (.ref 0), some (.int ((b + 1) * 69621 + 12345))], obO cells pos a (b + 1) L) := fun L =>
    asg_of (bin_of (bin_of (cix0 rfl rfl) rfl (mul_of (.inr (by decide)))) rfl rfl)
  have hif : ∀ L, mTV (mBin fLtD (mBin fIx (mV 0) (mC (.int 1))) (mCB fLen (mCons (mBin fIx (mV 0) (mC (.int 0))) mNil))) [some (.ref 0), some (.int ((b + 1) * 69621 + 12345))] (obO cells pos a (b + 1) L) = some (decide ((pos : Int) < cells.length), obO cells pos a (b + 1) L) := by
    intro L
    refine tv_of (bin_of (cix0 rfl rfl) (cb_of (one_of (cix0 rfl rfl)) rfl) ?_)
    simp
  by_cases hl : pos < cells.length
  · have hix : ∀ L, mBin fIx (mBin fIx (mV 0) (mC (.int 0))) (mBin fIx (mV 0) (mC (.int 1))) [some (.ref 0), some (.int ((b + 1) * 69621 + 12345))] (obO cells pos a (b + 1) L) = some (.int cells[pos], obO cells pos a (b + 1) L) := by
      intro L
      refine bin_of (cix0 rfl rfl) (cix0 rfl rfl) ?_
      rw [DV.ix_lst, atI_map hl]; rfl
    have hst : ∀ L, mSetIx (mBin fAdd (mBin fIx (mV 0) (mC (.int 1))) (mC (.int 1))) (mV 0) (mC (.int 1)) [some (.ref 0), some (.int cells[pos])] (obO cells pos a (b + 1) L) = some (.nx [some (.ref 0), some (.int cells[pos])], obO cells (pos + 1) a (b + 1) L) := fun L =>
      setix_of (S3 := obO cells pos a (b + 1) L) (p := 0) (j := 1) (xs := [.lst (cells.map D.int), .int pos, .int a, .int (b + 1), .int 20]) (d := .int ((pos : Int) + 1)) (bin_of (cix0 rfl rfl) rfl rfl) rfl rfl rfl rfl
    have hab : ∀ x : Int, ∃ y : Int, ∀ L, mIfS (mTV (mBin fLtD (mV 1) (mC (.int 0)))) (mAsg (mBin fSub (mBin fSub (mC (.int 0)) (mC (.int 1))) (mV 1)) (.nm 1)) mSkip [some (.ref 0), some (.int x)] (obO cells (pos + 1) a (b + 1) L) = some (.nx [some (.ref 0), some (.int y)], obO cells (pos + 1) a (b + 1) L) := fun x => by
      by_cases hx : x < 0
      · exact ⟨_, fun L => ifs_of (b := true) (tv_of (bin_of rfl rfl (lt_of (decide_eq_true hx)))) (asg_of (bin_of (bin_of rfl rfl rfl) rfl rfl))⟩
      · exact ⟨x, fun L => ifs_of (b := false) (tv_of (bin_of rfl rfl (lt_of (decide_eq_false hx)))) rfl⟩
    obtain ⟨y, hy⟩ := hab cells[pos]
    have hge : ∀ L, mTV (mBin fGeD (mV 1) (mBin fPow (mC (.int 10)) (mC (.int 18)))) [some (.ref 0), some (.int y)] (obO cells (pos + 1) a (b + 1) L) = some (decide ((10 : Int) ^ 18 ≤ y), obO cells (pos + 1) a (b + 1) L) := by
      intro L
      refine tv_of (bin_of (b := .int ((10 : Int) ^ 18)) (S2 := obO cells (pos + 1) a (b + 1) L) rfl (bin_of rfl rfl ?_) rfl)
      rw [r_pow, if_pos (by decide)]; rfl
    by_cases hb : (10 : Int) ^ 18 ≤ y
    · refine ⟨y, pos + 1, b + 1, hl, fun L => fn_rt rfl (seq_nx (hstep L) (seq_nx (hnum L) (seq_rt (ifs_of (b := true) ((hif L).trans (by rw [decide_eq_true (by omega)])) (seq_nx (asg_of (hix L)) (seq_nx (hst L) (seq_nx (hy L) (ifs_of (b := true) (by rw [hge, decide_eq_true hb]) (ret_of rfl))))))))) rfl⟩
    · obtain ⟨y1, h1⟩ := curT1_eq cells (pos + 1) a (b + 1) y
      obtain ⟨z, h2⟩ := curT2_eq cells (pos + 1) a (b + 1) y1
      exact ⟨z, pos + 1, b + 1, hl, fun L => fn_rt rfl (seq_nx (hstep L) (seq_nx (hnum L) (seq_nx (ifs_of (b := true) ((hif L).trans (by rw [decide_eq_true (by omega)])) (seq_nx (asg_of (hix L)) (seq_nx (hst L) (seq_nx (hy L) (ifs_of (b := false) (by rw [hge, decide_eq_false hb]) rfl))))) (seq_nx (h1 L) (h2 L))))) rfl⟩
  · obtain ⟨y, h1⟩ := curT1_eq cells pos a (b + 1) ((b + 1) * 69621 + 12345)
    obtain ⟨z, h2⟩ := curT2_eq cells pos a (b + 1) y
    exact ⟨z, pos, b + 1, hp, fun L => fn_rt rfl (seq_nx (hstep L) (seq_nx (hnum L) (seq_nx (ifs_of (b := false) (by rw [hif]; simp; omega) rfl) (seq_nx (h1 L) (h2 L))))) rfl⟩
theorem fillB_ok : FillOk (fnM 2 1 .keep curFB) := by
  intro cells pos a b hp
  have hstep : ∀ L, mSetIx (mBin fAdd (mBin fIx (mV 0) (mC (.int 3))) (mC (.int 1))) (mV 0) (mC (.int 3)) [some (.ref 0), none] (obO cells pos a b L) = some (.nx [some (.ref 0), none], obO cells pos a (b + 1) L) := fun L =>
    setix_of (S3 := obO cells pos a b L) (p := 0) (j := 3) (xs := [.lst (cells.map D.int), .int pos, .int a, .int b, .int 20]) (d := .int (b + 1)) (bin_of (cix0 rfl rfl) rfl rfl) rfl rfl rfl rfl
  have hnum : ∀ L, mAsg (mBin fAdd (mBin fMul (mBin fIx (mV 0) (mC (.int 3))) (mC (.int 69621))) (mC (.int 12345))) (.nm 1) [some (.ref 0), none] (obO cells pos a (b + 1) L) = some (.nx [some (.ref 0), some (.int ((b + 1) * 69621 + 12345))], obO cells pos a (b + 1) L) := fun L =>
    asg_of (bin_of (bin_of (cix0 rfl rfl) rfl (mul_of (.inr (by decide)))) rfl rfl)
  have hif : ∀ L, mTV (mBin fLtD (mBin fIx (mV 0) (mC (.int 1))) (mCB fLen (mCons (mBin fIx (mV 0) (mC (.int 0))) mNil))) [some (.ref 0), some (.int ((b + 1) * 69621 + 12345))] (obO cells pos a (b + 1) L) = some (decide ((pos : Int) < cells.length), obO cells pos a (b + 1) L) := by
    intro L
    refine tv_of (bin_of (cix0 rfl rfl) (cb_of (one_of (cix0 rfl rfl)) rfl) ?_)
    simp
  by_cases hl : pos < cells.length
  · have hix : ∀ L, mBin fIx (mBin fIx (mV 0) (mC (.int 0))) (mBin fIx (mV 0) (mC (.int 1))) [some (.ref 0), some (.int ((b + 1) * 69621 + 12345))] (obO cells pos a (b + 1) L) = some (.int cells[pos], obO cells pos a (b + 1) L) := by
      intro L
      refine bin_of (cix0 rfl rfl) (cix0 rfl rfl) ?_
      rw [DV.ix_lst, atI_map hl]; rfl
    obtain ⟨y, hy⟩ : ∃ y : Int, ∀ L, mAsg (mCB fMaxA (mCons (mBin fIx (mBin fIx (mV 0) (mC (.int 0))) (mBin fIx (mV 0) (mC (.int 1)))) (mCons (mBin fSub (mBin fSub (mC (.int 0)) (mC (.int 1))) (mBin fIx (mBin fIx (mV 0) (mC (.int 0))) (mBin fIx (mV 0) (mC (.int 1))))) mNil))) (.nm 1) [some (.ref 0), some (.int ((b + 1) * 69621 + 12345))] (obO cells pos a (b + 1) L) = some (.nx [some (.ref 0), some (.int y)], obO cells pos a (b + 1) L) :=
      ⟨_, fun L => asg_of (cb_of (cons_of (hix L) (one_of (bin_of (bin_of rfl rfl rfl) (hix L) rfl))) rfl)⟩
    have hst : ∀ L, mSetIx (mBin fAdd (mBin fIx (mV 0) (mC (.int 1))) (mC (.int 1))) (mV 0) (mC (.int 1)) [some (.ref 0), some (.int y)] (obO cells pos a (b + 1) L) = some (.nx [some (.ref 0), some (.int y)], obO cells (pos + 1) a (b + 1) L) := fun L =>
      setix_of (S3 := obO cells pos a (b + 1) L) (p := 0) (j := 1) (xs := [.lst (cells.map D.int), .int pos, .int a, .int (b + 1), .int 20]) (d := .int ((pos : Int) + 1)) (bin_of (cix0 rfl rfl) rfl rfl) rfl rfl rfl rfl
    have hge : ∀ L, mTV (mBin fGeD (mV 1) (mBin fPow (mC (.int 10)) (mC (.int 18)))) [some (.ref 0), some (.int y)] (obO cells (pos + 1) a (b + 1) L) = some (decide ((10 : Int) ^ 18 ≤ y), obO cells (pos + 1) a (b + 1) L) := by
      intro L
      refine tv_of (bin_of (b := .int ((10 : Int) ^ 18)) (S2 := obO cells (pos + 1) a (b + 1) L) rfl (bin_of rfl rfl ?_) rfl)
      rw [r_pow, if_pos (by decide)]; rfl
    by_cases hb : (10 : Int) ^ 18 ≤ y
    · refine ⟨y, pos + 1, b + 1, hl, fun L => fn_rt rfl (seq_nx (hstep L) (seq_nx (hnum L) (seq_rt (ifs_of (b := true) ((hif L).trans (by rw [decide_eq_true (by omega)])) (seq_nx (hy L) (seq_nx (hst L) (ifs_of (b := true) (by rw [hge, decide_eq_true hb]) (ret_of rfl)))))))) rfl⟩
    · obtain ⟨y1, h1⟩ := curT1_eq cells (pos + 1) a (b + 1) y
      obtain ⟨z, h2⟩ := curT2_eq cells (pos + 1) a (b + 1) y1
      exact ⟨z, pos + 1, b + 1, hl, fun L => fn_rt rfl (seq_nx (hstep L) (seq_nx (hnum L) (seq_nx (ifs_of (b := true) ((hif L).trans (by rw [decide_eq_true (by omega)])) (seq_nx (hy L) (seq_nx (hst L) (ifs_of (b := false) (by rw [hge, decide_eq_false hb]) rfl)))) (seq_nx (h1 L) (h2 L))))) rfl⟩
  · obtain ⟨y, h1⟩ := curT1_eq cells pos a (b + 1) ((b + 1) * 69621 + 12345)
    obtain ⟨z, h2⟩ := curT2_eq cells pos a (b + 1) y
    exact ⟨z, pos, b + 1, hp, fun L => fn_rt rfl (seq_nx (hstep L) (seq_nx (hnum L) (seq_nx (ifs_of (b := false) (by rw [hif]; simp; omega) rfl) (seq_nx (h1 L) (h2 L))))) rfl⟩
def curTk (F : Fn) : MS := mSeq (mIfS (mTV (mBin fLtD (mBin fIx (mV 0) (mC (.int 2))) (mV 1))) (mSetIx (mCall F (mCons (mV 0) mNil)) (mV 0) (mC (.int 2))) mSkip)
    (mSeq (mAsg (mBin fMod (mCB fInt (mCons (mBin fIx (mV 0) (mC (.int 2))) mNil)) (mV 1)) (.nm 2))
    (mSeq (mSetIx (mBin fDiv (mBin fIx (mV 0) (mC (.int 2))) (mV 1)) (mV 0) (mC (.int 2)))
    (mRet (mV 2))))
def TakeOk (M : Fn) : Prop := ∀ (c : Cu) (m : Int), 0 < m → m < 1073741824 → ∃ (d : Int) (c' : Cu), 0 ≤ d ∧ d < m ∧ ∀ L, M [.ref 0, .int m] (c.ob :: L) = some (.int d, c'.ob :: L)
theorem take_ok {F : Fn} (hF : FillOk F) : TakeOk (fnM 3 2 .keep (curTk F)) := by
  intro c m h0 h1
  obtain ⟨cells, pos, a, b, hp⟩ := c
  have rest : ∀ (pos : Nat) (a b : Int), pos ≤ cells.length → ∃ (d : Int) (c' : Cu), 0 ≤ d ∧ d < m ∧ ∀ L, (mSeq (mAsg (mBin fMod (mCB fInt (mCons (mBin fIx (mV 0) (mC (.int 2))) mNil)) (mV 1)) (.nm 2))
    (mSeq (mSetIx (mBin fDiv (mBin fIx (mV 0) (mC (.int 2))) (mV 1)) (mV 0) (mC (.int 2)))
    (mRet (mV 2)))) [some (.ref 0), some (.int m), none] (obO cells pos a b L) = some (.rt (.int d), c'.ob :: L) := fun pos a b hp => by
    have g1 := Int.emod_nonneg a (b := m) (by omega)
    have g2 := Int.emod_lt_of_pos a (b := m) (by omega)
    refine ⟨a % m, ⟨cells, pos, a / m, b, hp⟩, g1, g2, fun L => ?_⟩
    exact seq_nx (asg_of (bin_of (cb_of (one_of (cix0 rfl rfl)) r_int) rfl (mod_of h0))) (seq_nx (setix_of (S3 := obO cells pos a b L) (p := 0) (j := 2) (xs := [.lst (cells.map D.int), .int pos, .int a, .int b, .int 20]) (d := .int (a / m)) (bin_of (cix0 rfl rfl) rfl (div_of h0 h1)) rfl rfl rfl rfl) (ret_of rfl))
  have hc : ∀ L, mTV (mBin fLtD (mBin fIx (mV 0) (mC (.int 2))) (mV 1)) [some (.ref 0), some (.int m), none] (obO cells pos a b L) = some (decide (a < m), obO cells pos a b L) := fun L => tv_of (bin_of (cix0 rfl rfl) rfl rfl)
  by_cases h : a < m
  · obtain ⟨r, p1, b1, hp1, hf⟩ := hF cells pos a b hp
    obtain ⟨d, c', hd, hd2, hr⟩ := rest p1 r b1 hp1
    exact ⟨d, c', hd, hd2, fun L => fn_rt rfl (seq_nx (ifs_of (b := true) ((hc L).trans (by rw [decide_eq_true h])) (setix_of (S3 := obO cells p1 a b1 L) (p := 0) (j := 2) (xs := [.lst (cells.map D.int), .int p1, .int a, .int b1, .int 20]) (d := .int r) (call_of rfl (hf L)) rfl rfl rfl rfl)) (hr L)) rfl⟩
  · obtain ⟨d, c', hd, hd2, hr⟩ := rest pos a b hp
    exact ⟨d, c', hd, hd2, fun L => fn_rt rfl (seq_nx (ifs_of (b := false) ((hc L).trans (by rw [decide_eq_false h])) rfl) (hr L)) rfl⟩
open Classical in
noncomputable def takeG (M : Fn) (c : Cu) (m : Int) : Int × Cu := if h : ∃ p : Int × Cu, 0 ≤ p.1 ∧ p.1 < m ∧ ∀ L, M [.ref 0, .int m] (c.ob :: L) = some (.int p.1, p.2.ob :: L) then h.choose else (0, c)
theorem takeG_ok {M : Fn} (h : TakeOk M) {c : Cu} {m : Int} (h0 : 0 < m ∧ m < 1073741824) : 0 ≤ (takeG M c m).1 ∧ (takeG M c m).1 < m ∧ ∀ L, M [.ref 0, .int m] (c.ob :: L) = some (.int (takeG M c m).1, (takeG M c m).2.ob :: L) := by
  obtain ⟨d, c', h1, h2, h3⟩ := h c m h0.1 h0.2
  have hx : ∃ p : Int × Cu, 0 ≤ p.1 ∧ p.1 < m ∧ ∀ L, M [.ref 0, .int m] (c.ob :: L) = some (.int p.1, p.2.ob :: L) := ⟨(d, c'), h1, h2, h3⟩
  unfold takeG
  rw [dif_pos hx]
  exact hx.choose_spec
/-- the start -/
def curSt : MS := mRet (mSto (mLst (mCons (mVal (mLC (mIt (mVal (mSlL (mV 0) mO0 (mO1 (mC (.int 63)))))) (.nm 1) mYes (mCB fInt (mCons (mV 1) mNil)) [1])) (mCons (mC (.int 0)) (mCons (mC (.int 0)) (mCons (mC (.int 0)) (mCons (mC (.int 20)) mNil)))))))
theorem start_ok (ns : List Int) (hn : ns.length ≤ 63) : ∃ c : Cu, fnM 2 1 .keep curSt [.fr (ns.map D.int)] [] = some (.ref 0, [c.ob]) := by
  obtain ⟨a, b, hc⟩ : ∃ a b, DV.cutD (ns.map D.int) none (some 63) = ((ns.drop a).take b).map D.int := ⟨_, _, by unfold DV.cutD; rw [← List.map_drop, ← List.map_take]⟩
  have hs : mVal (mSlL (mV 0) mO0 (mO1 (mC (.int 63)))) [some (.fr (ns.map D.int)), none] [] = some (.lst (((ns.drop a).take b).map D.int), []) := by
    rw [r_Val, r_SlL]
    simp only [r_V, List.getElem?_cons_zero, Option.bind_some, r_O0, r_O1, r_C, lst_fr, hc]
  have hz : ((ns.drop a).take b).length ≤ 63 := by rw [List.length_take, List.length_drop]; omega
  refine ⟨⟨(ns.drop a).take b, 0, 0, 0, Nat.zero_le _⟩, fn_rt rfl (ret_of (sto_of (S1 := []) (ds := [.lst (((ns.drop a).take b).map D.int), .int 0, .int 0, .int 0, .int 20]) (cons_of (val_lc (L := ((ns.drop a).take b).map D.int) (it_of hs rfl) (lcL_map (α := Int) D.int D.int _ ?_) (by rw [List.length_map]; show _ ≤ 16777216; omega)) rfl) (by show 5 ≤ 16777216; decide))) rfl⟩
  intro x _
  exact ⟨_, rfl, cb_of (one_of rfl) r_int⟩
end
end DV

/-! DVx: more rules over plain values, for gent.py. -/
namespace DV
open PySem PySem.Spec PyProof.Rows L2
section
variable {α β γ δ T R J : Type} {e e1 : Ev} {S S1 S2 S3 : Store} {m ma mb mc : ME} {mi mi1 : MI} {ml : ML} {ms : ML} {en : α → D} {en2 : β → D} {xs : List α} {i j : Int} {d d1 d2 : D} {v : AV} {tt tt1 : MT} {t t1 : Tg} {Q : Fl → Store → Prop} {s s1 s2 s3 : MS} {x : Bool} {c : MT}
theorem coO [Inhabited α] {o : Option α} (h : m e S = some (eO en o, S1)) (ho : o.isSome = true) : m e S = some (en (getO o), S1) := by rw [h, eO_get ho]
theorem coA (h : m e S = some (d, S1)) (ho : D.av 9 d = true) : m e S = some (eA (mkA d), S1) := by rw [h, mkA_eq ho]
theorem coI (h : m e S = some (eA v, S1)) (ho : v.isI = true) : m e S = some (.int v.int, S1) := by rw [h, ← AV.i_eq ho]
theorem coB (h : m e S = some (eA v, S1)) (ho : v.isBl = true) : m e S = some (.bl v.bl, S1) := by rw [h, ← AV.bl_eq ho]
theorem coT (h : m e S = some (eA v, S1)) (ho : v.isTup = true) : m e S = some (eT eA v.items, S1) := by rw [h, ← AV.tup_eq ho]
theorem coD {z : α} (h : m e S = some (eA v, S1)) (ho : en z = v.1) : m e S = some (en z, S1) := by rw [h, ho]
theorem coTO [Inhabited α] {o : List (Option α)} (h : m e S = some (eT (eO en) o, S1)) (ho : ∀ x ∈ o, x.isSome = true) : m e S = some (eT en (o.map getO), S1) := by
  rw [h]
  have : o.map (eO en) = (o.map getO).map en := by
    rw [List.map_map]
    exact List.map_congr_left fun x hx => eO_get (ho x hx)
  show some (D.tup _, _) = some (D.tup _, _)
  rw [this]
theorem seqR_of {p : Nat} {ds : List D} (h : S[p]? = some (.lst ds)) : seqOf (.ref p) S = some ds := by rw [seq_ref, h]
theorem ltrR_of {p : Nat} {ds : List D} (h : S[p]? = some (.lst ds)) : lstTr (.ref p) S = some ds := by rw [ltr_ref, h]
theorem sl_P {lo hi : Option Int} {ml mh : MO} {ds es : List D} (h : m e S = some (.tup ds, S1)) (hl : ml e S1 = some (lo, S2)) (hh : mh e S2 = some (hi, S3)) (hd : cutD ds lo hi = es) : mSl fSlT m ml mh e S = some (.tup es, S3) := by
  rw [r_Sl, h]; simp only [Option.bind_some]; rw [hl]; simp only [Option.bind_some]; rw [hh]; simp only [Option.bind_some, r_slT, hd]
theorem len2 [Inhabited α] (h : xs.length = 2) : xs = [ixZ xs 0, ixZ xs 1] := by
  match xs, h with
  | [a, b], _ => rfl
theorem len3 [Inhabited α] (h : xs.length = 3) : xs = [ixZ xs 0, ixZ xs 1, ixZ xs 2] := by
  match xs, h with
  | [a, b, c], _ => rfl
theorem len4 [Inhabited α] (h : xs.length = 4) : xs = [ixZ xs 0, ixZ xs 1, ixZ xs 2, ixZ xs 3] := by
  match xs, h with
  | [a, b, c, d], _ => rfl
theorem lenZ {n : Nat} {xs : List α} (h : (xs.length : Nat) = n) : xs.length = n := h
theorem tgP2 {k l : Nat} {a b : D} : (Tg.tp [k, l]).f (.tup [a, b]) e = some ((e.set k (some a)).set l (some b)) := rfl
theorem tgP3 {k l n : Nat} {a b c : D} : (Tg.tp [k, l, n]).f (.tup [a, b, c]) e = some (((e.set k (some a)).set l (some b)).set n (some c)) := rfl
theorem tgT2 [Inhabited α] {k l : Nat} (h : xs.length = 2) : (Tg.tp [k, l]).f (eT en xs) e = some ((e.set k (some (en (ixZ xs 0)))).set l (some (en (ixZ xs 1)))) := by
  conv => lhs; rw [len2 h]
  rfl
theorem tgT3 [Inhabited α] {k l n : Nat} (h : xs.length = 3) : (Tg.tp [k, l, n]).f (eT en xs) e = some (((e.set k (some (en (ixZ xs 0)))).set l (some (en (ixZ xs 1)))).set n (some (en (ixZ xs 2)))) := by
  conv => lhs; rw [len3 h]
  rfl
theorem asg_tpT2 [Inhabited α] {k l : Nat} (hm : m e S = some (eT en xs, S1)) (h : xs.length = 2) : mAsg m (.tp [k, l]) e S = some (.nx ((e.set k (some (en (ixZ xs 0)))).set l (some (en (ixZ xs 1)))), S1) := by
  rw [r_Asg, hm]; simp only [Option.bind_some]; rw [tgT2 h]; rfl
theorem asg_tpT3 [Inhabited α] {k l n : Nat} (hm : m e S = some (eT en xs, S1)) (h : xs.length = 3) : mAsg m (.tp [k, l, n]) e S = some (.nx (((e.set k (some (en (ixZ xs 0)))).set l (some (en (ixZ xs 1)))).set n (some (en (ixZ xs 2)))), S1) := by
  rw [r_Asg, hm]; simp only [Option.bind_some]; rw [tgT3 h]; rfl
theorem asg_lp {is : List Nat} {ds : List D} (h : m e S = some (.lst ds, S1)) (hl : ds.length = is.length) : mAsg m (.tp is) e S = some (.nx (setAll is ds e), S1) := by
  rw [r_Asg, h]; simp only [Option.bind_some]
  show (Option.bind (if ds.length = is.length then some (setAll is ds e) else none) _) = _
  rw [if_pos hl]; rfl
theorem stoS_E {L : Store} {ds : List D} (h : ml e (S ++ L) = some (ds, S ++ L)) : mSto ml e (S ++ L) = some (.ref (S.length + L.length), S ++ (L ++ [.lst ds])) := by
  rw [r_Sto, h]; simp
theorem stoC_E {o : Ob} {L : Store} {ds : List D} (h : ml e S = some (ds, o :: L)) : mSto ml e S = some (.ref (1 + L.length), o :: (L ++ [.lst ds])) := by
  rw [r_Sto, h]; simp [Nat.add_comm]
theorem appS_E {L L' : Store} {k : Nat} {y : α} (ho : ma e (S ++ L) = some (.ref (S.length + k), S ++ L)) (h : m e (S ++ L) = some (en y, S ++ L)) (hp : L[k]? = some (.lst (xs.map en))) (hz : xs.length < LIM) (hL : L.set k (.lst ((xs ++ [y]).map en)) = L') : mDrop (mMt' fAppend ma (mCons m mNil)) e (S ++ L) = some (.nx e, S ++ L') := by
  rw [app_E (xs := xs) ho h (get_app.trans hp) hz, set_app, hL]
theorem setS_E {L L' : Store} {k : Nat} {y : α} (h : m e (S ++ L) = some (en y, S ++ L)) (ho : ma e (S ++ L) = some (.ref (S.length + k), S ++ L)) (hi : mb e (S ++ L) = some (.int i, S ++ L)) (hp : L[k]? = some (.lst (xs.map en))) (hr : InR xs i) (hL : L.set k (.lst ((setZ xs i y).map en)) = L') : mSetIx m ma mb e (S ++ L) = some (.nx e, S ++ L') := by
  rw [set_E (xs := xs) h ho hi (get_app.trans hp) hr, set_app, hL]
theorem set_get {p : Nat} {o o2 : Ob} (h : S[p]? = some o) : (S.set p o2)[p]? = some o2 := by
  have := (List.getElem?_eq_some_iff.mp h).1
  rw [List.getElem?_set_self this]
theorem swap_E {mo mj mo2 mj2 : ME} {p : Nat} {y z : α} (h : m e S = some (.tup [en y, en z], S1)) (ho : mo e S1 = some (.ref p, S1)) (hi : mj e S1 = some (.int i, S1)) (hp : S1[p]? = some (.lst (xs.map en))) (hr : InR xs i)
    (ho2 : ∀ S, mo2 e S = some (.ref p, S)) (hi2 : mj2 e (S1.set p (.lst ((setZ xs i y).map en))) = some (.int j, S1.set p (.lst ((setZ xs i y).map en)))) (hr2 : InR xs j) : mSwap m mo mj mo2 mj2 e S = some (.nx e, S1.set p (.lst ((setZ (setZ xs i y) j z).map en))) := by
  have hl : (setZ xs i y).length = xs.length := by unfold setZ; simp
  have f1 : fSet (.ref p) (.int i) (en y) S1 = some (S1.set p (.lst ((setZ xs i y).map en))) := by
    unfold fSet; simp only [hp, List.length_map, (ixN_Z hr).1, Option.bind_some]
    unfold setZ; rw [List.map_set]
  have f2 : fSet (.ref p) (.int j) (en z) (S1.set p (.lst ((setZ xs i y).map en))) = some (S1.set p (.lst ((setZ (setZ xs i y) j z).map en))) := by
    have h3 : ixN (setZ xs i y).length j = some (ixP (setZ xs i y).length j) := by rw [hl]; exact (ixN_Z hr2).1
    unfold fSet; simp only [set_get hp, List.length_map, h3, Option.bind_some, List.set_set]
    conv => rhs; unfold setZ
    rw [← List.map_set]; rfl
  unfold mSwap
  rw [h]; simp only [Option.bind_some]
  rw [ho]; simp only [Option.bind_some]
  rw [hi]; simp only [Option.bind_some]
  rw [f1]; simp only [Option.bind_some]
  rw [ho2]; simp only [Option.bind_some]
  rw [hi2]; simp only [Option.bind_some]
  rw [f2]; rfl
theorem getJ {A R : Store} {n k : Nat} {o : Ob} (hn : n = A.length) (h : R[k]? = some o) : (A ++ R)[n + k]? = some o := by
  subst hn; rw [get_app]; exact h
theorem setJ {A R R' : Store} {n k : Nat} {o : Ob} (hn : n = A.length) (h : R.set k o = R') : (A ++ R).set (n + k) o = A ++ R' := by
  subst hn; rw [set_app, h]
theorem stoG_E {ds : List D} {n : Nat} (h : ml e S = some (ds, S1)) (hn : S1.length = n) (hs : S1 ++ [.lst ds] = S2) : mSto ml e S = some (.ref n, S2) := by
  rw [r_Sto, h, ← hn, ← hs]; rfl
theorem appG_E {p : Nat} {y : α} (ho : ma e S = some (.ref p, S)) (h : m e S = some (en y, S)) (hp : S[p]? = some (.lst (xs.map en))) (hz : xs.length < LIM) (hs : S.set p (.lst ((xs ++ [y]).map en)) = S2) : mDrop (mMt' fAppend ma (mCons m mNil)) e S = some (.nx e, S2) := by
  rw [app_E ho h hp hz, hs]
theorem setG_E {p : Nat} {y : α} (h : m e S = some (en y, S)) (ho : ma e S = some (.ref p, S)) (hi : mb e S = some (.int i, S)) (hp : S[p]? = some (.lst (xs.map en))) (hr : InR xs i) (hs : S.set p (.lst ((setZ xs i y).map en)) = S2) : mSetIx m ma mb e S = some (.nx e, S2) := by
  rw [set_E h ho hi hp hr, hs]
theorem swapG_E {mo mj mo2 mj2 : ME} {p : Nat} {y z : α} (h : m e S = some (.tup [en y, en z], S1)) (ho : mo e S1 = some (.ref p, S1)) (hi : mj e S1 = some (.int i, S1)) (hp : S1[p]? = some (.lst (xs.map en))) (hr : InR xs i)
    (ho2 : ∀ S, mo2 e S = some (.ref p, S)) (hi2 : mj2 e (S1.set p (.lst ((setZ xs i y).map en))) = some (.int j, S1.set p (.lst ((setZ xs i y).map en)))) (hr2 : InR xs j) (hs : S1.set p (.lst ((setZ (setZ xs i y) j z).map en)) = S2) : mSwap m mo mj mo2 mj2 e S = some (.nx e, S2) := by
  rw [swap_E h ho hi hp hr ho2 hi2 hr2, hs]
theorem pb_app0 (h : PB (s e (S ++ [])) Q) : PB (s e S) Q := by rw [List.append_nil] at h; exact h
theorem okFold_true {step : T → α → T} : ∀ (xs : List α) (t : T), okFold (fun _ _ => True) step t xs
  | [], _ => trivial
  | x :: xs, t => ⟨trivial, okFold_true xs _⟩
theorem okFor_true {step : T → α → Lo T R} : ∀ (xs : List α) (t : T), okFor (fun _ _ => True) step t xs
  | [], _ => trivial
  | x :: xs, t => ⟨trivial, by
    cases step t x with
    | nx t' => exact okFor_true xs t'
    | bk _ => trivial
    | rt _ => trivial⟩
theorem okA_true {f : γ → α → β × γ} : ∀ (xs : List α) (c : γ), okA f (fun _ _ => True) c xs
  | [], _ => trivial
  | x :: xs, t => ⟨trivial, okA_true xs _⟩
theorem okFA_true {g : γ → α → Bool × γ} {f : γ → α → β × γ} : ∀ (xs : List α) (c : γ), okFA g f (fun _ _ => True) c xs
  | [], _ => trivial
  | x :: xs, t => ⟨trivial, fun _ => okFA_true xs _, fun _ => okFA_true xs _⟩
theorem pb_for_F_end {E : T → J → Ev} {σ : T → J → Store} {step : T → α → T} {ok : T → α → Prop} {body : MS} {t0 : T} {j0 : J} (hi : mi e S = some (.seq (xs.map en), S1)) (he : e = E t0 j0) (hs : S1 = σ t0 j0) (hk : okFold ok step t0 xs)
    (h : ∀ t' j x, ok t' x → ∃ e1, t.f (en x) (E t' j) = some e1 ∧ PB (body e1 (σ t' j)) (LQ E σ (fun (_ : Empty) _ _ => False) (.nx (step t' x)))) (q : ∀ j, Q (.nx (E (xs.foldl step t0) j)) (σ (xs.foldl step t0) j)) : PB (mFor mi t body e S) Q := by
  obtain ⟨j, h1⟩ := for_F (body := body) (t := t) hi he hs hk h
  exact ⟨_, _, h1, q j⟩
theorem pb_for_P_end {E : T → J → Ev} {σ : T → J → Store} {QR : R → Fl → Store → Prop} {step : T → α → Lo T R} {ok : T → α → Prop} {body : MS} {t0 : T} {j0 : J} {k : T → R} (hi : mi e S = some (.seq (xs.map en), S1)) (he : e = E t0 j0) (hs : S1 = σ t0 j0) (hk : okFor ok step t0 xs)
    (h : ∀ t' j x, ok t' x → ∃ e1, t.f (en x) (E t' j) = some e1 ∧ PB (body e1 (σ t' j)) (LQ E σ QR (step t' x))) (q : ∀ t' j, forP step t0 xs = .nx t' → QR (k t') (.nx (E t' j)) (σ t' j)) : PB (mFor mi t body e S) (QR ((forP step t0 xs).fin k)) := by
  subst he hs
  obtain ⟨fl, S', h1, h2⟩ := forL_P h xs t0 j0 hk
  have h3 : mFor mi t body (E t0 j0) S = some (fl, S') := by rw [r_For hi, h1]
  refine ⟨fl, S', h3, ?_⟩
  cases ho : forP step t0 xs with
  | nx t' =>
    rw [ho] at h2
    obtain ⟨j', rfl, rfl⟩ := h2
    exact q t' j' ho
  | bk t' => rw [ho] at h2; cases h2
  | rt r =>
    rw [ho] at h2
    exact h2.2
theorem forP_F {step : T → α → T} : ∀ (xs : List α) (t : T), forP (R := Empty) (fun t x => .nx (step t x)) t xs = .nx (xs.foldl step t)
  | [], _ => rfl
  | x :: xs, t => forP_F xs (step t x)
theorem okFor_F {ok : T → α → Prop} {step : T → α → T} : ∀ (xs : List α) (t : T), okFold ok step t xs → okFor (R := Empty) ok (fun t x => .nx (step t x)) t xs
  | [], _, _ => trivial
  | x :: xs, t, h => ⟨h.1, okFor_F xs _ h.2⟩
theorem forR_F {E : T → J → Ev} {σ : T → J → Store} {step : T → α → T} {ok : T → α → Prop} {body : MS} {t0 : T} {j0 : J} {p : Nat} (hSl : ∀ t j, (σ t j)[p]? = some (.lst (xs.map en))) (hi : mi e S = some (.live p xs.length, S1)) (he : e = E t0 j0) (hs : S1 = σ t0 j0) (hk : okFold ok step t0 xs)
    (h : ∀ t' j x, ok t' x → ∃ e1, t.f (en x) (E t' j) = some e1 ∧ PB (body e1 (σ t' j)) (LQ E σ (fun (_ : Empty) _ _ => False) (.nx (step t' x)))) : ∃ j', mFor mi t body e S = some (.nx (E (xs.foldl step t0) j'), σ (xs.foldl step t0) j') := by
  subst he hs
  have := forGo_live (R := Empty) (QR := fun _ _ _ => False) (step := fun t x => .nx (step t x)) (N := xs.length) hSl h xs.length 0 t0 j0 (by omega) (by rw [List.drop_zero]; exact okFor_F xs t0 hk)
  rw [List.drop_zero, forP_F] at this
  obtain ⟨fl, S', h1, j', rfl, rfl⟩ := this
  exact ⟨j', by unfold mFor; rw [hi]; exact h1⟩
theorem pb_forR_F {E : T → J → Ev} {σ : T → J → Store} {step : T → α → T} {ok : T → α → Prop} {body : MS} {t0 : T} {j0 : J} {p : Nat} (hSl : ∀ t j, (σ t j)[p]? = some (.lst (xs.map en))) (hi : mi e S = some (.live p xs.length, S1)) (he : e = E t0 j0) (hs : S1 = σ t0 j0) (hk : okFold ok step t0 xs)
    (h : ∀ t' j x, ok t' x → ∃ e1, t.f (en x) (E t' j) = some e1 ∧ PB (body e1 (σ t' j)) (LQ E σ (fun (_ : Empty) _ _ => False) (.nx (step t' x)))) (q : ∀ j, PB (s (E (xs.foldl step t0) j) (σ (xs.foldl step t0) j)) Q) : PB (mSeq (mFor mi t body) s e S) Q := by
  obtain ⟨j, h1⟩ := forR_F (body := body) (t := t) hSl hi he hs hk h
  exact pb_seq h1 (q j)
theorem pb_while_end {E : T → J → Ev} {σ : T → J → Store} {QR : R → Fl → Store → Prop} {cond : T → Bool} {step : T → Lo T R} {okc ok : T → Prop} {body : MS} {t0 : T} {j0 : J} {k : T → R} {n : Nat} (he : e = E t0 j0) (hs : S = σ t0 j0) (hk : okWhile okc ok cond step n t0)
    (hc : ∀ t j, okc t → c (E t j) (σ t j) = some (cond t, σ t j)) (h : ∀ t j, ok t → PB (body (E t j) (σ t j)) (LQ E σ QR (step t))) (q : ∀ t' j, whileP cond step n t0 = .nx t' → QR (k t') (.nx (E t' j)) (σ t' j)) : PB (mWhile n c body e S) (QR ((whileP cond step n t0).fin k)) := by
  subst he hs
  obtain ⟨fl, S', h3, h2⟩ := whileGo_P hc h n t0 j0 hk
  refine ⟨fl, S', h3, ?_⟩
  cases ho : whileP cond step n t0 with
  | nx t' =>
    rw [ho] at h2
    obtain ⟨j', rfl, rfl⟩ := h2
    exact q t' j' ho
  | bk t' => rw [ho] at h2; cases h2
  | rt r =>
    rw [ho] at h2
    exact h2.2
/-- the law's own end -/
def RE (en : α → D) (v : α) : Fl → Store → Prop := fun fl _ => fl = .rt (en v)
theorem fn_E {nN np : Nat} {body : MS} {ds : List D} {S : Store} {v : α} (hl : ds.length = np) (hb : PB (body (ds.map some ++ List.replicate (nN - np) none) S) (RE en v)) : ∃ S', fnM nN np .keep body ds S = some (en v, S') := by
  obtain ⟨fl, S', h1, h2⟩ := hb
  cases h2
  exact ⟨S', fn_rt hl h1 rfl⟩
end
end DV

/-! DVy: the laws' alike, spoilt and bent. -/
namespace DV
open PySem PySem.Spec PyProof.Rows L2
/-! ### alike -/
def alikeT (r : Fn) : MS := mSeq (mIfS (mTru (mIsi "tuple" (mV 1))) (mRet (mAndV (mIsi "tuple" (mV 0)) (mAndV (mBin fEq (mCB fLen (mCons (mV 0) mNil)) (mCB fLen (mCons (mV 1) mNil))) (mCB fAll (mCons (mVal (mLC (mRg1 (mCons (mCB fLen (mCons (mV 1) mNil)) mNil)) (.nm 2) mYes (mCall r (mCons (mBin fIx (mV 0) (mV 2)) (mCons (mBin fIx (mV 1) (mV 2)) mNil))) [2])) mNil))))) mSkip)
    (mSeq (mIfS (mTV (mBin fIsN (mV 1) (mC .non))) (mRet (mBin fIsN (mV 0) (mC .non))) mSkip)
    (mSeq (mIfS (mOr (mTru (mIsi "bool" (mV 0))) (mTV (mBin fNe (mIsi "str" (mV 0)) (mIsi "str" (mV 1))))) (mRet (mC (.bl false))) mSkip)
    (mRet (mAndV (mIsi2 "int" "str" (mV 0)) (mBin fEq (mV 0) (mV 1))))))
def alikeR : Nat → Fn
  | 0 => fun _ _ => none
  | n + 1 => fnM 3 2 .pure (alikeT (alikeR n))
/-! tuples of ints, texts, None -/
mutual
def D.alk (n : Nat) : D → Bool
  | .non => true
  | .int _ => true
  | .str x => PyData.strOk x
  | .tup xs => match n with
    | 0 => false
    | n + 1 => decide (xs.length < LIM) && D.alkL n xs
  | _ => false
def D.alkL (n : Nat) : List D → Bool
  | [] => true
  | x :: xs => D.alk n x && D.alkL n xs
end
theorem alkL_mem {n : Nat} : ∀ {xs : List D}, D.alkL n xs = true ↔ ∀ d ∈ xs, D.alk n d = true
  | [] => by simp [D.alkL]
  | x :: xs => by simp [D.alkL, alkL_mem (xs := xs)]
section
variable {S : Store}
theorem alike_str {k : Nat} {x : Str} (hx : PyData.strOk x = true) : alikeR (k + 1) [.str x, .str x] S = some (.bl true, S) := by
  refine fn_rt (S' := S) rfl (seq_nx (ifs_of (b := false) (tru_of (isi_of rfl rfl (by decide +kernel)) rfl) rfl) (seq_nx (ifs_of (b := false) (tv_of (b := false) rfl) rfl) (seq_nx (ifs_of (b := false) (or_of (x := false) (tru_of (isi_of rfl rfl (by decide +kernel)) rfl) (tv_of (bin_of (isi_of rfl rfl rfl) (isi_of rfl rfl rfl) (ne_of (r := true) rfl rfl (by simp))))) rfl)
    (ret_of (andv_of (x := true) (isi2_of (b := true) rfl rfl (by decide +kernel)) rfl (bin_of rfl rfl (eq_of (r := true) (by simp [hx]) (by simp [hx]) (by simp)))))))) (fin_pure fit_bl)
theorem alike_int {k : Nat} {x : Int} : alikeR (k + 1) [.int x, .int x] S = some (.bl true, S) := by
  refine fn_rt (S' := S) rfl (seq_nx (ifs_of (b := false) (tru_of (isi_of rfl rfl (by decide +kernel)) rfl) rfl) (seq_nx (ifs_of (b := false) (tv_of (b := false) rfl) rfl) (seq_nx (ifs_of (b := false) (or_of (x := false) (tru_of (isi_of rfl rfl (by decide +kernel)) rfl) (tv_of (bin_of (isi_of rfl rfl rfl) (isi_of rfl rfl rfl) (ne_of (r := true) rfl rfl (by simp))))) rfl)
    (ret_of (andv_of (x := true) (isi2_of (b := true) rfl rfl (by decide +kernel)) rfl (bin_of rfl rfl (eq_of (r := true) (by simp) (by simp) (by simp)))))))) (fin_pure fit_bl)
theorem alike_non {k : Nat} : alikeR (k + 1) [.non, .non] S = some (.bl true, S) := by
  refine fn_rt (S' := S) rfl (seq_nx (ifs_of (b := false) (tru_of (isi_of rfl rfl (by decide +kernel)) rfl) rfl) (seq_rt (ifs_of (b := true) (tv_of (b := true) rfl) (ret_of (d := .bl true) (S1 := S) rfl)))) (fin_pure fit_bl)
theorem alike_tup {k : Nat} {xs : List D} (h : ∀ d ∈ xs, alikeR k [d, d] S = some (.bl true, S)) (hz : xs.length < LIM) : alikeR (k + 1) [.tup xs, .tup xs] S = some (.bl true, S) := by
  refine fn_rt (S' := S) (d := .bl true) rfl (seq_rt (ifs_of (b := true) (tru_of (isi_of rfl rfl (by decide +kernel)) rfl) (ret_of (andv_of (x := true) (isi_of rfl rfl (by decide +kernel)) rfl (andv_of (x := true) (bin_of (cb_of (one_of rfl) rfl) (cb_of (one_of rfl) rfl) (eq_of (r := true) (by simp) (by simp) (by simp))) rfl
    (cb_of (one_of (val_lc (rg1_of (one_of (cb_of (one_of rfl) rfl)) (Nat.le_of_lt hz)) (lcL_map (α := Nat) (fun (i : Nat) => D.int (i : Int)) (fun _ => .bl true) (List.range xs.length) ?_) ?_)) ?_)))))) (fin_pure fit_bl)
  · intro g hg
    have hg : g < xs.length := by simpa using hg
    refine ⟨_, rfl, ?_⟩
    refine call_of (ds := [xs[g], xs[g]]) (S1 := S) (cons_of (S1 := S) (bin_of (S2 := S) rfl rfl ?_) (one_of (bin_of (S2 := S) rfl rfl ?_))) (h _ (List.getElem_mem hg))
    · rw [DV.ix_tup, atI_of hg]; rfl
    · rw [DV.ix_tup, atI_of hg]; rfl
  · simp; exact Nat.le_of_lt hz
  · have : List.map (fun (_ : Nat) => D.bl true) (List.range xs.length) = ((List.range xs.length).map fun _ => true).map D.bl := by rw [List.map_map]; rfl
    rw [this, r_all]
    simp only [lst_lst, Option.bind_some, bls_map]
    have : ((List.range xs.length).map fun _ => true).all id = true := by simp
    rw [this]
theorem alike_alk : ∀ (n k : Nat) (d : D), D.alk n d = true → n < k → alikeR k [d, d] S = some (.bl true, S)
  | n, k + 1, .non, _, _ => alike_non
  | n, k + 1, .int _, _, _ => alike_int
  | n, k + 1, .str _, h, _ => alike_str (by simpa [D.alk] using h)
  | 0, k + 1, .tup xs, h, _ => by simp [D.alk] at h
  | n + 1, k + 1, .tup xs, h, hk => by
    simp only [D.alk, Bool.and_eq_true, decide_eq_true_eq] at h
    exact alike_tup (fun d hd => alike_alk n k d (alkL_mem.1 h.2 d hd) (by omega)) h.1
  | n, k + 1, .bl _, h, _ => by simp [D.alk] at h
  | n, k + 1, .lst _, h, _ => by simp [D.alk] at h
  | n, k + 1, .ref _, h, _ => by simp [D.alk] at h
  | n, k + 1, .fr _, h, _ => by simp [D.alk] at h
  | n, k + 1, .rng _ _, h, _ => by simp [D.alk] at h
  | n, 0, d, _, h => by omega
end
/-! ### spoilt, bent -/
inductive Sm (l : Nat) : Nat → D → Prop
  | non (n : Nat) : Sm l n .non
  | bl (n : Nat) (b : Bool) : Sm l n (.bl b)
  | int (n : Nat) (i : Int) (h : i.natAbs < 1099511627776) : Sm l n (.int i)
  | str (n : Nat) (x : Str) (h : PyData.strOk x = true ∧ x.length ≤ LIM) : Sm l n (.str x)
  | tup (n : Nat) (xs : List D) (hl : xs.length ≤ l) (h : ∀ d ∈ xs, Sm l n d) : Sm l (n + 1) (.tup xs)
  | lst (n : Nat) (xs : List D) (hl : xs.length ≤ l) (h : ∀ d ∈ xs, Sm l n d) : Sm l (n + 1) (.lst xs)
theorem Sm.mono {l l2 : Nat} (h : l ≤ l2) {n : Nat} {d : D} (s : Sm l n d) : Sm l2 n d := by
  induction s with
  | non n => exact .non n
  | bl n b => exact .bl n b
  | int n i h => exact .int n i h
  | str n x h => exact .str n x h
  | tup n xs hl _ ih => exact .tup n xs (by omega) ih
  | lst n xs hl _ ih => exact .lst n xs (by omega) ih
theorem Sm.up {l : Nat} {n : Nat} {d : D} (s : Sm l n d) : ∀ {m : Nat}, n ≤ m → Sm l m d := by
  induction s with
  | non n => exact fun _ => .non _
  | bl n b => exact fun _ => .bl _ b
  | int n i h => exact fun _ => .int _ i h
  | str n x h => exact fun _ => .str _ x h
  | tup n xs hl _ ih =>
    intro m hm
    match m, hm with
    | m + 1, hm => exact .tup m xs hl fun d hd => ih d hd (by omega)
  | lst n xs hl _ ih =>
    intro m hm
    match m, hm with
    | m + 1, hm => exact .lst m xs hl fun d hd => ih d hd (by omega)
theorem Sm.av {l : Nat} (hl : l ≤ 1048576) {n : Nat} {d : D} (s : Sm l n d) : D.av n d = true := by
  induction s with
  | non n => simp [D.av]
  | bl n b => simp [D.av]
  | int n i h => simpa [D.av] using h
  | str n x h => simp [D.av, h.1, h.2]
  | tup n xs hx _ ih => simp only [D.av, Bool.and_eq_true, decide_eq_true_eq]; exact ⟨by omega, avL_mem.2 ih⟩
  | lst n xs hx _ ih => simp only [D.av, Bool.and_eq_true, decide_eq_true_eq]; exact ⟨by omega, avL_mem.2 ih⟩
def spoiltT (TK r : Fn) : MS := mSeq (mIfS (mTru (mIsi "str" (mV 1))) (mRet (mBin fIx (mVal (mLst (mCons (mC (.str "")) (mCons (mC (.str "winner")) (mCons (mC (.str "none")) (mCons (mC (.str "widest")) (mCons (mC (.str "no way")) (mCons (mC (.str "line")) (mCons (mC (.str "worst")) (mCons (mC (.str "crossed")) (mCons (mC (.str "core")) (mCons (mC (.str "no core")) (mCons (mC (.str "tree")) mNil))))))))))))) (mCall TK (mCons (mV 0) (mCons (mC (.int 11)) mNil))))) mSkip)
    (mSeq (mIfS (mNot (mTru (mIsi "tuple" (mV 1)))) (mRet (mBin fIx (mVal (mLst (mCons (mC (.int 0)) (mCons (mC (.int 1)) (mCons (mC (.int 2)) (mCons (mUn fNeg (mC (.int 1))) (mCons (mC (.bl true)) (mCons (mC .non) (mCons (mC (.int 3)) mNil))))))))) (mCall TK (mCons (mV 0) (mCons (mC (.int 7)) mNil))))) mSkip)
    (mSeq (mIfS (mOr (mNot (mTru (mV 1))) (mTV (mBin fEq (mCall TK (mCons (mV 0) (mCons (mC (.int 5)) mNil))) (mC (.int 0))))) (mRet (mBin fIx (mVal (mLst (mCons (mSl fSlT (mV 1) (mO1 (mC (.int 1))) mO0) (mCons (mSl fSlT (mV 1) mO0 (mO1 (mUn fNeg (mC (.int 1))))) (mCons (mBin fAdd (mV 1) (mSl fSlT (mV 1) (mO1 (mUn fNeg (mC (.int 1)))) mO0)) (mCons (mRevT (mV 1)) (mCons (mVal (mListOf (mV 1))) (mCons (mBin fAdd (mV 1) (mTup (mCons (mC (.int 0)) mNil))) (mCons (mTup mNil) (mCons (mTup (mCons (mC (.int 1)) (mCons (mC (.int 0)) mNil))) mNil)))))))))) (mCall TK (mCons (mV 0) (mCons (mC (.int 8)) mNil))))) mSkip)
    (mSeq (mAsg (mCall TK (mCons (mV 0) (mCons (mCB fLen (mCons (mV 1) mNil)) mNil))) (.nm 2))
    (mRet (mBin fAdd (mBin fAdd (mSl fSlT (mV 1) mO0 (mO1 (mV 2))) (mTup (mCons (mCall r (mCons (mV 0) (mCons (mBin fIx (mV 1) (mV 2)) mNil))) mNil))) (mSl fSlT (mV 1) (mO1 (mBin fAdd (mV 2) (mC (.int 1)))) mO0))))))
def spoiltR (TK : Fn) : Nat → Fn
  | 0 => fun _ _ => none
  | n + 1 => fnM 3 2 .keep (spoiltT TK (spoiltR TK n))
def bentT (TK r : Fn) : MS := mSeq (mFor (mRg1 (mCons (mBin fMul (mCB fInt (mCons (mBin fGtD (mV 2) (mC (.int 0))) mNil)) (mBin fAdd (mC (.int 1)) (mCall TK (mCons (mV 0) (mCons (mC (.int 2)) mNil))))) mNil)) (.nm 3) (mAsg (mCall r (mCons (mV 0) (mCons (mV 1) mNil))) (.nm 1)))
    (mRet (mV 1))
theorem cut_mem {xs : List D} {lo hi : Option Int} : (∀ d ∈ cutD xs lo hi, d ∈ xs) ∧ (cutD xs lo hi).length ≤ xs.length := by
  unfold cutD
  refine ⟨fun d hd => List.mem_of_mem_drop (List.mem_of_mem_take hd), ?_⟩
  rw [List.length_take, List.length_drop]; omega
theorem pick {ds : List D} {k : Int} (h : 0 ≤ k ∧ k < ds.length) : ∃ d ∈ ds, atI ds k = some d := by
  obtain ⟨n, rfl⟩ := Int.eq_ofNat_of_zero_le h.1
  have hn : n < ds.length := by omega
  exact ⟨ds[n], List.getElem_mem hn, atI_of hn⟩
section
variable {TK : Fn} (hT : TakeOk TK) {l : Nat} (h2 : 2 ≤ l + 1) (hl : l < 1000000)
include hT h2 hl
theorem spoilt_ok : ∀ (k n : Nat) (d : D) (c : Cu), Sm l n d → n < k → ∃ (r : D) (c' : Cu), Sm (l + 1) n r ∧ ∀ L, spoiltR TK k [.ref 0, d] (c.ob :: L) = some (r, c'.ob :: L) := by
  intro k
  induction k with
  | zero => intro n d c _ h; omega
  | succ k ih =>
    intro n d c hs hn
    have tk : ∀ {e : Ev} (c : Cu) (m : Int), 0 < m → m < 1073741824 → e[0]? = some (some (.ref 0)) → ∃ (q : Int) (c' : Cu), 0 ≤ q ∧ q < m ∧ ∀ L, mCall TK (mCons (mV 0) (mCons (mC (.int m)) mNil)) e (c.ob :: L) = some (.int q, c'.ob :: L) := by
      intro e c m h0 h1 he
      obtain ⟨q, c', g1, g2, g3⟩ := hT c m h0 h1
      exact ⟨q, c', g1, g2, fun L => call_of (cons_of (var_of he) (one_of rfl)) (g3 L)⟩
    -- what is no text and no tuple
    have atom : ∀ d : D, (∀ L, mTru (mIsi "str" (mV 1)) [some (.ref 0), some d, none] (c.ob :: L) = some (false, c.ob :: L)) → (∀ L, mTru (mIsi "tuple" (mV 1)) [some (.ref 0), some d, none] (c.ob :: L) = some (false, c.ob :: L)) →
        ∃ (r : D) (c' : Cu), Sm (l + 1) n r ∧ ∀ L, spoiltR TK (k + 1) [.ref 0, d] (c.ob :: L) = some (r, c'.ob :: L) := by
      intro d h1 h3
      obtain ⟨q, c', g1, g2, g3⟩ := tk (e := [some (.ref 0), some d, none]) c 7 (by decide) (by decide) rfl
      obtain ⟨r, hr, hx⟩ := pick (ds := [.int 0, .int 1, .int 2, .int (-1), .bl true, .non, .int 3]) (k := q) ⟨g1, g2⟩
      refine ⟨r, c', ?_, fun L => fn_rt rfl (seq_nx (ifs_of (b := false) (h1 L) rfl) (seq_rt (ifs_of (b := true) (not_of (h3 L)) (ret_of (bin_of (lst_of (ds := [.int 0, .int 1, .int 2, .int (-1), .bl true, .non, .int 3]) rfl (by decide)) (g3 L) (by rw [DV.ix_lst, hx]; rfl)))))) rfl⟩
      simp only [List.mem_cons, List.not_mem_nil, or_false] at hr
      rcases hr with rfl | rfl | rfl | rfl | rfl | rfl | rfl <;> first | exact .int _ _ (by decide) | exact .bl _ _ | exact .non _
    cases hs with
    | non n => exact atom _ (fun L => tru_of (isi_of rfl rfl (by decide +kernel)) rfl) (fun L => tru_of (isi_of rfl rfl (by decide +kernel)) rfl)
    | bl n b => exact atom _ (fun L => tru_of (isi_of rfl rfl (by decide +kernel)) rfl) (fun L => tru_of (isi_of rfl rfl (by decide +kernel)) rfl)
    | int n i h => exact atom _ (fun L => tru_of (isi_of rfl rfl (by decide +kernel)) rfl) (fun L => tru_of (isi_of rfl rfl (by decide +kernel)) rfl)
    | lst n xs _ h => exact atom _ (fun L => tru_of (isi_of rfl rfl (by decide +kernel)) rfl) (fun L => tru_of (isi_of rfl rfl (by decide +kernel)) rfl)
    | str n x h =>
      obtain ⟨q, c', g1, g2, g3⟩ := tk (e := [some (.ref 0), some (.str x), none]) c 11 (by decide) (by decide) rfl
      obtain ⟨r, hr, hx⟩ := pick (ds := [.str "", .str "winner", .str "none", .str "widest", .str "no way", .str "line", .str "worst", .str "crossed", .str "core", .str "no core", .str "tree"]) (k := q) ⟨g1, g2⟩
      refine ⟨r, c', ?_, fun L => fn_rt rfl (seq_rt (ifs_of (b := true) (tru_of (isi_of rfl rfl (by decide +kernel)) rfl) (ret_of (bin_of (lst_of (ds := [.str "", .str "winner", .str "none", .str "widest", .str "no way", .str "line", .str "worst", .str "crossed", .str "core", .str "no core", .str "tree"]) rfl (by decide)) (g3 L) (by rw [DV.ix_lst, hx]; rfl))))) rfl⟩
      simp only [List.mem_cons, List.not_mem_nil, or_false] at hr
      rcases hr with rfl | rfl | rfl | rfl | rfl | rfl | rfl | rfl | rfl | rfl | rfl <;> exact .str _ _ (by decide +kernel)
    | tup n xs hx h =>
      have c1 : ∀ L, mTru (mIsi "str" (mV 1)) [some (.ref 0), some (.tup xs), none] (c.ob :: L) = some (false, c.ob :: L) := fun L => tru_of (isi_of rfl rfl (by decide +kernel)) rfl
      have c2 : ∀ L, mNot (mTru (mIsi "tuple" (mV 1))) [some (.ref 0), some (.tup xs), none] (c.ob :: L) = some (false, c.ob :: L) := fun L => not_of (b := true) (tru_of (isi_of rfl rfl (by decide +kernel)) rfl)
      have c3 : ∀ L, mNot (mTru (mV 1)) [some (.ref 0), some (.tup xs), none] (c.ob :: L) = some (xs.isEmpty, c.ob :: L) := fun L => (not_of (tru_of rfl tr_tup)).trans (by simp)
      -- one of the eight
      have eight : ∀ c1 : Cu, ∃ (r : D) (c' : Cu), Sm (l + 1) (n + 1) r ∧ ∀ L, mRet (mBin fIx (mVal (mLst (mCons (mSl fSlT (mV 1) (mO1 (mC (.int 1))) mO0) (mCons (mSl fSlT (mV 1) mO0 (mO1 (mUn fNeg (mC (.int 1))))) (mCons (mBin fAdd (mV 1) (mSl fSlT (mV 1) (mO1 (mUn fNeg (mC (.int 1)))) mO0)) (mCons (mRevT (mV 1)) (mCons (mVal (mListOf (mV 1))) (mCons (mBin fAdd (mV 1) (mTup (mCons (mC (.int 0)) mNil))) (mCons (mTup mNil) (mCons (mTup (mCons (mC (.int 1)) (mCons (mC (.int 0)) mNil))) mNil)))))))))) (mCall TK (mCons (mV 0) (mCons (mC (.int 8)) mNil)))) [some (.ref 0), some (.tup xs), none] (c1.ob :: L) = some (.rt r, c'.ob :: L) := by
        intro c1
        obtain ⟨q, c', g1, g2, g3⟩ := tk (e := [some (.ref 0), some (.tup xs), none]) c1 8 (by decide) (by decide) rfl
        have sl : ∀ {lo hi : Option Int} {ml mh : MO} {L : Store}, ml [some (.ref 0), some (.tup xs), none] (c1.ob :: L) = some (lo, c1.ob :: L) → mh [some (.ref 0), some (.tup xs), none] (c1.ob :: L) = some (hi, c1.ob :: L) → mSl fSlT (mV 1) ml mh [some (.ref 0), some (.tup xs), none] (c1.ob :: L) = some (.tup (cutD xs lo hi), c1.ob :: L) := by
          intro lo hi ml mh L h1 h2
          rw [r_Sl]
          show Option.bind (some (D.tup xs, c1.ob :: L)) _ = _
          simp only [Option.bind_some]; rw [h1]; simp only [Option.bind_some]; rw [h2]; rfl
        obtain ⟨r, hr, hx2⟩ := pick (ds := [.tup (cutD xs (some 1) none), .tup (cutD xs none (some (-1))), .tup (xs ++ cutD xs (some (-1)) none), .tup xs.reverse, .lst xs, .tup (xs ++ [.int 0]), .tup [], .tup [.int 1, .int 0]]) (k := q) ⟨g1, g2⟩
        have hcl : (cutD xs (some (-1)) none).length ≤ 1 := by
          unfold cutD HT.sIx
          rw [List.length_take, List.length_drop]
          simp only [Int.reduceNeg, Int.reduceLT, if_true]
          omega
        refine ⟨r, c', ?_, fun L => ret_of (bin_of (lst_of (cons_of (sl rfl rfl) (cons_of (sl rfl rfl) (cons_of (bin_of rfl (sl rfl rfl) (add_TD (by have := (cut_mem (xs := xs) (lo := some (-1)) (hi := none)).2; show _ ≤ 16777216; omega))) (cons_of (d := .tup xs.reverse) (S1 := c1.ob :: L) rfl (cons_of (d := .lst xs) (S1 := c1.ob :: L) rfl (cons_of (bin_of rfl (tup_of (one_of rfl) (by decide)) (add_TD (by show xs.length + 1 ≤ 16777216; omega))) (cons_of (tup_of nil_of (by decide)) (one_of (tup_of (cons_of rfl (one_of rfl)) (by decide)))))))))) (by simp only [List.length_cons, List.length_nil]; decide)) (g3 L) (by rw [DV.ix_lst, hx2]; rfl))⟩
        simp only [List.mem_cons, List.not_mem_nil, or_false] at hr
        rcases hr with rfl | rfl | rfl | rfl | rfl | rfl | rfl | rfl
        · exact .tup _ _ (by have := (cut_mem (xs := xs) (lo := some 1) (hi := none)).2; omega) fun d hd => (h d (cut_mem.1 d hd)).mono (by omega)
        · exact .tup _ _ (by have := (cut_mem (xs := xs) (lo := none) (hi := some (-1))).2; omega) fun d hd => (h d (cut_mem.1 d hd)).mono (by omega)
        · refine .tup _ _ (by rw [List.length_append]; omega) fun d hd => ?_
          rcases List.mem_append.mp hd with hd | hd
          · exact (h d hd).mono (by omega)
          · exact (h d (cut_mem.1 d hd)).mono (by omega)
        · exact .tup _ _ (by rw [List.length_reverse]; omega) fun d hd => (h d (by simpa using hd)).mono (by omega)
        · exact .lst _ _ (by omega) fun d hd => (h d hd).mono (by omega)
        · refine .tup _ _ (by rw [List.length_append]; simp only [List.length_cons, List.length_nil]; omega) fun d hd => ?_
          rcases List.mem_append.mp hd with hd | hd
          · exact (h d hd).mono (by omega)
          · simp only [List.mem_cons, List.not_mem_nil, or_false] at hd; subst hd; exact .int _ _ (by decide)
        · exact .tup _ _ (by simp) fun d hd => by simp at hd
        · refine .tup _ _ (by simp only [List.length_cons, List.length_nil]; omega) fun d hd => ?_
          simp only [List.mem_cons, List.not_mem_nil, or_false] at hd
          rcases hd with rfl | rfl <;> exact .int _ _ (by decide)
      cases hxs : xs with
      | nil =>
        subst hxs
        obtain ⟨r, c', g1, g2⟩ := eight c
        exact ⟨r, c', g1, fun L => fn_rt rfl (seq_nx (ifs_of (b := false) (c1 L) rfl) (seq_nx (ifs_of (b := false) (c2 L) rfl) (seq_rt (ifs_of (b := true) (or_of (x := true) (c3 L) rfl) (g2 L))))) rfl⟩
      | cons x0 xr =>
        have he : xs.isEmpty = false := by rw [hxs]; rfl
        rw [← hxs]
        obtain ⟨q, c', g1, g2, g3⟩ := tk (e := [some (.ref 0), some (.tup xs), none]) c 5 (by decide) (by decide) rfl
        have c4 : ∀ L, mOr (mNot (mTru (mV 1))) (mTV (mBin fEq (mCall TK (mCons (mV 0) (mCons (mC (.int 5)) mNil))) (mC (.int 0)))) [some (.ref 0), some (.tup xs), none] (c.ob :: L) = some (q == 0, c'.ob :: L) := fun L =>
          or_of (x := false) ((c3 L).trans (by rw [he])) (tv_of (bin_of (g3 L) rfl (eq_of (r := (q == 0)) (by simp) (by simp) (by rw [rt_int, rt_int, deq_int]))))
        by_cases hq : (q == 0) = true
        · obtain ⟨r, c'', g4, g5⟩ := eight c'
          exact ⟨r, c'', g4, fun L => fn_rt rfl (seq_nx (ifs_of (b := false) (c1 L) rfl) (seq_nx (ifs_of (b := false) (c2 L) rfl) (seq_rt (ifs_of (b := true) ((c4 L).trans (by rw [hq])) (g5 L))))) rfl⟩
        · have hlen : 0 < xs.length := by rw [hxs]; simp
          obtain ⟨p, c2', p1, p2, p3⟩ := hT c' (xs.length : Int) (by omega) (by omega)
          obtain ⟨pn, rfl⟩ := Int.eq_ofNat_of_zero_le p1
          have hpn : pn < xs.length := by omega
          obtain ⟨r, c3', r1, r2⟩ := ih n xs[pn] c2' (h _ (List.getElem_mem hpn)) (by omega)
          refine ⟨.tup (cutD xs none (some (pn : Int)) ++ [r] ++ cutD xs (some ((pn : Int) + 1)) none), c3', ?_, fun L => fn_rt rfl (seq_nx (ifs_of (b := false) (c1 L) rfl) (seq_nx (ifs_of (b := false) (c2 L) rfl) (seq_nx (ifs_of (b := false) ((c4 L).trans (by rw [eq_false_of_ne_true hq])) rfl) (seq_nx (asg_of (call_of (cons_of rfl (one_of (cb_of (one_of rfl) rfl))) (p3 L))) (ret_of (bin_of (bin_of (sl_P rfl rfl rfl rfl) (tup_of (one_of (call_of (cons_of rfl (one_of (bin_of rfl rfl (by rw [DV.ix_tup, atI_of hpn]; rfl)))) (r2 L))) (by show 1 ≤ 16777216; decide)) (add_TD ?_)) (sl_P rfl (o1_of (bin_of rfl rfl r_add)) rfl rfl) (add_TD ?_))))))) rfl⟩
          · refine .tup _ _ ?_ fun d hd => ?_
            · have e1 := (cut_mem (xs := xs) (lo := none) (hi := some (pn : Int))).2
              have e3 : (cutD xs none (some (pn : Int))).length ≤ pn := by
                unfold cutD HT.sIx
                rw [List.length_take]
                simp only [show ¬ ((pn : Int) < 0) by omega, if_false, Int.toNat_natCast]
                omega
              have e4 : (cutD xs (some ((pn : Int) + 1)) none).length ≤ xs.length - (pn + 1) := by
                unfold cutD HT.sIx
                rw [List.length_take, List.length_drop]
                simp only [show ¬ ((pn : Int) + 1 < 0) by omega, if_false]
                omega
              rw [List.length_append, List.length_append]
              simp only [List.length_cons, List.length_nil]
              omega
            · rcases List.mem_append.mp hd with hd | hd
              · rcases List.mem_append.mp hd with hd | hd
                · exact (h d (cut_mem.1 d hd)).mono (by omega)
                · simp only [List.mem_cons, List.not_mem_nil, or_false] at hd; subst hd; exact r1
              · exact (h d (cut_mem.1 d hd)).mono (by omega)
          · have e1 := (cut_mem (xs := xs) (lo := none) (hi := some (pn : Int))).2
            simp only [List.length_cons, List.length_nil]
            show _ ≤ 16777216
            omega
          · have e1 := (cut_mem (xs := xs) (lo := none) (hi := some (pn : Int))).2
            have e2 := (cut_mem (xs := xs) (lo := some ((pn : Int) + 1)) (hi := none)).2
            rw [List.length_append]
            simp only [List.length_cons, List.length_nil]
            show _ ≤ 16777216
            omega
end
def BentOk (B : Fn) : Prop := ∀ (c : Cu) (v : D) (t : Int), Sm 1000 8 v → ∃ (r : AV) (c' : Cu), ∀ L, B [.ref 0, v, .int t] (c.ob :: L) = some (eA r, c'.ob :: L)
theorem bent_ok {TK : Fn} (hT : TakeOk TK) : BentOk (fnM 4 3 .keep (bentT TK (spoiltR TK 16))) := by
  intro c v t hv
  obtain ⟨q, c1, g1, g2, g3⟩ := hT c 2 (by decide) (by decide)
  have hI : I64 (if (fun i j : Int => decide (j < i)) t 0 = true then 1 else 0) := by
    by_cases ht : 0 < t
    · rw [if_pos (decide_eq_true ht)]; decide
    · rw [if_neg (by simp; omega)]; decide
  have hb : ∀ L, mBin fMul (mCB fInt (mCons (mBin fGtD (mV 2) (mC (.int 0))) mNil)) (mBin fAdd (mC (.int 1)) (mCall TK (mCons (mV 0) (mCons (mC (.int 2)) mNil)))) [some (.ref 0), some v, some (.int t), none] (c.ob :: L) = some (.int ((if decide (0 < t) then 1 else 0) * (1 + q)), c1.ob :: L) := fun L =>
    bin_of (int_B (bin_of rfl rfl rfl)) (bin_of rfl (call_of (cons_of rfl (one_of rfl)) (g3 L)) r_add) (mul_of (.inl hI))
  -- how often
  have many : ∀ (z : Nat) (k : Nat) (l : Nat) (c : Cu) (v : D) (x : Option D), l + z ≤ 1002 → 2 ≤ l + 1 → Sm l 8 v → ∃ (r : D) (c' : Cu) (x' : Option D), Sm (l + z) 8 r ∧ ∀ L, forL (Tg.nm 3).f (mAsg (mCall (spoiltR TK 16) (mCons (mV 0) (mCons (mV 1) mNil))) (.nm 1)) ((List.range' k z).map fun (i : Nat) => D.int (0 + (i : Int))) [some (.ref 0), some v, some (.int t), x] (c.ob :: L) = some (.nx [some (.ref 0), some r, some (.int t), x'], c'.ob :: L) := by
    intro z
    induction z with
    | zero => intro k l c v x _ _ hv; exact ⟨v, c, x, hv, fun L => rfl⟩
    | succ z ih =>
      intro k l c v x hl h2 hv
      obtain ⟨r, c2, r1, r2⟩ := spoilt_ok hT h2 (by omega) 16 8 v c hv (by decide)
      obtain ⟨r', c3, x', r3, r4⟩ := ih (k + 1) (l + 1) c2 r (some (.int (0 + (k : Int)))) (by omega) (by omega) r1
      refine ⟨r', c3, x', r3.mono (by omega), fun L => ?_⟩
      rw [List.range'_succ, List.map_cons]
      have e1 : (Tg.nm 3).f (.int (0 + (k : Int))) [some (.ref 0), some v, some (.int t), x] = some [some (.ref 0), some v, some (.int t), some (.int (0 + (k : Int)))] := rfl
      have e2 : mAsg (mCall (spoiltR TK 16) (mCons (mV 0) (mCons (mV 1) mNil))) (.nm 1) [some (.ref 0), some v, some (.int t), some (.int (0 + (k : Int)))] (c.ob :: L) = some (.nx [some (.ref 0), some r, some (.int t), some (.int (0 + (k : Int)))], c2.ob :: L) := asg_of (call_of (cons_of rfl (one_of rfl)) (r2 L))
      simp only [forL]
      rw [e1]; simp only [Option.bind_some]; rw [e2]
      exact r4 L
  have hz : ∃ z : Nat, z ≤ 2 ∧ ((if decide (0 < t) then 1 else 0) * (1 + q) : Int) = (z : Int) := by
    by_cases ht : 0 < t
    · rw [decide_eq_true ht]; exact ⟨(1 + q).toNat, by omega, by simp; omega⟩
    · rw [decide_eq_false ht]; exact ⟨0, by omega, by simp⟩
  obtain ⟨z, hz2, hze⟩ := hz
  obtain ⟨r, c', x', r1, r2⟩ := many z 0 1000 c1 v none (by omega) (by omega) hv
  have hr : D.av 9 r = true := av_mono 8 9 (by omega) _ (r1.av (by omega))
  refine ⟨⟨r, hr⟩, c', fun L => fn_rt rfl (seq_nx (e1 := [some (.ref 0), some r, some (.int t), x']) (S1 := c'.ob :: L) (for_of (rg1_b (one_of ((hb L).trans (by rw [hze]))) (i62 (n := z) (by omega)).2) ?_) (ret_of rfl)) rfl⟩
  · have e : rngL 0 (z : Int) = (List.range' 0 z).map fun (i : Nat) => D.int (0 + (i : Int)) := by
      rw [rngL_ab, List.range_eq_range']; simp
    rw [e]; exact r2 L
open Classical in
noncomputable def bentG (B : Fn) (c : Cu) (v : AV) (t : Int) : AV × Cu := if h : ∃ p : AV × Cu, ∀ L, B [.ref 0, v.1, .int t] (c.ob :: L) = some (eA p.1, p.2.ob :: L) then h.choose else (v, c)
theorem bentG_ok {B : Fn} (h : BentOk B) {c : Cu} {v : AV} {t : Int} (hv : Sm 1000 8 v.1) (L : Store) : B [.ref 0, v.1, .int t] (c.ob :: L) = some (eA (bentG B c v t).1, (bentG B c v t).2.ob :: L) := by
  obtain ⟨r, c', h3⟩ := h c v.1 t hv
  have hx : ∃ p : AV × Cu, ∀ L, B [.ref 0, v.1, .int t] (c.ob :: L) = some (eA p.1, p.2.ob :: L) := ⟨(r, c'), h3⟩
  unfold bentG
  rw [dif_pos hx]
  exact hx.choose_spec L
end DV

/-! DVo: zip, insert, lists of the caller's store, over plain values. -/
namespace DV
open PySem PySem.Spec PyProof.Rows L2
/-- any value as it is -/
def eW (d : D) : D := d
section
variable {α β γ : Type} {e e1 : Ev} {S S1 S2 S3 : Store} {m ma mb : ME} {en : α → D} {en2 : β → D} {xs : List α} {ys : List β} {i j : Int} {d d1 d2 : D}
theorem zipD_Z : ∀ (xs : List α) (ys : List β), zipD (xs.map en) (ys.map en2) = (xs.zip ys).map (eP2 en en2)
  | [], _ => rfl
  | _ :: _, [] => rfl
  | x :: xs, y :: ys => by
    have := zipD_Z xs ys
    unfold zipD at this ⊢
    simp only [List.map_cons, List.zip_cons_cons, this]
theorem zip_of {us vs : List D} (h : ma e S = some (d1, S1)) (h2 : mb e S1 = some (d2, S2)) (q1 : itemsD d1 = some us) (q2 : itemsD d2 = some vs) : mZip ma mb e S = some (.seq (zipD us vs), S2) := by
  unfold mZip
  rw [h]; simp only [Option.bind_some]
  rw [h2]; simp only [Option.bind_some]
  rw [q1, q2]; rfl
theorem src_zipTT (h : ma e S = some (eT en xs, S1)) (h2 : mb e S1 = some (eT en2 ys, S2)) : mZip ma mb e S = some (.seq ((xs.zip ys).map (eP2 en en2)), S2) := by
  rw [← zipD_Z]; exact zip_of h h2 rfl rfl
theorem src_zipTL (h : ma e S = some (eT en xs, S1)) (h2 : mb e S1 = some (eL en2 ys, S2)) : mZip ma mb e S = some (.seq ((xs.zip ys).map (eP2 en en2)), S2) := by
  rw [← zipD_Z]; exact zip_of h h2 rfl rfl
theorem src_zipLT (h : ma e S = some (eL en xs, S1)) (h2 : mb e S1 = some (eT en2 ys, S2)) : mZip ma mb e S = some (.seq ((xs.zip ys).map (eP2 en en2)), S2) := by
  rw [← zipD_Z]; exact zip_of h h2 rfl rfl
theorem src_zipLL (h : ma e S = some (eL en xs, S1)) (h2 : mb e S1 = some (eL en2 ys, S2)) : mZip ma mb e S = some (.seq ((xs.zip ys).map (eP2 en en2)), S2) := by
  rw [← zipD_Z]; exact zip_of h h2 rfl rfl
/-- xs.insert(i, y), i a place -/
def insZ {α : Type} (xs : List α) (i : Int) (y : α) : List α := xs.take i.toNat ++ [y] ++ xs.drop i.toNat
theorem insG_E {p : Nat} {y : α} (ho : ma e S = some (.ref p, S)) (hi : m e S = some (.int i, S)) (h : mb e S = some (en y, S)) (hp : S[p]? = some (.lst (xs.map en))) (hz : xs.length < LIM ∧ 0 ≤ i ∧ i < 2 ^ 62)
    (hs : S.set p (.lst ((insZ xs i y).map en)) = S2) : mDrop (mMt' fInsert ma (mCons m (mCons mb mNil))) e S = some (.nx e, S2) := by
  refine drop_of (d := .non) ?_
  unfold mMt'
  rw [ho]; simp only [Option.bind_some]; rw [hp]; simp only
  rw [cons_of hi (one_of h)]; simp only [Option.bind_some]; rw [hp]; simp only [fInsert, Option.bind_some]
  rw [if_pos (by simpa using hz), ← hs]
  simp [insZ]
theorem setGc_E {p : Nat} {y : α} (h : m e S = some (en y, S1)) (ho : ma e S1 = some (.ref p, S1)) (hi : mb e S1 = some (.int i, S1)) (hp : S1[p]? = some (.lst (xs.map en))) (hr : InR xs i) (hs : S1.set p (.lst ((setZ xs i y).map en)) = S2) : mSetIx m ma mb e S = some (.nx e, S2) := by
  rw [set_E h ho hi hp hr, hs]
theorem getX {A R : Store} {k : Nat} {o : Ob} (h : A[k]? = some o) : (A ++ R)[k]? = some o := by
  rw [List.getElem?_append_left (List.getElem?_eq_some_iff.mp h).1]; exact h
end
end DV

/-! DVz: the greatest common divisor, and fractions as Lean's own. -/
namespace DV
open PySem PySem.Spec PyProof.Rows L2
theorem absZ_eq (a : Int) : absZ a = (a.natAbs : Int) := by unfold absZ; split <;> omega
theorem gcd_step (a b : Int) : Int.gcd b (a % b) = Int.gcd a b := by
  have e : a % b = a - b * (a / b) := by have := Int.mul_ediv_add_emod a b; omega
  rw [e, Int.gcd_sub_mul_left_right, Int.gcd_comm]
theorem gcd_zero_nat (a : Int) : Int.gcd a 0 = a.natAbs := by simp
abbrev euC : Int × Int → Bool := fun t1 => !decide (t1.2 = 0)
abbrev euS {R : Type} : Int × Int → Lo (Int × Int) R := fun t1 => .nx (t1.2, t1.1 % t1.2)
abbrev euF : Int × Int → Lo (Int × Int) Int := fun t1 => bif decide (t1.2 = 0) then .rt (absZ t1.1) else .nx (t1.2, t1.1 % t1.2)
theorem euC_eq (a b : Int) : euC (a, b) = !decide (b = 0) := rfl
theorem euF_z (a : Int) : euF (a, 0) = .rt (absZ a) := rfl
theorem euF_n {a b : Int} (h : b ≠ 0) : euF (a, b) = .nx (b, a % b) := by show (bif decide (b = 0) then _ else _) = _; rw [decide_eq_false h]; rfl
theorem forP_nx {α T R : Type} {step : T → α → Lo T R} {t t' : T} {x : α} {xs : List α} (h : step t x = .nx t') : forP step t (x :: xs) = forP step t' xs := by simp only [forP, h]
theorem forP_rt {α T R : Type} {step : T → α → Lo T R} {t : T} {r : R} {x : α} {xs : List α} (h : step t x = .rt r) : forP step t (x :: xs) = .rt r := by simp only [forP, h]
theorem okFor_nx {α T R : Type} {ok : T → α → Prop} {step : T → α → Lo T R} {t t' : T} {x : α} {xs : List α} (h : step t x = .nx t') (h1 : ok t x) (h2 : okFor ok step t' xs) : okFor ok step t (x :: xs) := ⟨h1, by rw [h]; exact h2⟩
theorem okFor_rt {α T R : Type} {ok : T → α → Prop} {step : T → α → Lo T R} {t : T} {r : R} {x : α} {xs : List α} (h : step t x = .rt r) (h1 : ok t x) : okFor ok step t (x :: xs) := ⟨h1, by rw [h]; trivial⟩
theorem half_lt {b r : Int} {k : Nat} (h : b < 2 ^ (k + 1)) (hr : 0 < r) (hb : r < b) : 0 ≤ b % r ∧ b % r < 2 ^ k := by
  have h1 := Int.emod_nonneg b (b := r) (by omega)
  have h2 := Int.emod_lt_of_pos b hr
  have h3 : b % r ≤ b - r := by
    have := Int.mul_ediv_add_emod b r
    have h4 : 1 ≤ b / r := Int.le_ediv_of_mul_le hr (by omega)
    have h5 : r * 1 ≤ r * (b / r) := Int.mul_le_mul_of_nonneg_left h4 (by omega)
    omega
  rw [Int.pow_succ] at h
  omega
theorem eu_while {R : Type} : ∀ (k n : Nat) (a b : Int), 0 ≤ b → b < 2 ^ k → 2 * k + 1 ≤ n → ∃ g : Int, whileP (R := R) euC euS n (a, b) = .nx (g, 0) ∧ g.natAbs = Int.gcd a b ∧ (0 < b → 0 < g) ∧ (b = 0 → g = a) ∧ okWhile (R := R) (fun _ => True) (fun t1 => 0 < t1.2) euC euS n (a, b)
  | k, n + 1, a, b, h0, hb, hn => by
    by_cases hz : b = 0
    · subst hz
      refine ⟨a, ?_, by simp, fun h => by omega, fun _ => rfl, trivial, fun h => by simp at h⟩
      simp [whileP]
    · match k, hb with
      | 0, hb => simp at hb; omega
      | k + 1, hb =>
        have hp : 0 < b := by omega
        have r0 := Int.emod_nonneg a (b := b) hz
        have r1 := Int.emod_lt_of_pos a hp
        by_cases hr : a % b = 0
        · match n, hn with
          | n + 1, hn =>
            refine ⟨b, ?_, ?_, fun _ => hp, fun h => absurd h hz, trivial, fun _ => ⟨hp, ?_⟩⟩
            · simp [whileP, hz, hr]
            · rw [← gcd_step, hr, gcd_zero_nat]
            · show okWhile _ _ euC euS (n + 1) (b, a % b)
              rw [hr]
              exact ⟨trivial, fun h => by simp at h⟩
        · match n, hn with
          | n + 1, hn =>
            obtain ⟨s0, s1⟩ := half_lt hb (by omega : 0 < a % b) r1
            obtain ⟨g, g1, g2, g3, g4, g5⟩ := eu_while (R := R) k n (a % b) (b % (a % b)) s0 s1 (by omega)
            refine ⟨g, ?_, ?_, fun _ => ?_, fun h => absurd h hz, trivial, fun _ => ⟨hp, trivial, fun _ => ⟨by show 0 < a % b; omega, g5⟩⟩⟩
            · have c1 : euC (a, b) = true := by simp [euC_eq, hz]
              have c2 : euC (b, a % b) = true := by simp [euC_eq, hr]
              simp only [whileP, c1, c2, cond_true]
              exact g1
            · rw [g2, gcd_step, gcd_step]
            · by_cases h : b % (a % b) = 0
              · rw [g4 h]; omega
              · exact g3 (by omega)
theorem eu_for : ∀ (k : Nat) (xs : List Int) (a b : Int), 0 ≤ b → b < 2 ^ k → 2 * k + 1 ≤ xs.length → forP (fun t1 (_ : Int) => euF t1) (a, b) xs = .rt (Int.gcd a b : Int) ∧ okFor (fun (t1 : Int × Int) (_ : Int) => decide (t1.2 = 0) = false → 0 < t1.2) (fun t1 (_ : Int) => euF t1) (a, b) xs
  | k, x :: xs, a, b, h0, hb, hn => by
    by_cases hz : b = 0
    · subst hz
      exact ⟨by rw [forP_rt (euF_z a), gcd_zero_nat, absZ_eq], okFor_rt (euF_z a) fun h => by simp at h⟩
    · match k, hb with
      | 0, hb => simp at hb; omega
      | k + 1, hb =>
        have hp : 0 < b := by omega
        have r0 := Int.emod_nonneg a (b := b) hz
        have r1 := Int.emod_lt_of_pos a hp
        have e1 : euF (a, b) = .nx (b, a % b) := euF_n hz
        simp only [List.length_cons] at hn
        by_cases hr : a % b = 0
        · match xs, hn with
          | y :: ys, hn =>
            have e2 : euF (b, a % b) = .rt (absZ b) := by rw [hr]; rfl
            exact ⟨by rw [forP_nx e1, forP_rt e2, ← gcd_step, hr, gcd_zero_nat, absZ_eq], okFor_nx e1 (fun _ => hp) (okFor_rt e2 fun h => by simp [hr] at h)⟩
        · match xs, hn with
          | y :: ys, hn =>
            simp only [List.length_cons] at hn
            have e2 : euF (b, a % b) = .nx (a % b, b % (a % b)) := euF_n hr
            obtain ⟨s0, s1⟩ := half_lt hb (by omega : 0 < a % b) r1
            obtain ⟨g1, g2⟩ := eu_for k ys (a % b) (b % (a % b)) s0 s1 (by omega)
            exact ⟨by rw [forP_nx e1, forP_nx e2, g1, gcd_step, gcd_step], okFor_nx e1 (fun _ => hp) (okFor_nx e2 (fun _ => by show 0 < a % b; omega) g2)⟩
theorem pow8 {b : Int} (h : b.natAbs < BIG) : b < 2 ^ 8000 := by
  rw [BIG_eq] at h
  have h2 : ((b.natAbs : Nat) : Int) < ((2 ^ 8000 : Nat) : Int) := Int.ofNat_lt.mpr h
  rw [Int.natCast_pow] at h2
  have : b ≤ (b.natAbs : Int) := by omega
  exact Int.lt_of_le_of_lt this h2
/-- the program's common divisor -/
theorem cd_eq {R : Type} {a b : Int} (hb : b.natAbs < BIG) (h : a ≠ 0 ∨ b ≠ 0) : whileP (R := R) euC euS 1000000 (absZ a, absZ b) = .nx ((Int.gcd a b : Int), 0) ∧ okWhile (R := R) (fun _ => True) (fun t1 => 0 < t1.2) euC euS 1000000 (absZ a, absZ b) := by
  have h1 := absZ_eq a
  have h2 := absZ_eq b
  have hg : Int.gcd (absZ a) (absZ b) = Int.gcd a b := by rw [h1, h2]; simp [Int.gcd]
  obtain ⟨g, g1, g2, g3, g4, g5⟩ := eu_while (R := R) 8000 1000000 (absZ a) (absZ b) (by omega) (pow8 (by rw [h2]; simpa using hb)) (by decide)
  have : g = (Int.gcd a b : Int) := by
    rw [hg] at g2
    by_cases hz : absZ b = 0
    · have := g4 hz; omega
    · have := g3 (by omega); omega
  subst this
  exact ⟨g1, g5⟩
/-- the laws' divisor -/
theorem ld_eq {a b : Int} (hb : b.natAbs < BIG) (h0 : 0 ≤ b) : forP (fun t1 (_ : Int) => euF t1) (a, b) (rngZ 0 20000) = .rt (Int.gcd a b : Int) ∧ okFor (fun (t1 : Int × Int) (_ : Int) => decide (t1.2 = 0) = false → 0 < t1.2) (fun t1 (_ : Int) => euF t1) (a, b) (rngZ 0 20000) :=
  eu_for 8000 (rngZ 0 20000) a b h0 (pow8 hb) (by unfold rngZ; rw [List.length_map, List.length_range]; decide)
/-! ### fractions -/
def ofQ (q : Rat) : Int × Int := (q.num, (q.den : Int))
def toQ (p : Int × Int) : Rat := Rat.divInt p.1 p.2
structure IsQ (p : Int × Int) : Prop where
  pos : 0 < p.2
  one : Int.gcd p.1 p.2 = 1
theorem ofQ_ok (q : Rat) : IsQ (ofQ q) := ⟨by have := q.den_pos; show 0 < (q.den : Int); omega, by
  show Int.gcd q.num (q.den : Int) = 1
  have := q.reduced
  simpa [Int.gcd] using this⟩
theorem ofQ_toQ {p : Int × Int} (h : IsQ p) : ofQ (toQ p) = p := by
  obtain ⟨a, b⟩ := p
  obtain ⟨h1, h2⟩ := h
  simp only at h1 h2
  unfold ofQ toQ
  simp only [Rat.num_divInt, Rat.den_divInt]
  rw [Int.gcd_comm, h2, Int.sign_eq_one_of_pos h1, if_neg (by omega)]
  simp
  omega
theorem toQ_ofQ (q : Rat) : toQ (ofQ q) = q := by unfold toQ ofQ; simp
theorem ofQ_inj {p q : Rat} : ofQ p = ofQ q ↔ p = q := ⟨fun h => by rw [← toQ_ofQ p, h, toQ_ofQ], fun h => by rw [h]⟩
theorem ofQ_int (i : Int) : ofQ (i : Rat) = (i, 1) := by unfold ofQ; simp
theorem ofQ_divInt {a b : Int} (hb : 0 < b) : ofQ (Rat.divInt a b) = (a / (Int.gcd a b : Int), b / (Int.gcd a b : Int)) := by
  unfold ofQ
  rw [Rat.num_divInt, Rat.den_divInt, if_neg (by omega), Int.sign_eq_one_of_pos hb, Int.one_mul, Int.gcd_comm, Int.natCast_ediv]
  congr 2
  omega
theorem den_pos (q : Rat) : (0 : Int) < (q.den : Int) := by have := q.den_pos; omega
theorem add_eq (p q : Rat) : Rat.divInt (p.num * q.den + q.num * p.den) (p.den * q.den) = p + q := by
  have := Rat.divInt_add_divInt p.num q.num (d₁ := p.den) (d₂ := q.den) (by have := den_pos p; omega) (by have := den_pos q; omega)
  rw [Rat.num_divInt_den, Rat.num_divInt_den] at this
  exact this.symm
theorem mul_eq (p q : Rat) : Rat.divInt (p.num * q.num) (p.den * q.den) = p * q := by
  have := Rat.divInt_mul_divInt p.num q.num (d₁ := p.den) (d₂ := q.den)
  rw [Rat.num_divInt_den, Rat.num_divInt_den] at this
  exact this.symm
theorem pdens (p q : Rat) : 0 < (p.den : Int) * (q.den : Int) := Int.mul_pos (den_pos p) (den_pos q)
/-- how many bits -/
structure QB (n : Nat) (q : Rat) : Prop where
  num : q.num.natAbs < 2 ^ n
  den : q.den < 2 ^ n
theorem pow_mono {m n : Nat} (h : m ≤ n) : 2 ^ m ≤ 2 ^ n := Nat.pow_le_pow_right (by decide) h
theorem QB.mono {m n : Nat} {q : Rat} (h : QB m q) (hm : m ≤ n) : QB n q := ⟨Nat.lt_of_lt_of_le h.num (pow_mono hm), Nat.lt_of_lt_of_le h.den (pow_mono hm)⟩
theorem divInt_num_le {a b : Int} (hb : 0 < b) : (Rat.divInt a b).num.natAbs ≤ a.natAbs := by
  rw [Rat.num_divInt, Int.sign_eq_one_of_pos hb, Int.one_mul]
  exact Int.natAbs_ediv_le_natAbs _ _
theorem divInt_den_le {a b : Int} (hb : 0 < b) : (Rat.divInt a b).den ≤ b.natAbs := by
  rw [Rat.den_divInt, if_neg (by omega)]
  exact Nat.div_le_self _ _
theorem mul_bits {a b m n : Nat} (h1 : a < 2 ^ m) (h2 : b < 2 ^ n) : a * b < 2 ^ (m + n) := by
  rw [Nat.pow_add]
  by_cases h0 : a = 0
  · subst h0; rw [Nat.zero_mul]; exact Nat.mul_pos (Nat.pow_pos (by decide)) (Nat.pow_pos (by decide))
  · exact Nat.lt_of_lt_of_le (Nat.mul_lt_mul_of_pos_left h2 (by omega)) (Nat.mul_le_mul_right _ (Nat.le_of_lt h1))
theorem add_bits {a b m : Nat} (h1 : a < 2 ^ m) (h2 : b < 2 ^ m) : a + b < 2 ^ (m + 1) := by rw [Nat.pow_succ]; omega
theorem sum_bits {p q : Rat} {m n : Nat} (h : QB m p) (h2 : QB n q) : (p.num * q.den + q.num * p.den).natAbs < 2 ^ (m + n + 1) ∧ ((p.den : Int) * q.den).natAbs < 2 ^ (m + n) := by
  refine ⟨Nat.lt_of_le_of_lt (Int.natAbs_add_le _ _) (add_bits ?_ ?_), ?_⟩
  · rw [Int.natAbs_mul, Int.natAbs_natCast]; exact mul_bits h.num h2.den
  · rw [Int.natAbs_mul, Int.natAbs_natCast, Nat.add_comm m n]; exact mul_bits h2.num h.den
  · rw [Int.natAbs_mul, Int.natAbs_natCast, Int.natAbs_natCast]; exact mul_bits h.den h2.den
theorem QB.add {m n : Nat} {p q : Rat} (h : QB m p) (h2 : QB n q) : QB (m + n + 1) (p + q) := by
  obtain ⟨b1, b2⟩ := sum_bits h h2
  rw [← add_eq]
  exact ⟨Nat.lt_of_le_of_lt (divInt_num_le (pdens p q)) b1, Nat.lt_of_le_of_lt (divInt_den_le (pdens p q)) (Nat.lt_of_lt_of_le b2 (pow_mono (by omega)))⟩
theorem QB.mul {m n : Nat} {p q : Rat} (h : QB m p) (h2 : QB n q) : QB (m + n) (p * q) := by
  rw [← mul_eq]
  refine ⟨Nat.lt_of_le_of_lt (divInt_num_le (pdens p q)) ?_, Nat.lt_of_le_of_lt (divInt_den_le (pdens p q)) ?_⟩
  · rw [Int.natAbs_mul]; exact mul_bits h.num h2.num
  · rw [Int.natAbs_mul, Int.natAbs_natCast, Int.natAbs_natCast]; exact mul_bits h.den h2.den
theorem QB.neg {m : Nat} {p : Rat} (h : QB m p) : QB m (-p) := ⟨by rw [Rat.neg_num, Int.natAbs_neg]; exact h.num, by rw [Rat.neg_den]; exact h.den⟩
theorem QB.sub {m n : Nat} {p q : Rat} (h : QB m p) (h2 : QB n q) : QB (m + n + 1) (p - q) := by
  rw [Rat.sub_eq_add_neg]; exact h.add h2.neg
theorem QB.int {i : Int} {n : Nat} (h : i.natAbs < 2 ^ n) (h0 : 0 < n) : QB n (i : Rat) := ⟨by simpa using h, by simpa using Nat.lt_of_lt_of_le (by decide : 1 < 2 ^ 1) (pow_mono h0)⟩
theorem QB.zero : QB 1 0 := ⟨by decide, by decide⟩
theorem QB.toQ {p : Int × Int} {n : Nat} (h : IsQ p) (h1 : p.1.natAbs < 2 ^ n) (h2 : p.2.natAbs < 2 ^ n) : QB n (toQ p) := by
  have e := ofQ_toQ h
  have e1 : (DV.toQ p).num = p.1 := congrArg Prod.fst e
  have e2 : ((DV.toQ p).den : Int) = p.2 := congrArg Prod.snd e
  exact ⟨by rw [e1]; exact h1, by omega⟩
theorem big_bits {a n : Nat} (h : a < 2 ^ n) (hn : n ≤ 8000) : a < BIG := by rw [BIG_eq]; exact Nat.lt_of_lt_of_le h (pow_mono hn)
theorem mulOk_bits {a b : Int} {m n : Nat} (h1 : a.natAbs < 2 ^ m) (h2 : b.natAbs < 2 ^ n) (hm : m ≤ 8000) (hn : n ≤ 8000) : MulOk a b := .inr ⟨big_bits h1 hm, big_bits h2 hn⟩
theorem gcd_pos' {a b : Int} (h : b ≠ 0) : 0 < Int.gcd a b := Int.gcd_pos_of_ne_zero_right a h
theorem gcd_le_r {a b : Int} (h : b ≠ 0) : Int.gcd a b ≤ b.natAbs := Nat.le_of_dvd (by omega) (Nat.gcd_dvd_right _ _)
/-- a sum from the left -/
def totQ : Rat → List Rat → Rat
  | a, [] => a
  | a, q :: l => totQ (a + q) l
theorem totQ_eq : ∀ (l : List Rat) (a : Rat), totQ a l = a + l.sum
  | [], a => by simp [totQ, Rat.add_zero]
  | q :: l, a => by rw [totQ, totQ_eq l, List.sum_cons]; grind
/-- all of a row are fractions: as Lean's own -/
theorem exists_ofQ : ∀ {l : List (Int × Int)}, (∀ p ∈ l, IsQ p) → ∃ qs : List Rat, l = qs.map ofQ
  | [], _ => ⟨[], rfl⟩
  | p :: l, h => by
    obtain ⟨qs, e⟩ := exists_ofQ fun x hx => h x (List.mem_cons_of_mem _ hx)
    exact ⟨toQ p :: qs, by rw [List.map_cons, ofQ_toQ (h p (by simp)), ← e]⟩
end DV

/-! DVp: plain helpers. -/
namespace DV
open PySem PySem.Spec PyProof.Rows L2
instance decFold {α T : Type} {ok : T → α → Prop} [∀ t x, Decidable (ok t x)] {step : T → α → T} : ∀ (t : T) (xs : List α), Decidable (okFold ok step t xs)
  | _, [] => isTrue trivial
  | t, x :: xs => @instDecidableAnd _ _ _ (decFold (step t x) xs)
theorem ixZ_nat {α : Type} [Inhabited α] (xs : List α) (i : Nat) : ixZ xs (i : Int) = xs.getD i default := by
  unfold ixZ ixP; rw [if_neg (by omega)]; rfl
theorem ixZ_0 {α : Type} [Inhabited α] (xs : List α) : ixZ xs 0 = xs.getD 0 default := ixZ_nat xs 0
theorem ixZ_1 {α : Type} [Inhabited α] (xs : List α) : ixZ xs 1 = xs.getD 1 default := ixZ_nat xs 1
theorem InR_nat {α : Type} {xs : List α} {i : Nat} (h : i < xs.length) : InR xs (i : Int) := ⟨by omega, by omega⟩
theorem ixZ_nat' {α : Type} [Inhabited α] {xs : List α} {i : Nat} (h : i < xs.length) : ixZ xs (i : Int) = xs[i] := by rw [ixZ_nat]; simp [h]
theorem setZ_nat {α : Type} (xs : List α) (i : Nat) (x : α) : setZ xs (i : Int) x = xs.set i x := by
  unfold setZ ixP; rw [if_neg (by omega)]; rfl
theorem rngZ_nat (n : Nat) : rngZ 0 (n : Int) = (List.range n).map fun (i : Nat) => (i : Int) := by unfold rngZ; simp
theorem rngZ_len (n : Nat) : (rngZ 0 (n : Int)).length = n := by rw [rngZ_nat]; simp
theorem mem_rngZ {a b x : Int} : x ∈ rngZ a b ↔ a ≤ x ∧ x < b := by
  unfold rngZ
  simp only [List.mem_map, List.mem_range]
  constructor
  · rintro ⟨i, hi, rfl⟩; omega
  · rintro ⟨h1, h2⟩; exact ⟨(x - a).toNat, by omega, by omega⟩
theorem mem_rngN {n : Nat} {x : Int} : x ∈ rngZ 0 (n : Int) ↔ ∃ i : Nat, i < n ∧ x = (i : Int) := by
  rw [mem_rngZ]
  constructor
  · rintro ⟨h1, h2⟩; exact ⟨x.toNat, by omega, by omega⟩
  · rintro ⟨i, h1, rfl⟩; omega
theorem enumZ_eq {α : Type} [Inhabited α] (xs : List α) : enumZ xs = (List.range xs.length).map fun (i : Nat) => ((i : Int), xs.getD i default) := by
  unfold enumZ
  apply List.ext_getElem
  · simp
  · intro i h1 h2
    simp at h1
    simp [h1]
theorem i62_nat {n : Nat} (h : n ≤ 16777216) : I62 (n : Int) := (i62 h).2
theorem dle_int (a b : Int) : dle (.int a) (.int b) = decide (a ≤ b) := by
  have := congrFun (congrFun (PySem.W.dataLe_int (fun i : Int => i)) a) b
  have e : dle (.int a) (.int b) = PySem.W.dataLe false (fun i : Int => PyData.int i) a b := by
    unfold dle PySem.W.dataLe PySem.W.sortLe
    simp [D.py]
  rw [e, this]
theorem sortZ_int (xs : List Int) : sortZ eI xs = xs.mergeSort fun a b => decide (a ≤ b) := by
  unfold sortZ
  have : (fun a b => dle (eI a) (eI b)) = fun a b : Int => decide (a ≤ b) := by funext a b; exact dle_int a b
  rw [this]
theorem sortI_perm (xs : List Int) : (sortZ eI xs).Perm xs := by rw [sortZ_int]; exact List.mergeSort_perm _ _
theorem sortI_sorted (xs : List Int) : (sortZ eI xs).Pairwise (· ≤ ·) := by
  rw [sortZ_int]
  have := List.pairwise_mergeSort (le := fun a b : Int => decide (a ≤ b)) (fun a b c h1 h2 => by simp at *; omega) (fun a b => by simp; omega) xs
  exact this.imp fun h => by simpa using h
theorem sortI_eq {xs ys : List Int} (h : xs.Perm ys) (hs : ys.Pairwise (· ≤ ·)) : sortZ eI xs = ys :=
  List.Perm.eq_of_pairwise (le := (· ≤ ·)) (fun a b _ _ h1 h2 => by omega) (sortI_sorted xs) hs ((sortI_perm xs).trans h)
theorem sortI_ok (xs : List Int) : D.fitL 31 (xs.map eI) = true ∧ alikeB (xs.map eI) = true ∧ sortableB (xs.map eI) = true := by
  refine ⟨fitL_map fun _ _ => fit_int, ?_, ?_⟩
  · unfold alikeB
    simp only [List.all_map, List.all_eq_true]
    intro a _
    simp [notNonB, dalike, D.py, PySem.W.alike]
  · unfold sortableB
    rw [Bool.or_eq_true]
    right
    simp
theorem rng_sorted (n : Nat) : (rngZ 0 (n : Int)).Pairwise (· ≤ ·) := by
  rw [rngZ_nat, List.pairwise_map]
  exact (List.pairwise_lt_range).imp fun h => by omega
theorem deq_str_av {v : AV} {s : Sx} : deq (eA v) (eS s) = true ↔ v.1 = .str s.1 := by
  obtain ⟨d, hd⟩ := v
  cases d with
  | str x => show deq (.str x) (.str s.1) = true ↔ _; simp
  | bl b => simp [deq, D.py, PyData.eqv]
  | tup x => simp [deq, D.py, PyData.eqv]
  | lst x => simp [deq, D.py, PyData.eqv]
  | int x => simp [deq, D.py, PyData.eqv]
  | non => show deq .non (.str s.1) = true ↔ _; simp
  | ref x => simp [D.av] at hd
  | fr x => simp [D.av] at hd
  | rng x y => simp [D.av] at hd
theorem deq_lst_int (xs ys : List Int) : deq (eL eI xs) (eL eI ys) = decide (xs = ys) := by rw [deq_lst, deqL_map (fun a b => by simp; rfl)]
namespace AV
theorem isI_iff (v : AV) : (v.isInt && !v.isBl) = v.isI := by
  obtain ⟨d, hd⟩ := v
  cases d <;> rfl
/-- a row of ints -/
theorem row_ints {v : AV} (h : v.isTup = true) (hi : ∀ x ∈ v.items, x.isI = true) : v.items.map eA = (v.items.map AV.int).map eI ∧ v.1 = eT eI (v.items.map AV.int) := by
  have e : v.items.map eA = (v.items.map AV.int).map eI := by
    rw [List.map_map]
    exact List.map_congr_left fun x hx => i_eq (hi x hx)
  exact ⟨e, by rw [tup_eq h]; show D.tup _ = D.tup _; rw [e]⟩
theorem items_tup {xs : List D} {h : D.av 9 (.tup xs) = true} : (AV.items ⟨.tup xs, h⟩).map eA = xs := by rw [items_raw]; rfl
theorem sorted_ints {v : AV} (hi : ∀ x ∈ v.items, x.isI = true) : (sortZ eA v.items).map eA = (sortZ eI (v.items.map AV.int)).map eI := by
  have e : v.items.map eA = (v.items.map AV.int).map eI := by
    rw [List.map_map]
    exact List.map_congr_left fun x hx => i_eq (hi x hx)
  have e1 : ∀ {α : Type} (en : α → D) (xs : List α), (sortZ en xs).map en = (xs.map en).mergeSort dle := fun en xs => List.map_mergeSort (f := en) (r := fun a b => dle (en a) (en b)) (s := dle) (l := xs) (fun a _ b _ => rfl)
  rw [e1, e1, e]
theorem small (v : AV) (x : AV) (h : x ∈ v.items) : x.int.natAbs < 2 ^ 40 := by
  have := int_lt x
  have e : (2 : Nat) ^ 40 = 1099511627776 := by decide
  rw [e]; exact this
end AV
theorem mkA_1 {d : D} (h : D.av 9 d = true) : (mkA d).1 = d := mkA_eq h
theorem mkA_eq' {d : D} (h : D.av 9 d = true) : mkA d = ⟨d, h⟩ := Subtype.ext (mkA_eq h)
theorem sum_perm {l1 l2 : List Int} (h : l1.Perm l2) : l1.sum = l2.sum := by
  induction h with
  | nil => rfl
  | cons x _ ih => simp [ih]
  | swap x y l => simp; omega
  | trans _ _ ih1 ih2 => exact ih1.trans ih2
theorem sum_permQ {l1 l2 : List Rat} (h : l1.Perm l2) : l1.sum = l2.sum := by
  induction h with
  | nil => rfl
  | cons x _ ih => simp [ih]
  | swap x y l => simp; grind
  | trans _ _ ih1 ih2 => exact ih1.trans ih2
end DV

/-! BFm: shortest ways by rounds, and pairings that can't be bettered. -/
namespace BF
def mn (f : Nat → Int) : Nat → Int
  | 0 => 0
  | 1 => f 0
  | m + 2 => min (mn f (m + 1)) (f (m + 1))
theorem mn_le (f : Nat → Int) : ∀ (n k : Nat), k < n → mn f n ≤ f k
  | 1, k, h => by have : k = 0 := by omega
                  subst this; exact Int.le_refl _
  | m + 2, k, h => by
    have ih := mn_le f (m + 1) k
    unfold mn
    by_cases hk : k = m + 1
    · subst hk; omega
    · have := ih (by omega); omega
theorem mn_ex (f : Nat → Int) : ∀ (n : Nat), 0 < n → ∃ k, k < n ∧ mn f n = f k
  | 1, _ => ⟨0, by omega, rfl⟩
  | m + 2, _ => by
    obtain ⟨k, h1, h2⟩ := mn_ex f (m + 1) (by omega)
    unfold mn
    by_cases h : mn f (m + 1) ≤ f (m + 1)
    · exact ⟨k, by omega, by omega⟩
    · exact ⟨m + 1, by omega, by omega⟩
theorem le_mn (f : Nat → Int) (n : Nat) (x : Int) (h0 : 0 < n) (h : ∀ k, k < n → x ≤ f k) : x ≤ mn f n := by
  obtain ⟨k, h1, h2⟩ := mn_ex f n h0
  rw [h2]; exact h k h1
section
variable (n : Nat) (d : Nat → Nat → Int) (u : Nat → Int)
def P : Nat → Nat → Int
  | 0, i => u i
  | t + 1, i => mn (fun k => P t k + d i k) n
def val : List Nat → Int
  | [] => 0
  | [i] => u i
  | i :: k :: r => d i k + val (k :: r)
/-- the cost of a walk from a, along r, to z -/
def wc (a : Nat) : List Nat → Nat → Int
  | [], z => d a z
  | b :: r, z => d a b + wc b r z
theorem val_wc : ∀ (r : List Nat) (a z : Nat) (C : List Nat), val d u (a :: (r ++ z :: C)) = wc d a r z + val d u (z :: C)
  | [], a, z, C => rfl
  | b :: r, a, z, C => by
    show d a b + val d u (b :: (r ++ z :: C)) = d a b + wc d b r z + val d u (z :: C)
    rw [val_wc r b z C]; omega
variable {n d u} (hn : 0 < n) (hd : ∀ i, d i i = 0)
include hn in
theorem P_le_val : ∀ (t i : Nat) (r : List Nat), r.length ≤ t → i < n → (∀ y ∈ r, y < n) → (hd : ∀ i, d i i = 0) → P n d u t i ≤ val d u (i :: r)
  | 0, i, r, h, _, _, _ => by
    have : r = [] := List.length_eq_zero_iff.mp (by omega)
    subst this; exact Int.le_refl _
  | t + 1, i, [], _, hi, hr, hd => by
    have h1 : P n d u (t + 1) i ≤ P n d u t i + d i i := mn_le _ n i hi
    have h2 := P_le_val t i [] (by simp) hi (by simp) hd
    rw [hd] at h1; omega
  | t + 1, i, k :: r, h, hi, hr, hd => by
    have h1 : P n d u (t + 1) i ≤ P n d u t k + d i k := mn_le _ n k (hr k (by simp))
    have h2 := P_le_val t k r (by simp at h; omega) (hr k (by simp)) (fun y hy => hr y (by simp [hy])) hd
    show _ ≤ d i k + val d u (k :: r)
    omega
include hn in
theorem P_ex : ∀ (t i : Nat), i < n → ∃ r : List Nat, (∀ y ∈ r, y < n) ∧ P n d u t i = val d u (i :: r)
  | 0, i, _ => ⟨[], by simp, rfl⟩
  | t + 1, i, hi => by
    obtain ⟨k, h1, h2⟩ := mn_ex (fun k => P n d u t k + d i k) n hn
    obtain ⟨r, h3, h4⟩ := P_ex t k h1
    refine ⟨k :: r, fun y hy => ?_, ?_⟩
    · rcases List.mem_cons.mp hy with rfl | hy
      · exact h1
      · exact h3 y hy
    · show mn _ n = d i k + val d u (k :: r)
      rw [h2, h4]; omega
/-- no circle costs less than nothing -/
def NC (n : Nat) (d : Nat → Nat → Int) : Prop := ∀ (x : Nat) (B : List Nat), (x :: B).Nodup → (∀ y ∈ x :: B, y < n) → 0 ≤ wc d x B x
theorem short (h : NC n d) : ∀ (r : List Nat) (i : Nat), i < n → (∀ y ∈ r, y < n) → ∃ r' : List Nat, (i :: r').Nodup ∧ (∀ y ∈ r', y < n) ∧ val d u (i :: r') ≤ val d u (i :: r)
  | [], i, hi, _ => ⟨[], by simp, by simp, Int.le_refl _⟩
  | k :: r, i, hi, hr => by
    obtain ⟨r1, h1, h2, h3⟩ := short h r k (hr k (by simp)) fun y hy => hr y (by simp [hy])
    have hk : ∀ y ∈ k :: r1, y < n := fun y hy => by
      rcases List.mem_cons.mp hy with rfl | hy
      · exact hr _ (by simp)
      · exact h2 y hy
    by_cases hm : i ∈ k :: r1
    · obtain ⟨B, C, e⟩ := List.append_of_mem hm
      have hnd : (B ++ i :: C).Nodup := by rw [← e]; exact h1
      have hall : ∀ y ∈ B ++ i :: C, y < n := by rw [← e]; exact hk
      rw [List.nodup_append] at hnd
      obtain ⟨n1, n2, n3⟩ := hnd
      have hiB : (i :: B).Nodup := List.nodup_cons.mpr ⟨fun hb => n3 i hb i (by simp) rfl, n1⟩
      have hc := h i B hiB fun y hy => by
        rcases List.mem_cons.mp hy with rfl | hy
        · exact hi
        · exact hall y (by simp [hy])
      have e2 : val d u (i :: k :: r1) = wc d i B i + val d u (i :: C) := by rw [e, val_wc]
      have e3 : val d u (i :: k :: r1) = d i k + val d u (k :: r1) := rfl
      refine ⟨C, n2, fun y hy => hall y (by simp [hy]), ?_⟩
      show _ ≤ d i k + val d u (k :: r)
      omega
    · refine ⟨k :: r1, List.nodup_cons.mpr ⟨hm, h1⟩, hk, ?_⟩
      show d i k + val d u (k :: r1) ≤ d i k + val d u (k :: r)
      omega
theorem nodup_len {l : List Nat} (h : l.Nodup) (hl : ∀ y ∈ l, y < n) : l.length ≤ n := by
  have := List.Nodup.length_le_of_subset (l₁ := l) (l₂ := List.range n) h fun y hy => List.mem_range.mpr (hl y hy)
  simpa using this
variable (n d u) in
def D (i : Nat) : Int := P n d u (n - 1) i
include hn hd in
theorem D_le (h : NC n d) {i : Nat} (hi : i < n) {r : List Nat} (hr : ∀ y ∈ r, y < n) : D n d u i ≤ val d u (i :: r) := by
  obtain ⟨r', h1, h2, h3⟩ := short (u := u) h r i hi hr
  have := nodup_len h1 fun y hy => by
    rcases List.mem_cons.mp hy with rfl | hy
    · exact hi
    · exact h2 y hy
  exact Int.le_trans (P_le_val hn (n - 1) i r' (by simp at this; omega) hi h2 hd) h3
include hn hd in
theorem D_u (h : NC n d) {i : Nat} (hi : i < n) : D n d u i ≤ u i := D_le (r := []) hn hd h hi (by simp)
include hn hd in
theorem D_fit (h : NC n d) {i k : Nat} (hi : i < n) (hk : k < n) : D n d u i ≤ D n d u k + d i k := by
  obtain ⟨r, h1, h2⟩ := P_ex (d := d) (u := u) hn (n - 1) k hk
  have := D_le (u := u) hn hd h hi (r := k :: r) fun y hy => by
    rcases List.mem_cons.mp hy with rfl | hy
    · exact hk
    · exact h1 y hy
  have e : val d u (i :: k :: r) = d i k + val d u (k :: r) := rfl
  have e2 : D n d u k = val d u (k :: r) := h2
  omega
include hn hd in
theorem P_down (t : Nat) {i : Nat} (hi : i < n) : P n d u (t + 1) i ≤ P n d u t i := by
  have h1 : P n d u (t + 1) i ≤ P n d u t i + d i i := mn_le _ n i hi
  rw [hd] at h1; omega
include hn hd in
theorem P_downs {s t : Nat} (h : s ≤ t) {i : Nat} (hi : i < n) : P n d u t i ≤ P n d u s i := by
  induction t with
  | zero => have : s = 0 := by omega
            subst this; exact Int.le_refl _
  | succ t ih =>
    by_cases hs : s = t + 1
    · subst hs; exact Int.le_refl _
    · exact Int.le_trans (P_down hn hd t hi) (ih (by omega))
/-- one after the other is brought down -/
def upd (h : Nat → Int) (i : Nat) (x : Int) : Nat → Int := fun j => if j = i then x else h j
def round (g : (Nat → Int) → Nat → Int) (h : Nat → Int) : Nat → Nat → Int
  | 0 => h
  | m + 1 => upd (round g h m) m (g (round g h m) m)
def rounds (g : (Nat → Int) → Nat → Int) (n : Nat) (h : Nat → Int) : Nat → Nat → Int
  | 0 => h
  | t + 1 => round g (rounds g n h t) n
/-- what is put in is the least of what the others allow -/
def Good (n : Nat) (d : Nat → Nat → Int) (g : (Nat → Int) → Nat → Int) : Prop := ∀ h i, i < n → (∀ k, k < n → g h i ≤ h k + d i k) ∧ ∃ k, k < n ∧ g h i = h k + d i k
variable {g : (Nat → Int) → Nat → Int} (hg : Good n d g)
include hn hd hg in
theorem round_ge (h : NC n d) {f : Nat → Int} (hf : ∀ i, i < n → D n d u i ≤ f i) : ∀ m, m ≤ n → ∀ i, i < n → D n d u i ≤ round g f m i
  | 0, _, i, hi => hf i hi
  | m + 1, hm, i, hi => by
    have ih := round_ge h hf m (by omega)
    unfold round upd
    by_cases e : i = m
    · subst e
      rw [if_pos rfl]
      obtain ⟨k, hk, e⟩ := (hg (round g f i) i hi).2
      rw [e]
      have := D_fit (u := u) hn hd h hi hk
      have := ih k hk
      omega
    · rw [if_neg e]; exact ih i hi
include hn hd hg in
theorem round_le {t : Nat} {f : Nat → Int} (hf : ∀ i, i < n → f i ≤ P n d u t i) : ∀ m, m ≤ n → (∀ i, i < n → round g f m i ≤ P n d u t i) ∧ ∀ i, i < m → round g f m i ≤ P n d u (t + 1) i
  | 0, _ => ⟨hf, fun i hi => by omega⟩
  | m + 1, hm => by
    obtain ⟨h1, h2⟩ := round_le hf m (by omega)
    have key : g (round g f m) m ≤ P n d u (t + 1) m := by
      refine le_mn _ n _ hn fun k hk => ?_
      have := (hg (round g f m) m (by omega)).1 k hk
      have := h1 k hk
      omega
    refine ⟨fun i hi => ?_, fun i hi => ?_⟩
    · unfold round upd
      by_cases e : i = m
      · subst e; rw [if_pos rfl]; exact Int.le_trans key (P_down hn hd t hi)
      · rw [if_neg e]; exact h1 i hi
    · unfold round upd
      by_cases e : i = m
      · subst e; rw [if_pos rfl]; exact key
      · rw [if_neg e]; exact h2 i (by omega)
include hn hd hg in
theorem rounds_D (h : NC n d) {T : Nat} (hT : n - 1 ≤ T) {i : Nat} (hi : i < n) : rounds g n u T i = D n d u i := by
  have lo : ∀ t, ∀ i, i < n → D n d u i ≤ rounds g n u t i := by
    intro t
    induction t with
    | zero => exact fun i hi => D_u hn hd h hi
    | succ t ih => exact fun i hi => round_ge hn hd hg h ih n (Nat.le_refl n) i hi
  have up : ∀ t, ∀ i, i < n → rounds g n u t i ≤ P n d u t i := by
    intro t
    induction t with
    | zero => exact fun i _ => Int.le_refl _
    | succ t ih => exact fun i hi => (round_le hn hd hg ih n (Nat.le_refl n)).2 i hi
  have h1 := lo T i hi
  have h2 := up T i hi
  have h3 := P_downs (u := u) hn hd hT hi
  unfold D at *
  omega
end
/-! ### pairings -/
/-- each of a, r goes to the next, the last to z -/
def nx : Nat → List Nat → Nat → Nat → Nat
  | a, [], z, i => if i = a then z else i
  | a, b :: r, z, i => if i = a then b else nx b r z i
theorem nx_out : ∀ (r : List Nat) (a z i : Nat), i ∉ a :: r → nx a r z i = i
  | [], a, z, i, h => by simp at h; simp [nx, h]
  | b :: r, a, z, i, h => by
    simp only [List.mem_cons, not_or] at h
    unfold nx; rw [if_neg h.1]; exact nx_out r b z i (by simp [h.2.1, h.2.2])
theorem nx_on : ∀ (r : List Nat) (a z j : Nat), (a :: r).Nodup → (j ∈ r ∨ j = z) → ∃ i, i ∈ a :: r ∧ nx a r z i = j
  | [], a, z, j, _, h => by
    rcases h with h | rfl
    · simp at h
    · exact ⟨a, by simp, by simp [nx]⟩
  | b :: r, a, z, j, hnd, h => by
    have hnd2 := List.nodup_cons.mp hnd
    by_cases hj : j = b
    · subst hj; exact ⟨a, by simp, by simp [nx]⟩
    · obtain ⟨i, h1, h2⟩ := nx_on r b z j hnd2.2 (by simpa [hj] using h)
      refine ⟨i, List.mem_cons_of_mem _ h1, ?_⟩
      unfold nx; rw [if_neg fun e : i = a => hnd2.1 (e ▸ h1)]; exact h2
theorem nx_lt {n : Nat} : ∀ (r : List Nat) (a z i : Nat), (∀ y ∈ r, y < n) → z < n → i < n → nx a r z i < n
  | [], a, z, i, _, hz, hi => by unfold nx; split <;> assumption
  | b :: r, a, z, i, hr, hz, hi => by
    unfold nx; split
    · exact hr b (by simp)
    · exact nx_lt r b z i (fun y hy => hr y (by simp [hy])) hz hi
def sumN (n : Nat) (f : Nat → Int) : Int := ((List.range n).map f).sum
theorem sumN_add (n : Nat) (f g : Nat → Int) : sumN n (fun i => f i + g i) = sumN n f + sumN n g := by
  unfold sumN
  induction (List.range n) with
  | nil => rfl
  | cons x l ih => simp only [List.map_cons, List.sum_cons, ih]; omega
theorem sumN_sub (n : Nat) (f g : Nat → Int) : sumN n (fun i => f i - g i) = sumN n f - sumN n g := by
  unfold sumN
  induction (List.range n) with
  | nil => rfl
  | cons x l ih => simp only [List.map_cons, List.sum_cons, ih]; omega
theorem sumN_one {n a : Nat} (ha : a < n) (c : Int) : sumN n (fun i => if i = a then c else 0) = c := by
  unfold sumN
  have key : ∀ l : List Nat, l.Nodup → (l.map fun i => if i = a then c else 0).sum = if a ∈ l then c else 0 := by
    intro l
    induction l with
    | nil => simp
    | cons x l ih =>
      intro hnd
      obtain ⟨h1, h2⟩ := List.nodup_cons.mp hnd
      rw [List.map_cons, List.sum_cons, ih h2]
      by_cases hx : x = a
      · subst hx; simp [h1]
      · have : ¬ a = x := fun e => hx e.symm
        simp [hx, this]
  rw [key _ List.nodup_range, if_pos (by simpa using ha)]
theorem sumN_congr {n : Nat} {f g : Nat → Int} (h : ∀ i, i < n → f i = g i) : sumN n f = sumN n g := by
  unfold sumN
  rw [List.map_congr_left fun i hi => h i (by simpa using hi)]
variable {n : Nat} (w : Nat → Nat → Int) (b : Nat → Nat)
theorem sum_wc : ∀ (r : List Nat) (a z : Nat), (a :: r).Nodup → (∀ y ∈ a :: r, y < n) → sumN n (fun i => w i (b i) - w i (b (nx a r z i))) = wc (fun i k => w i (b i) - w i (b k)) a r z
  | [], a, z, _, hl => by
    rw [sumN_congr (g := fun i => if i = a then w a (b a) - w a (b z) else 0), sumN_one (hl a (by simp))]
    · rfl
    · intro i _
      unfold nx
      by_cases e : i = a
      · subst e; simp
      · simp [e]
  | c :: r, a, z, hnd, hl => by
    obtain ⟨h1, h2⟩ := List.nodup_cons.mp hnd
    have ih := sum_wc r c z h2 fun y hy => hl y (List.mem_cons_of_mem _ hy)
    rw [sumN_congr (g := fun i => (if i = a then w a (b a) - w a (b c) else 0) + (w i (b i) - w i (b (nx c r z i)))), sumN_add, sumN_one (hl a (by simp)), ih]
    · rfl
    · intro i _
      show w i (b i) - w i (b (if i = a then c else nx c r z i)) = _
      by_cases e : i = a
      · subst e
        rw [if_pos rfl, if_pos rfl, nx_out r c z i h1]; omega
      · rw [if_neg e, if_neg e]; omega
theorem perm_of_sub {α : Type} : ∀ {l1 l2 : List α}, l1.Nodup → l1 ⊆ l2 → l2.length ≤ l1.length → l1.Perm l2
  | [], l2, _, _, h => by
    have : l2 = [] := List.length_eq_zero_iff.mp (by simpa using h)
    subst this; exact .nil
  | a :: t, l2, hnd, hs, hl => by
    obtain ⟨h1, h2⟩ := List.nodup_cons.mp hnd
    obtain ⟨s, u, rfl⟩ := List.append_of_mem (hs (List.mem_cons_self ..))
    have h3 : t ⊆ s ++ u := fun y hy => by
      have := hs (List.mem_cons_of_mem _ hy)
      simp only [List.mem_append, List.mem_cons] at this ⊢
      rcases this with h | rfl | h
      · exact .inl h
      · exact absurd hy h1
      · exact .inr h
    have h4 := perm_of_sub h2 h3 (by simp at hl ⊢; omega)
    exact (h4.cons a).trans (List.perm_middle.symm)
theorem nx_perm {x : Nat} {B : List Nat} (hnd : (x :: B).Nodup) (hl : ∀ y ∈ x :: B, y < n) : ((List.range n).map (nx x B x)).Perm (List.range n) := by
  have hsub : List.range n ⊆ (List.range n).map (nx x B x) := by
    intro j hj
    rw [List.mem_map]
    by_cases h : j ∈ x :: B
    · have h2 : j ∈ B ∨ j = x := by
        rcases List.mem_cons.mp h with h | h
        · exact .inr h
        · exact .inl h
      obtain ⟨i, h3, h4⟩ := nx_on B x x j hnd h2
      exact ⟨i, List.mem_range.mpr (hl i h3), h4⟩
    · exact ⟨j, hj, nx_out B x x j h⟩
  exact (perm_of_sub List.nodup_range hsub (by simp)).symm
/-- no circle costs less than nothing where no other pairing is worth more -/
theorem nc_of_best (hb : ∀ o : Nat → Nat, ((List.range n).map o).Perm (List.range n) → sumN n (fun i => w i (b (o i))) ≤ sumN n (fun i => w i (b i))) : NC n (fun i k => w i (b i) - w i (b k)) := by
  intro x B hnd hl
  rw [← sum_wc w b B x x hnd hl, sumN_sub]
  have := hb (nx x B x) (nx_perm hnd hl)
  omega
end BF
namespace BF
/-- one value is brought to the least that the others allow -/
structure Step (n : Nat) (d : Nat → Nat → Int) (h h' : Nat → Int) (i : Nat) : Prop where
  same : ∀ j, j < n → j ≠ i → h' j = h j
  le : ∀ k, k < n → h' i ≤ h k + d i k
  ex : ∃ k, k < n ∧ h' i = h k + d i k
section
variable {n : Nat} {d : Nat → Nat → Int} {u : Nat → Int} (hn : 0 < n) (hd : ∀ i, d i i = 0)
include hn hd in
theorem chain_ge (h : NC n d) {st : Nat → Nat → Int} (hc : ∀ m, m < n → Step n d (st m) (st (m + 1)) m) (hf : ∀ i, i < n → D n d u i ≤ st 0 i) : ∀ m, m ≤ n → ∀ i, i < n → D n d u i ≤ st m i
  | 0, _, i, hi => hf i hi
  | m + 1, hm, i, hi => by
    have ih := chain_ge h hc hf m (by omega)
    have s := hc m (by omega)
    by_cases e : i = m
    · subst e
      obtain ⟨k, hk, e⟩ := s.ex
      rw [e]
      have := D_fit (u := u) hn hd h hi hk
      have := ih k hk
      omega
    · rw [s.same i hi e]; exact ih i hi
include hn hd in
theorem chain_le {t : Nat} {st : Nat → Nat → Int} (hc : ∀ m, m < n → Step n d (st m) (st (m + 1)) m) (hf : ∀ i, i < n → st 0 i ≤ P n d u t i) : ∀ m, m ≤ n → (∀ i, i < n → st m i ≤ P n d u t i) ∧ ∀ i, i < m → st m i ≤ P n d u (t + 1) i
  | 0, _ => ⟨hf, fun i hi => by omega⟩
  | m + 1, hm => by
    obtain ⟨h1, h2⟩ := chain_le hc hf m (by omega)
    have s := hc m (by omega)
    have key : st (m + 1) m ≤ P n d u (t + 1) m := by
      refine le_mn _ n _ hn fun k hk => ?_
      have := s.le k hk
      have := h1 k hk
      omega
    refine ⟨fun i hi => ?_, fun i hi => ?_⟩
    · by_cases e : i = m
      · subst e; exact Int.le_trans key (P_down hn hd t hi)
      · rw [s.same i hi e]; exact h1 i hi
    · by_cases e : i = m
      · subst e; exact key
      · rw [s.same i (by omega) e]; exact h2 i (by omega)
include hn hd in
theorem rounds_to {rs : Nat → Nat → Int} (h : NC n d) (h0 : ∀ i, i < n → rs 0 i = u i) (hs : ∀ t, ∃ st : Nat → Nat → Int, st 0 = rs t ∧ st n = rs (t + 1) ∧ ∀ m, m < n → Step n d (st m) (st (m + 1)) m) {T : Nat} (hT : n - 1 ≤ T) {i : Nat} (hi : i < n) : rs T i = D n d u i := by
  have lo : ∀ t, ∀ i, i < n → D n d u i ≤ rs t i := by
    intro t
    induction t with
    | zero => exact fun i hi => by rw [h0 i hi]; exact D_u hn hd h hi
    | succ t ih =>
      obtain ⟨st, e1, e2, hc⟩ := hs t
      rw [← e2]
      exact fun i hi => chain_ge hn hd h hc (by rw [e1]; exact ih) n (Nat.le_refl n) i hi
  have up : ∀ t, ∀ i, i < n → rs t i ≤ P n d u t i := by
    intro t
    induction t with
    | zero => exact fun i hi => by rw [h0 i hi]; exact Int.le_refl _
    | succ t ih =>
      obtain ⟨st, e1, e2, hc⟩ := hs t
      rw [← e2]
      exact fun i hi => (chain_le hn hd hc (by rw [e1]; exact ih) n (Nat.le_refl n)).2 i hi
  have h1 := lo T i hi
  have h2 := up T i hi
  have h3 := P_downs (u := u) hn hd hT hi
  unfold D at *
  omega
end
end BF
namespace DV
/-! ### orders -/
theorem foldl_const {α β : Type} (f : α → α) : ∀ (xs : List β) (a : α), xs.foldl (fun t _ => f t) a = Nat.repeat f xs.length a
  | [], a => rfl
  | x :: xs, a => by
    have key : ∀ (n : Nat) (a : α), Nat.repeat f n (f a) = f (Nat.repeat f n a) := by
      intro n
      induction n with
      | zero => exact fun _ => rfl
      | succ n ih => intro a; show f (Nat.repeat f n (f a)) = _; rw [ih]; rfl
    rw [List.foldl_cons, foldl_const f xs, key]; rfl
theorem foldl_app {α β : Type} (g : α → List β) : ∀ (xs : List α) (a : List β), xs.foldl (fun acc x => acc ++ g x) a = a ++ xs.flatMap g
  | [], a => by simp
  | x :: xs, a => by rw [List.foldl_cons, foldl_app g xs, List.flatMap_cons, List.append_assoc]
/-- one more behind each -/
def ordS (n : Int) (t : List (List Int)) : List (List Int) := t.flatMap fun x => ((rngZ 0 n).filter fun y => !decide (y ∈ x)).map fun y => x ++ [y]
theorem mem_ordS (n : Int) : ∀ (t : Nat) (x : List Int), x ∈ Nat.repeat (ordS n) t [[]] ↔ x.length = t ∧ x.Nodup ∧ ∀ y ∈ x, 0 ≤ y ∧ y < n
  | 0, x => by
    show x ∈ [[]] ↔ _
    simp only [List.mem_cons, List.not_mem_nil, or_false, List.length_eq_zero_iff]
    constructor
    · rintro rfl; simp
    · exact fun h => h.1
  | t + 1, x => by
    show x ∈ ordS n (Nat.repeat (ordS n) t [[]]) ↔ _
    unfold ordS
    simp only [List.mem_flatMap, List.mem_map, List.mem_filter, Bool.not_eq_true', decide_eq_false_iff_not]
    constructor
    · rintro ⟨a, ha, y, ⟨h1, h2⟩, rfl⟩
      obtain ⟨l, nd, hr⟩ := (mem_ordS n t a).mp ha
      refine ⟨by simp [l], ?_, fun z hz => ?_⟩
      · rw [List.nodup_append]
        exact ⟨nd, by simp, fun p hp q hq => by simp at hq; subst hq; exact fun e => h2 (e ▸ hp)⟩
      · rcases List.mem_append.mp hz with hz | hz
        · exact hr z hz
        · simp at hz; subst hz; exact mem_rngZ.mp h1
    · rintro ⟨l, nd, hr⟩
      have hne : x ≠ [] := by intro e; subst e; simp at l
      refine ⟨x.dropLast, (mem_ordS n t _).mpr ⟨by simp [l], ?_, fun y hy => hr y ((List.dropLast_sublist x).subset hy)⟩, x.getLast hne, ⟨mem_rngZ.mpr (hr _ (List.getLast_mem hne)), ?_⟩, List.dropLast_concat_getLast hne⟩
      · exact nd.sublist (List.dropLast_sublist x)
      · intro h
        rw [← List.dropLast_concat_getLast hne, List.nodup_append] at nd
        exact nd.2.2 _ h _ (by simp) rfl
theorem ord_perm {n : Nat} {x : List Int} : x ∈ Nat.repeat (ordS n) n [[]] ↔ x.Perm (rngZ 0 (n : Int)) := by
  have hnd : (rngZ 0 (n : Int)).Nodup := by
    rw [rngZ_nat]
    exact List.Pairwise.map _ (fun a b h => by omega) List.nodup_range
  rw [mem_ordS]
  constructor
  · rintro ⟨l, nd, hr⟩
    exact BF.perm_of_sub nd (fun y hy => mem_rngZ.mpr (hr y hy)) (by rw [rngZ_len, l]; exact Nat.le_refl _)
  · intro p
    exact ⟨by rw [p.length_eq, rngZ_len], p.nodup_iff.mpr hnd, fun y hy => mem_rngZ.mp (p.mem_iff.mp hy)⟩
theorem ordS_len (n : Int) (t : List (List Int)) : (ordS n t).length ≤ t.length * n.toNat := by
  unfold ordS
  induction t with
  | nil => simp
  | cons x t ih =>
    rw [List.flatMap_cons, List.length_append, List.length_map, List.length_cons, Nat.succ_mul]
    have h1 := List.length_filter_le (fun y => !decide (y ∈ x)) (rngZ 0 n)
    have h2 : (rngZ 0 n).length = n.toNat := by unfold rngZ; simp
    omega
theorem ord_len (n : Int) : ∀ t : Nat, (Nat.repeat (ordS n) t [[]]).length ≤ n.toNat ^ t
  | 0 => Nat.le_refl _
  | t + 1 => by
    have h1 := ordS_len n (Nat.repeat (ordS n) t [[]])
    have h2 := ord_len n t
    have h3 : (Nat.repeat (ordS n) t [[]]).length * n.toNat ≤ n.toNat ^ t * n.toNat := Nat.mul_le_mul_right _ h2
    rw [Nat.pow_succ]
    exact Nat.le_trans h1 h3
theorem okFold_const {α β : Type} (f : α → α) (ok : α → Prop) (I : Nat → α → Prop) (hI : ∀ k t, I k t → I (k + 1) (f t)) : ∀ (xs : List β) (a : α) (k : Nat), I k a → (∀ j t, k ≤ j → j < k + xs.length → I j t → ok t) → okFold (fun t _ => ok t) (fun t _ => f t) a xs
  | [], _, _, _, _ => trivial
  | x :: xs, a, k, h, ho => ⟨ho k a (Nat.le_refl k) (by simp) h, okFold_const f ok I hI xs (f a) (k + 1) (hI k a h) fun j t h1 h2 h3 => ho j t (by omega) (by simp at h2 ⊢; omega) h3⟩
/-- a fold keeps what each step keeps -/
theorem okFold_inv {α T : Type} {ok : T → α → Prop} {step : T → α → T} (I : T → Prop) : ∀ (xs : List α) (t : T), I t → (∀ t x, x ∈ xs → I t → ok t x ∧ I (step t x)) → okFold ok step t xs ∧ I (xs.foldl step t)
  | [], _, h, _ => ⟨trivial, h⟩
  | x :: xs, t, h, st => by
    obtain ⟨h1, h2⟩ := st t x (by simp) h
    obtain ⟨h3, h4⟩ := okFold_inv I xs (step t x) h2 fun t y hy => st t y (List.mem_cons_of_mem _ hy)
    exact ⟨⟨h1, h3⟩, h4⟩
/-- the first with the greatest worth: as a pair, and as two values -/
theorem fold_best {α : Type} [Inhabited α] (S S' : α → Int) : ∀ (os : List α) (t : Option (Int × α)), (∀ o ∈ os, S o = S' o) → (∀ p, t = some p → p.1 = S p.2) →
    (os.foldl (fun (t1 : Option α × Option Int) x => (bif (t1.1.isNone || decide (getO t1.2 < S' x)) then some x else t1.1, bif (t1.1.isNone || decide (getO t1.2 < S' x)) then some (S' x) else t1.2)) (t.map (·.2), t.map (·.1)) =
      ((os.foldl (fun t1 x => bif (t1.isNone || decide ((getO t1).1 < S x)) then some (S x, x) else t1) t).map (·.2), (os.foldl (fun t1 x => bif (t1.isNone || decide ((getO t1).1 < S x)) then some (S x, x) else t1) t).map (·.1))) ∧
    ∀ r, os.foldl (fun t1 x => bif (t1.isNone || decide ((getO t1).1 < S x)) then some (S x, x) else t1) t = r → (∀ p, r = some p → p.1 = S p.2 ∧ (t = some p ∨ p.2 ∈ os) ∧ (∀ q, t = some q → q.1 ≤ p.1) ∧ ∀ o ∈ os, S o ≤ p.1) ∧ (r = none → t = none ∧ os = [])
  | [], t, _, h => ⟨rfl, fun r e => by subst e; exact ⟨fun p e => ⟨h p e, .inl e, fun q e2 => by have e : t = some p := e; rw [e] at e2; cases e2; exact Int.le_refl _, by simp⟩, fun e => ⟨e, rfl⟩⟩⟩
  | x :: os, t, hS, h => by
    have hx := hS x (by simp)
    have step : ∃ t', (bif (t.isNone || decide ((getO t).1 < S x)) then some (S x, x) else t) = t' ∧ (∀ p, t' = some p → p.1 = S p.2) ∧ ((bif ((t.map (·.2)).isNone || decide (getO (t.map (·.1)) < S' x)) then some x else t.map (·.2), bif ((t.map (·.2)).isNone || decide (getO (t.map (·.1)) < S' x)) then some (S' x) else t.map (·.1)) = (t'.map (·.2), t'.map (·.1))) ∧
        (∃ p, t' = some p ∧ (t = some p ∨ p.2 = x) ∧ (∀ q, t = some q → q.1 ≤ p.1) ∧ S x ≤ p.1) := by
      cases t with
      | none => exact ⟨some (S x, x), by simp, by simp, by simp [hx], (S x, x), rfl, .inr rfl, by simp, Int.le_refl _⟩
      | some p =>
        by_cases hlt : p.1 < S x
        · exact ⟨some (S x, x), by simp [hlt], by simp, by rw [hx] at hlt; simp [hlt, hx], (S x, x), rfl, .inr rfl, by rintro q ⟨⟩; exact Int.le_of_lt hlt, Int.le_refl _⟩
        · exact ⟨some p, by simp [hlt], h, by rw [hx] at hlt; simp [hlt], p, rfl, .inl rfl, by rintro q ⟨⟩; exact Int.le_refl _, by omega⟩
    obtain ⟨t', e1, e2, e3, p, e4, e5, e6, e7⟩ := step
    obtain ⟨i1, i2⟩ := fold_best S S' os t' (fun o ho => hS o (by simp [ho])) e2
    refine ⟨?_, fun r e => ?_⟩
    · rw [List.foldl_cons, List.foldl_cons, e1, ← i1]
      congr 1
    · rw [List.foldl_cons, e1] at e
      obtain ⟨j1, j2⟩ := i2 r e
      refine ⟨fun q hq => ?_, fun hr => ?_⟩
      · obtain ⟨k1, k2, k3, k4⟩ := j1 q hq
        refine ⟨k1, ?_, fun z hz => ?_, fun o ho => ?_⟩
        · rcases k2 with k2 | k2
          · rw [e4] at k2; cases k2
            rcases e5 with e5 | e5
            · exact .inl e5
            · exact .inr (by simp [e5])
          · exact .inr (by simp [k2])
        · exact Int.le_trans (e6 z hz) (k3 p e4)
        · rcases List.mem_cons.mp ho with rfl | ho
          · exact Int.le_trans e7 (k3 p e4)
          · exact k4 o ho
      · have := (j2 hr).1; rw [e4] at this; cases this
end DV

/-! DVr: any values: what judges look at. -/
namespace DV
open PySem PySem.Spec PyProof.Rows L2
theorem forP_any {α R : Type} (c : α → Bool) (r : α → R) : ∀ (xs : List α), (∀ x ∈ xs, ∀ y ∈ xs, r x = r y) → ∀ r0 : R, (∀ x ∈ xs, r x = r0) → forP (fun (_ : Unit) x => bif c x then Lo.rt (r x) else .nx ()) () xs = bif xs.any c then .rt r0 else .nx ()
  | [], _, _, _ => rfl
  | x :: xs, h, r0, h0 => by
    rw [List.any_cons]
    cases hc : c x with
    | true =>
      rw [forP_rt (r := r0) (by rw [hc, h0 x (by simp)]; rfl)]; rfl
    | false =>
      rw [forP_nx (t' := ()) (by rw [hc]; rfl), forP_any c r xs (fun a ha b hb => h a (by simp [ha]) b (by simp [hb])) r0 fun a ha => h0 a (by simp [ha])]; rfl
theorem forP_bool {α R : Type} (c : α → Bool) (r0 : R) (xs : List α) : forP (fun (_ : Unit) x => bif c x then Lo.rt r0 else .nx ()) () xs = bif xs.any c then .rt r0 else .nx () :=
  forP_any c (fun _ => r0) xs (fun _ _ _ _ => rfl) r0 fun _ _ => rfl
theorem forP_congr {α T R : Type} {s1 s2 : T → α → Lo T R} : ∀ (xs : List α) (t : T), (∀ t x, x ∈ xs → s1 t x = s2 t x) → forP s1 t xs = forP s2 t xs
  | [], _, _ => rfl
  | x :: xs, t, h => by
    have e := h t x (by simp)
    simp only [forP, e]
    cases s2 t x with
    | nx t' => exact forP_congr xs t' fun t y hy => h t y (by simp [hy])
    | bk t' => rfl
    | rt r => rfl
theorem okFor_all {α T R : Type} {ok : T → α → Prop} {step : T → α → Lo T R} : ∀ (xs : List α) (t : T), (∀ t x, x ∈ xs → ok t x) → okFor ok step t xs
  | [], _, _ => trivial
  | x :: xs, t, h => ⟨h t x (by simp), by
    cases step t x with
    | nx t' => exact okFor_all xs t' fun t y hy => h t y (by simp [hy])
    | bk _ => trivial
    | rt _ => trivial⟩
theorem okFor_map {α β T R : Type} {ok : T → β → Prop} {step : T → β → Lo T R} (f : α → β) : ∀ (xs : List α) (t : T), okFor ok step t (xs.map f) ↔ okFor (fun t x => ok t (f x)) (fun t x => step t (f x)) t xs
  | [], _ => Iff.rfl
  | x :: xs, t => by
    simp only [List.map_cons, okFor]
    refine and_congr Iff.rfl ?_
    cases step t (f x) with
    | nx t' => exact okFor_map f xs t'
    | bk _ => exact Iff.rfl
    | rt _ => exact Iff.rfl
theorem forP_map {α β T R : Type} {step : T → β → Lo T R} (f : α → β) : ∀ (xs : List α) (t : T), forP step t (xs.map f) = forP (fun t x => step t (f x)) t xs
  | [], _ => rfl
  | x :: xs, t => by
    simp only [List.map_cons, forP]
    cases step t (f x) with
    | nx t' => exact forP_map f xs t'
    | bk _ => rfl
    | rt _ => rfl
namespace AV
theorem isTup_of {y : AV} {ds : List D} (h : y.1 = .tup ds) : y.isTup = true := by unfold isTup; rw [h]
theorem items_of {y : AV} {ds : List D} (h : y.1 = .tup ds) : y.items.map eA = ds := by rw [items_raw]; unfold raw; rw [h]
theorem len_of' {y : AV} {ds : List D} (h : y.1 = .tup ds) : y.items.length = ds.length := by rw [← items_of h, List.length_map]
theorem ix_of {y : AV} {ds : List D} (h : y.1 = .tup ds) {i : Nat} (hi : i < ds.length) : (ixZ y.items (i : Int)).1 = ds[i] := by
  have hl : i < y.items.length := by rw [len_of' h]; exact hi
  rw [ixZ_nat' hl]
  have := items_of h
  have e : (y.items.map eA)[i]'(by rw [List.length_map]; exact hl) = ds[i] := by simp only [this]
  rw [← e, List.getElem_map]
theorem int_of {x : AV} {i : Int} (h : x.1 = .int i) : x.isI = true ∧ x.int = i := by
  unfold isI int; rw [h]; exact ⟨rfl, rfl⟩
theorem str_of {x : AV} {s : Str} (h : x.1 = .str s) : x.isStr = true := by unfold isStr; rw [h]
/-- a tuple of so many -/
theorem tup2 {y : AV} (h : y.isTup = true) (hl : y.items.length = 2) : y.1 = .tup [(ixZ y.items 0).1, (ixZ y.items 1).1] := by
  rw [tup_eq h]
  show D.tup _ = _
  conv => lhs; rw [len2 hl]
  rfl
theorem tup3 {y : AV} (h : y.isTup = true) (hl : y.items.length = 3) : y.1 = .tup [(ixZ y.items 0).1, (ixZ y.items 1).1, (ixZ y.items 2).1] := by
  rw [tup_eq h]
  show D.tup _ = _
  conv => lhs; rw [len3 hl]
  rfl
theorem mem_ix {y : AV} {i : Nat} (h : i < y.items.length) : ixZ y.items (i : Int) ∈ y.items := by rw [ixZ_nat' h]; exact List.getElem_mem h
end AV
/-- y is a fraction -/
def QA (y : AV) (q : Rat) : Prop := y.1 = eP2 eI eI (ofQ q)
theorem QA.tup {y : AV} {q : Rat} (h : QA y q) : y.isTup = true ∧ y.items.length = 2 ∧ (ixZ y.items 0).isI = true ∧ (ixZ y.items 0).int = q.num ∧ (ixZ y.items 1).isI = true ∧ (ixZ y.items 1).int = (q.den : Int) := by
  have h0 := AV.ix_of (i := 0) h (by simp)
  have h1 := AV.ix_of (i := 1) h (by simp)
  have i0 := AV.int_of (x := ixZ y.items 0) (i := q.num) h0
  have i1 := AV.int_of (x := ixZ y.items 1) (i := (q.den : Int)) h1
  exact ⟨AV.isTup_of h, by rw [AV.len_of' h]; rfl, i0.1, i0.2, i1.1, i1.2⟩
theorem QA.dec {y : AV} {q : Rat} (h : QA y q) : ((ixZ y.items 0).int, (ixZ y.items 1).int) = ofQ q := by
  obtain ⟨_, _, _, e1, _, e2⟩ := h.tup
  rw [e1, e2]; rfl
theorem QA.bits {y : AV} {q : Rat} (h : QA y q) : QB 40 q := by
  obtain ⟨_, _, _, e1, _, e2⟩ := h.tup
  have h1 := AV.int_lt (ixZ y.items 0)
  have h2 := AV.int_lt (ixZ y.items 1)
  have e : (2 : Nat) ^ 40 = 1099511627776 := by decide
  rw [e1] at h1
  rw [e2] at h2
  exact ⟨by rw [e]; exact h1, by rw [e]; simpa using h2⟩
/-- y is a row of fractions -/
def RA (y : AV) (qs : List Rat) : Prop := y.1 = eT (eP2 eI eI) (qs.map ofQ)
theorem RA.tup {y : AV} {qs : List Rat} (h : RA y qs) : y.isTup = true ∧ y.items.length = qs.length := by
  refine ⟨AV.isTup_of h, by rw [AV.len_of' h]; simp⟩
theorem RA.at {y : AV} {qs : List Rat} (h : RA y qs) {i : Nat} (hi : i < qs.length) : QA (ixZ y.items (i : Int)) (qs.getD i 0) := by
  have := AV.ix_of (i := i) h (by simpa using hi)
  unfold QA
  rw [this, getD_eq' hi]
  simp
where getD_eq' {qs : List Rat} {i : Nat} (hi : i < qs.length) : qs.getD i 0 = qs[i] := by simp [List.getD, hi]
theorem RA.dec {y : AV} {qs : List Rat} (h : RA y qs) : (y.items.map fun z => ((ixZ z.items 0).int, (ixZ z.items 1).int)) = qs.map ofQ := by
  apply List.ext_getElem
  · simp [h.tup.2]
  · intro i h1 h2
    simp at h1 h2
    have := (h.at h2).dec
    rw [ixZ_nat' h1] at this
    simp only [List.getElem_map]
    rw [this]; simp [List.getD, h2]
theorem RA.bits {y : AV} {qs : List Rat} (h : RA y qs) : ∀ q ∈ qs, QB 40 q := by
  intro q hq
  obtain ⟨i, hi, e⟩ := List.getElem_of_mem hq
  have := (h.at hi).bits
  rw [show qs.getD i 0 = qs[i] by simp [List.getD, hi], e] at this
  exact this
/-- y is a row of ints -/
def IA (y : AV) (xs : List Int) : Prop := y.1 = eT eI xs
theorem IA.tup {y : AV} {xs : List Int} (h : IA y xs) : y.isTup = true ∧ y.items.length = xs.length := ⟨AV.isTup_of h, by rw [AV.len_of' h]; simp⟩
theorem IA.at {y : AV} {xs : List Int} (h : IA y xs) {i : Nat} (hi : i < xs.length) : (ixZ y.items (i : Int)).isI = true ∧ (ixZ y.items (i : Int)).int = xs.getD i 0 := by
  have := AV.ix_of (i := i) h (by simpa using hi)
  have e : xs.getD i 0 = xs[i] := by simp [List.getD, hi]
  rw [e]
  exact AV.int_of (by rw [this]; simp)
theorem IA.mem {y : AV} {xs : List Int} (h : IA y xs) : ∀ z ∈ y.items, z.isI = true := by
  intro z hz
  obtain ⟨i, hi, e⟩ := List.getElem_of_mem hz
  have := (h.at (i := i) (by rw [← h.tup.2]; exact hi)).1
  rw [ixZ_nat' hi, e] at this; exact this
theorem IA.dec {y : AV} {xs : List Int} (h : IA y xs) : y.items.map AV.int = xs := by
  apply List.ext_getElem
  · simp [h.tup.2]
  · intro i h1 h2
    simp at h1
    have := (h.at h2).2
    rw [ixZ_nat' h1] at this
    simp only [List.getElem_map]
    rw [this]; simp [List.getD, h2]
theorem IA_of {y : AV} (h : y.isTup = true) (hi : ∀ z ∈ y.items, z.isI = true) : IA y (y.items.map AV.int) := (AV.row_ints h hi).2
theorem all_isI (y : AV) : ((y.items.map fun x => (x.isInt && !x.isBl)).all id) = true ↔ ∀ z ∈ y.items, z.isI = true := by
  simp only [List.all_map, List.all_eq_true, Function.comp]
  exact ⟨fun h z hz => by have := h z hz; rw [← AV.isI_iff]; exact this, fun h z hz => by show (z.isInt && !z.isBl) = true; rw [AV.isI_iff]; exact h z hz⟩
/-- the pieces of a sorted row of ints -/
theorem IA.sortOk {y : AV} {xs : List Int} (h : IA y xs) : D.fitL 31 (y.items.map eA) = true ∧ alikeB (y.items.map eA) = true ∧ sortableB (y.items.map eA) = true := by
  rw [AV.items_of h]; exact sortI_ok xs
theorem IA.sorted {y : AV} {xs : List Int} (h : IA y xs) (ys : List Int) : deq (eL eA (sortZ eA y.items)) (eL eI ys) = decide (sortZ eI xs = ys) := by
  have : eL eA (sortZ eA y.items) = eL eI (sortZ eI xs) := by
    show D.lst _ = D.lst _
    rw [AV.sorted_ints h.mem, h.dec]
  rw [this, deq_lst_int]
end DV

/-! DWa: plain helpers for more than one law. -/
namespace DV
theorem okFold_map {α β T : Type} {ok : T → β → Prop} {step : T → β → T} (f : α → β) : ∀ (xs : List α) (t : T), okFold ok step t (xs.map f) ↔ okFold (fun t x => ok t (f x)) (fun t x => step t (f x)) t xs
  | [], _ => Iff.rfl
  | x :: xs, t => by
    show ok t (f x) ∧ _ ↔ ok t (f x) ∧ _
    rw [okFold_map f xs]
theorem range_fold {T : Type} (F : T → Nat → T) (t : T) (m : Nat) : (List.range (m + 1)).foldl F t = F ((List.range m).foldl F t) m := by
  rw [List.range_succ, List.foldl_append]; rfl
theorem set_getD {α : Type} {t : List α} {i j : Nat} {x z : α} (hi : i < t.length) : (t.set i x).getD j z = if i = j then x else t.getD j z := by
  by_cases h : i = j
  · subst h; simp [List.getD, hi]
  · simp [List.getD, h, List.getElem?_set]
theorem getD_eq {α : Type} {t : List α} {i : Nat} {z : α} (hi : i < t.length) : t.getD i z = t[i] := by simp [List.getD, hi]
theorem ext_getD {α : Type} {n : Nat} {xs ys : List α} (z : α) (h1 : xs.length = n) (h2 : ys.length = n) (h : ∀ i, i < n → xs.getD i z = ys.getD i z) : xs = ys := by
  apply List.ext_getElem (by omega)
  intro i a b
  have := h i (by omega)
  rwa [getD_eq a, getD_eq b] at this
theorem mapA_mem {α β γ : Type} {f : γ → α → β × γ} : ∀ (xs : List α) (c : γ), ∀ y ∈ (mapA f c xs).1, ∃ c' x, x ∈ xs ∧ y = (f c' x).1
  | [], _, y, h => by simp [mapA] at h
  | x :: xs, c, y, h => by
    simp only [mapA, List.mem_cons] at h
    rcases h with rfl | h
    · exact ⟨c, x, by simp, rfl⟩
    · obtain ⟨c', z, hz, e⟩ := mapA_mem xs _ y h
      exact ⟨c', z, by simp [hz], e⟩
theorem mapA_len {α β γ : Type} {f : γ → α → β × γ} : ∀ (xs : List α) (c : γ), (mapA f c xs).1.length = xs.length
  | [], _ => rfl
  | x :: xs, c => by simp only [mapA, List.length_cons, mapA_len xs]
theorem okA_all {α β γ : Type} {f : γ → α → β × γ} {ok : γ → α → Prop} (h : ∀ c x, ok c x) : ∀ (xs : List α) (c : γ), okA f ok c xs
  | [], _ => trivial
  | x :: xs, c => ⟨h c x, okA_all h xs _⟩
/-- a map over the places of a list -/
theorem range_getD {α : Type} (z : α) (xs : List α) : (List.range xs.length).map (fun i => xs.getD i z) = xs := by
  apply List.ext_getElem
  · simp
  · intro i h1 h2
    simp [List.getD, h2]
end DV
namespace EA
/-! ### ranks -/
section
variable {r : Nat → Nat} {n : Nat}
/-- ranks, one each: the row in their order -/
theorem order_of (hi : ∀ i j, i < n → j < n → r i = r j → i = j) (hl : ∀ i, i < n → r i < n) : ∃ σ : List Nat, σ.Perm (List.range n) ∧ σ.map r = List.range n := by
  have hp : ((List.range n).map r).Perm (List.range n) := by
    refine BF.perm_of_sub ?_ ?_ (by simp)
    · refine (List.pairwise_map).mpr (List.Pairwise.imp_of_mem ?_ List.nodup_range)
      intro a b ha hb hne e
      exact hne (hi a b (by simpa using ha) (by simpa using hb) e)
    · intro x hx
      obtain ⟨i, h1, rfl⟩ := List.mem_map.mp hx
      exact List.mem_range.mpr (hl i (by simpa using h1))
  have hex : ∀ m, m < n → ∃ i, i < n ∧ r i = m := fun m hm => by
    have := hp.mem_iff.mpr (List.mem_range.mpr hm)
    obtain ⟨i, h1, h2⟩ := List.mem_map.mp this
    exact ⟨i, by simpa using h1, h2⟩
  have hg : ∃ g : Nat → Nat, ∀ m, m < n → g m < n ∧ r (g m) = m := by
    refine ⟨fun m => if h : m < n then (hex m h).choose else 0, fun m hm => ?_⟩
    simp only [dif_pos hm]
    exact (hex m hm).choose_spec
  obtain ⟨g, hg⟩ := hg
  refine ⟨(List.range n).map g, BF.perm_of_sub ?_ ?_ (by simp), ?_⟩
  · refine (List.pairwise_map).mpr (List.Pairwise.imp_of_mem ?_ List.nodup_range)
    intro a b ha hb hne e
    have h1 := (hg a (by simpa using ha)).2
    have h2 := (hg b (by simpa using hb)).2
    rw [e] at h1
    exact hne (h1.symm.trans h2)
  · intro x hx
    obtain ⟨m, h1, rfl⟩ := List.mem_map.mp hx
    exact List.mem_range.mpr (hg m (by simpa using h1)).1
  · rw [List.map_map]
    conv => rhs; rw [← List.map_id (List.range n)]
    exact List.map_congr_left fun m hm => (hg m (by simpa using hm)).2
theorem filter_take (m : Nat) : ∀ (σ : List Nat) (a : Nat), σ.map r = List.range' a σ.length → σ.filter (fun i => decide (r i < a + m)) = σ.take m
  | [], _, _ => by simp
  | x :: σ, a, h => by
    rw [List.length_cons, List.range'_succ, List.map_cons] at h
    obtain ⟨h1, h2⟩ := List.cons.inj h
    match m with
    | 0 =>
      simp only [Nat.add_zero, List.take_zero]
      rw [List.filter_eq_nil_iff]
      intro y hy
      have : r y ∈ r x :: List.map r σ := by
        rcases List.mem_cons.mp hy with rfl | hy
        · simp
        · exact List.mem_cons_of_mem _ (List.mem_map_of_mem hy)
      rw [h1, h2] at this
      have h3 : a ≤ r y := by
        rcases List.mem_cons.mp this with e | e
        · omega
        · have := List.mem_range'.mp e; omega
      simpa using h3
    | m + 1 =>
      have ih := filter_take m σ (a + 1) h2
      rw [List.filter_cons, if_pos (by simp [h1]), List.take_succ_cons]
      congr 1
      rw [← ih]
      exact List.filter_congr fun i _ => by simp; omega
end
/-! ### equal awards -/
def mn (a b : Rat) : Rat := if a < b then a else b
theorem mn_of_lt {a b : Rat} (h : a < b) : mn a b = a := if_pos h
theorem mn_of_le {a b : Rat} (h : b ≤ a) : mn a b = b := if_neg (by grind)
theorem mn_le_l (a b : Rat) : mn a b ≤ a := by unfold mn; split <;> grind
theorem mn_le_r (a b : Rat) : mn a b ≤ b := by unfold mn; split <;> grind
theorem mn_mono {a b c : Rat} (h : b ≤ c) : mn a b ≤ mn a c := by unfold mn; split <;> split <;> grind
/-- L is each the lesser one of its claim and one amount, and E in all -/
def Eq (E : Rat) (qs L : List Rat) : Prop := ∃ l, L = qs.map (fun q => mn q l) ∧ L.sum = E
theorem sum_le {α : Type} {f g : α → Rat} : ∀ {qs : List α}, (∀ q ∈ qs, f q ≤ g q) → (qs.map f).sum ≤ (qs.map g).sum
  | [], _ => by simp
  | q :: qs, h => by
    have h1 := h q (by simp)
    have h2 := sum_le (qs := qs) fun x hx => h x (by simp [hx])
    simp only [List.map_cons, List.sum_cons]
    grind
theorem sum_eq {α : Type} {f g : α → Rat} : ∀ {qs : List α}, (∀ q ∈ qs, f q ≤ g q) → (qs.map g).sum ≤ (qs.map f).sum → ∀ q ∈ qs, f q = g q
  | [], _, _, q, hq => by simp at hq
  | q :: qs, h, hs, x, hx => by
    have h1 := h q (by simp)
    have h2 := sum_le (f := f) (g := g) (qs := qs) fun x hx => h x (by simp [hx])
    simp only [List.map_cons, List.sum_cons] at hs
    rcases List.mem_cons.mp hx with rfl | hx
    · grind
    · exact sum_eq (fun x hx => h x (by simp [hx])) (by grind) x hx
/-- more to share gives nobody less -/
theorem Eq.mono {E E' : Rat} {qs L L' : List Rat} (h : Eq E qs L) (h' : Eq E' qs L') (hE : E ≤ E') : ∃ l l', L = qs.map (fun q => mn q l) ∧ L' = qs.map (fun q => mn q l') ∧ ∀ q ∈ qs, mn q l ≤ mn q l' := by
  obtain ⟨l, e, s⟩ := h
  obtain ⟨l', e', s'⟩ := h'
  refine ⟨l, l', e, e', ?_⟩
  by_cases hl : l ≤ l'
  · exact fun q _ => mn_mono hl
  · have := sum_eq (f := fun q => mn q l') (g := fun q => mn q l) (qs := qs) (fun q _ => mn_mono (by grind)) (by rw [← e, ← e', s, s']; exact hE)
    intro q hq
    have := this q hq
    grind
theorem Eq.unique {E : Rat} {qs L L' : List Rat} (h : Eq E qs L) (h' : Eq E qs L') : L = L' := by
  obtain ⟨l, l', e1, e2, h1⟩ := h.mono h' (by grind)
  obtain ⟨m, m', f1, f2, h2⟩ := h'.mono h (by grind)
  rw [e1, e2]
  have e3 := e1.symm.trans f2
  have e4 := e2.symm.trans f1
  refine List.map_congr_left fun q hq => ?_
  have a1 := h1 q hq
  have a2 := h2 q hq
  have a3 : mn q l = mn q m' := List.map_inj_left.mp e3 q hq
  have a4 : mn q l' = mn q m := List.map_inj_left.mp e4 q hq
  grind
/-- what holds while the least claims are paid whole -/
structure Go (E : Rat) (dn rs : List Rat) (left : Rat) : Prop where
  here : left = E - dn.sum
  all : dn ++ rs ≠ []
  small : ∀ x ∈ dn, x * (rs.length : Rat) < left
  cross : ∀ x ∈ dn, ∀ y ∈ rs, x ≤ y
  sorted : rs.Pairwise (· ≤ ·)
  most : E ≤ (dn ++ rs).sum
theorem Go.more {E left : Rat} {dn rs : List Rat} (h : Go E dn rs left) : rs ≠ [] := by
  intro e
  subst e
  have h1 := h.here
  have h2 := h.most
  have h3 := h.all
  rw [List.append_nil] at h2 h3
  cases dn with
  | nil => exact h3 rfl
  | cons x dn =>
    have := h.small x (by simp)
    simp at this
    grind
theorem sum_app (xs ys : List Rat) : (xs ++ ys).sum = xs.sum + ys.sum := by
  induction xs with
  | nil => simp [Rat.zero_add]
  | cons x xs ih => simp only [List.cons_append, List.sum_cons, ih]; grind
theorem sum_const {α : Type} (a : Rat) : ∀ (xs : List α), (xs.map fun _ => a).sum = xs.length * a
  | [] => by simp
  | x :: xs => by
    rw [List.map_cons, List.sum_cons, sum_const a xs, List.length_cons]
    have : ((xs.length + 1 : Nat) : Rat) = (xs.length : Rat) + 1 := by simp
    rw [this]; grind
theorem lenpos {α : Type} {x : α} {rs : List α} : (0 : Rat) < ((x :: rs).length : Rat) := by
  have : ((x :: rs).length : Rat) = ((rs.length + 1 : Nat) : Rat) := rfl
  rw [this]
  exact_mod_cast Nat.succ_pos _
theorem Go.stop {E left : Rat} {dn rs : List Rat} {s0 : Rat} (h : Go E dn (s0 :: rs) left) {am : Rat} (ha : am * ((s0 :: rs).length : Rat) = left) (hs : am ≤ s0) :
    (∀ x ∈ dn, x < am) ∧ (∀ y ∈ s0 :: rs, am ≤ y) ∧ ((dn ++ s0 :: rs).map fun q => mn q am).sum = E := by
  have hp : (0 : Rat) < ((s0 :: rs).length : Rat) := lenpos
  have h1 : ∀ x ∈ dn, x < am := fun x hx => by
    have := h.small x hx
    rw [← ha] at this
    exact Rat.lt_of_mul_lt_mul_right this (Rat.le_of_lt hp)
  have h2 : ∀ y ∈ s0 :: rs, am ≤ y := fun y hy => by
    rcases List.mem_cons.mp hy with rfl | hy
    · exact hs
    · have := (List.pairwise_cons.mp h.sorted).1 y hy
      exact Rat.le_trans hs this
  refine ⟨h1, h2, ?_⟩
  rw [List.map_append, sum_app, show dn.map (fun q => mn q am) = dn from ?_, show (s0 :: rs).map (fun q => mn q am) = (s0 :: rs).map (fun _ => am) from List.map_congr_left fun y hy => mn_of_le (h2 y hy), sum_const]
  · have := h.here
    grind
  · conv => rhs; rw [← List.map_id dn]
    exact List.map_congr_left fun x hx => mn_of_lt (h1 x hx)
theorem Go.next {E left : Rat} {dn rs : List Rat} {s0 : Rat} (h : Go E dn (s0 :: rs) left) {am : Rat} (ha : am * ((s0 :: rs).length : Rat) = left) (hs : s0 < am) : Go E (dn ++ [s0]) rs (left - s0) := by
  have hp : (0 : Rat) < ((s0 :: rs).length : Rat) := lenpos
  have hl : ((s0 :: rs).length : Rat) = (rs.length : Rat) + 1 := by
    have : ((s0 :: rs).length : Rat) = ((rs.length + 1 : Nat) : Rat) := rfl
    rw [this]; simp
  have h0 : (0 : Rat) ≤ (rs.length : Rat) := by exact_mod_cast Nat.zero_le _
  obtain ⟨hc, hs2⟩ := List.pairwise_cons.mp h.sorted
  have hb : s0 * (rs.length : Rat) < left - s0 := by
    have := Rat.mul_lt_mul_of_pos_right hs hp
    rw [ha, hl] at this
    grind
  refine ⟨?_, by simp, fun x hx => ?_, fun x hx y hy => ?_, hs2, ?_⟩
  · rw [sum_app, h.here]; simp; grind
  · rcases List.mem_append.mp hx with hx | hx
    · have h1 := h.cross x hx s0 (by simp)
      have := Rat.mul_le_mul_of_nonneg_right h1 h0
      grind
    · have : x = s0 := by simpa using hx
      subst this; exact hb
  · rcases List.mem_append.mp hx with hx | hx
    · exact h.cross x hx y (by simp [hy])
    · have : x = s0 := by simpa using hx
      subst this; exact hc y hy
  · have := h.most
    simpa using this
end EA

/-! DXb: x.index(y), x.count(y) over plain values. -/
namespace DV
open PySem PySem.Spec PyProof.Rows L2
abbrev eP6 {α β γ δ ε ζ : Type} (e1 : α → D) (e2 : β → D) (e3 : γ → D) (e4 : δ → D) (e5 : ε → D) (e6 : ζ → D) (p : α × β × γ × δ × ε × ζ) : D := .tup [e1 p.1, e2 p.2.1, e3 p.2.2.1, e4 p.2.2.2.1, e5 p.2.2.2.2.1, e6 p.2.2.2.2.2]
abbrev eP7 {α β γ δ ε ζ η : Type} (e1 : α → D) (e2 : β → D) (e3 : γ → D) (e4 : δ → D) (e5 : ε → D) (e6 : ζ → D) (e7 : η → D) (p : α × β × γ × δ × ε × ζ × η) : D := .tup [e1 p.1, e2 p.2.1, e3 p.2.2.1, e4 p.2.2.2.1, e5 p.2.2.2.2.1, e6 p.2.2.2.2.2.1, e7 p.2.2.2.2.2.2]
/-- any value as a test -/
def AV.tru (v : AV) : Bool := match v.1 with
  | .non => false
  | .bl b => b
  | .int i => i != 0
  | .str y => (y.length : Int) != 0
  | .tup xs => !xs.isEmpty
  | .lst xs => !xs.isEmpty
  | _ => false
theorem tr_A {v : AV} {S : Store} : truth' (eA v) S = some v.tru := by
  obtain ⟨d, hd⟩ := v
  cases d with
  | str x =>
    simp only [D.av, Bool.and_eq_true, decide_eq_true_eq] at hd
    show (if x.length ≤ LIM then _ else _) = _
    rw [if_pos hd.2]; rfl
  | ref x => simp [D.av] at hd
  | fr x => simp [D.av] at hd
  | rng x y => simp [D.av] at hd
  | _ => rfl
theorem AV.tru_tup {v : AV} (h : v.isTup = true) : v.tru = !v.items.isEmpty := by
  have e := AV.tup_eq h
  unfold AV.tru
  rw [e]
  cases hv : v.items <;> rfl
theorem zip_self_mem {α : Type} {a b : α} : ∀ {L : List α}, (a, b) ∈ L.zip L → a = b
  | x :: L, h => by
    simp only [List.zip_cons_cons, List.mem_cons] at h
    rcases h with h | h
    · cases h; rfl
    · exact zip_self_mem h
theorem Cu.cl {n : Nat} (c : Cu) : Ob.cl n c.ob = true := by
  have : ∀ xs : List Int, D.clL n (xs.map D.int) = true := fun xs => by
    induction xs with
    | nil => rfl
    | cons x xs ih => simp [D.clL, D.cl, ih]
  simp [Cu.ob, Ob.cl, D.clL, D.cl, this]
theorem fin_cutC {c c' : Cu} {L X : Store} {d : D} (h : D.fit 11 d = true) : fin .cut (c.ob :: L) d (c'.ob :: (L ++ X)) = some (d, c'.ob :: L) := by
  have e : (c'.ob :: (L ++ X)).take (c.ob :: L).length = c'.ob :: L := by simp
  unfold fin
  simp only [e]
  rw [if_pos, frz_fit 11 _ _ _ h]
  · rfl
  · refine ⟨?_, by simp⟩
    simp only [List.zip_cons_cons, List.all_cons, Cu.cl, Bool.or_true, Bool.true_and, List.all_eq_true]
    rintro ⟨a, b⟩ hz
    have := zip_self_mem hz
    simp [this]
section
variable {α : Type} [DecidableEq α] {e : Ev} {S S1 S2 : Store} {mo : ME} {ms : ML} {en : α → D} {xs : List α} {y : α} {d : D}
/-- the first place of y in xs -/
def idxZ (y : α) : List α → Int
  | [] => 0
  | x :: xs => if x = y then 0 else 1 + idxZ y xs
def cntZ (y : α) (xs : List α) : Int := (xs.countP fun x => decide (x = y) : Nat)
theorem ixD_Z {k : Nat} (h : Eqv k en) : ∀ {xs : List α}, y ∈ xs → ∃ j : Nat, ixD (en y) (xs.map en) = some j ∧ idxZ y xs = (j : Int)
  | x :: xs, hm => by
    simp only [List.map_cons, ixD, h.eq, idxZ]
    by_cases e : x = y
    · exact ⟨0, by simp [e], by simp [e]⟩
    · obtain ⟨j, h1, h2⟩ := ixD_Z h (xs := xs) (by simpa [Ne.symm e] using hm)
      exact ⟨j + 1, by simp [e, h1], by simp [e, h2]; omega⟩
theorem cntD_Z {k : Nat} (h : Eqv k en) (xs : List α) : ((cntD (en y) (xs.map en) : Nat) : Int) = cntZ y xs := by
  unfold cntD cntZ
  rw [List.countP_map]
  congr 2
  funext x; exact h.eq x y
theorem fits_Z (h : Eqv 32 en) (xs : List α) (y : α) : D.fit 32 (en y) = true ∧ D.fitL 32 (xs.map en) = true := ⟨h.fit y, fitL_map fun x _ => h.fit x⟩
theorem ixT_E (q : Eqv 32 en) (ho : mo e S = some (eT en xs, S1)) (ha : ms e S1 = some ([en y], S2)) (hm : y ∈ xs) : mRdT .index mo ms e S = some (eI (idxZ y xs), S2) := by
  obtain ⟨j, h1, h2⟩ := ixD_Z q hm
  unfold mRdT
  rw [ho]; simp only [Option.bind_some]; rw [ha]; simp only [Option.bind_some]
  rw [if_pos (fits_Z q xs y)]
  simp only [Rd1.f, h1, Option.map_some, Option.bind_some, h2]
theorem cnT_E (q : Eqv 32 en) (ho : mo e S = some (eT en xs, S1)) (ha : ms e S1 = some ([en y], S2)) : mRdT .count mo ms e S = some (eI (cntZ y xs), S2) := by
  unfold mRdT
  rw [ho]; simp only [Option.bind_some]; rw [ha]; simp only [Option.bind_some]
  rw [if_pos (fits_Z q xs y)]
  simp only [Rd1.f, Option.bind_some, cntD_Z q]
theorem ixL_E (q : Eqv 32 en) (ho : mo e S = some (d, S1)) (h1 : lstOf d S1 = some (xs.map en)) (ha : ms e S1 = some ([en y], S1)) (hm : y ∈ xs) : mRdL .index mo ms e S = some (eI (idxZ y xs), S1) := by
  obtain ⟨j, h3, h4⟩ := ixD_Z q hm
  unfold mRdL
  rw [ho]; simp only [Option.bind_some]; rw [h1]; simp only [Option.bind_some]; rw [ha]; simp only [Option.bind_some]; rw [h1]; simp only [Option.bind_some]
  rw [if_pos (fits_Z q xs y)]
  simp only [Rd1.f, h3, Option.map_some, Option.bind_some, h4]
theorem cnL_E (q : Eqv 32 en) (ho : mo e S = some (d, S1)) (h1 : lstOf d S1 = some (xs.map en)) (ha : ms e S1 = some ([en y], S1)) : mRdL .count mo ms e S = some (eI (cntZ y xs), S1) := by
  unfold mRdL
  rw [ho]; simp only [Option.bind_some]; rw [h1]; simp only [Option.bind_some]; rw [ha]; simp only [Option.bind_some]; rw [h1]; simp only [Option.bind_some]
  rw [if_pos (fits_Z q xs y)]
  simp only [Rd1.f, Option.bind_some, cntD_Z q]
end
section
variable {α : Type} [Inhabited α] {e : Ev} {S S1 : Store} {m : ME} {en : α → D} {xs : List α}
theorem len5 (h : xs.length = 5) : xs = [ixZ xs 0, ixZ xs 1, ixZ xs 2, ixZ xs 3, ixZ xs 4] := by
  match xs, h with
  | [a, b, c, d, f], _ => rfl
theorem len6 (h : xs.length = 6) : xs = [ixZ xs 0, ixZ xs 1, ixZ xs 2, ixZ xs 3, ixZ xs 4, ixZ xs 5] := by
  match xs, h with
  | [a, b, c, d, f, g], _ => rfl
theorem tgT4 {k l n o : Nat} (h : xs.length = 4) : (Tg.tp [k, l, n, o]).f (eT en xs) e = some ((((e.set k (some (en (ixZ xs 0)))).set l (some (en (ixZ xs 1)))).set n (some (en (ixZ xs 2)))).set o (some (en (ixZ xs 3)))) := by
  conv => lhs; rw [len4 h]
  rfl
theorem asg_tpT4 {k l n o : Nat} (hm : m e S = some (eT en xs, S1)) (h : xs.length = 4) : mAsg m (.tp [k, l, n, o]) e S = some (.nx ((((e.set k (some (en (ixZ xs 0)))).set l (some (en (ixZ xs 1)))).set n (some (en (ixZ xs 2)))).set o (some (en (ixZ xs 3)))), S1) := by
  rw [r_Asg, hm]; simp only [Option.bind_some]; rw [tgT4 h]; rfl
theorem tgT5 {k l n o p : Nat} (h : xs.length = 5) : (Tg.tp [k, l, n, o, p]).f (eT en xs) e = some (((((e.set k (some (en (ixZ xs 0)))).set l (some (en (ixZ xs 1)))).set n (some (en (ixZ xs 2)))).set o (some (en (ixZ xs 3)))).set p (some (en (ixZ xs 4)))) := by
  conv => lhs; rw [len5 h]
  rfl
theorem asg_tpT5 {k l n o p : Nat} (hm : m e S = some (eT en xs, S1)) (h : xs.length = 5) : mAsg m (.tp [k, l, n, o, p]) e S = some (.nx (((((e.set k (some (en (ixZ xs 0)))).set l (some (en (ixZ xs 1)))).set n (some (en (ixZ xs 2)))).set o (some (en (ixZ xs 3)))).set p (some (en (ixZ xs 4)))), S1) := by
  rw [r_Asg, hm]; simp only [Option.bind_some]; rw [tgT5 h]; rfl
theorem tgT6 {k l n o p q : Nat} (h : xs.length = 6) : (Tg.tp [k, l, n, o, p, q]).f (eT en xs) e = some ((((((e.set k (some (en (ixZ xs 0)))).set l (some (en (ixZ xs 1)))).set n (some (en (ixZ xs 2)))).set o (some (en (ixZ xs 3)))).set p (some (en (ixZ xs 4)))).set q (some (en (ixZ xs 5)))) := by
  conv => lhs; rw [len6 h]
  rfl
theorem asg_tpT6 {k l n o p q : Nat} (hm : m e S = some (eT en xs, S1)) (h : xs.length = 6) : mAsg m (.tp [k, l, n, o, p, q]) e S = some (.nx ((((((e.set k (some (en (ixZ xs 0)))).set l (some (en (ixZ xs 1)))).set n (some (en (ixZ xs 2)))).set o (some (en (ixZ xs 3)))).set p (some (en (ixZ xs 4)))).set q (some (en (ixZ xs 5)))), S1) := by
  rw [r_Asg, hm]; simp only [Option.bind_some]; rw [tgT6 h]; rfl
theorem tgP4 {k l n o : Nat} {a b c d : D} : (Tg.tp [k, l, n, o]).f (.tup [a, b, c, d]) e = some ((((e.set k (some a)).set l (some b)).set n (some c)).set o (some d)) := rfl
theorem tgP5 {k l n o p : Nat} {a b c d f : D} : (Tg.tp [k, l, n, o, p]).f (.tup [a, b, c, d, f]) e = some (((((e.set k (some a)).set l (some b)).set n (some c)).set o (some d)).set p (some f)) := rfl
theorem tgP6 {k l n o p q : Nat} {a b c d f g : D} : (Tg.tp [k, l, n, o, p, q]).f (.tup [a, b, c, d, f, g]) e = some ((((((e.set k (some a)).set l (some b)).set n (some c)).set o (some d)).set p (some f)).set q (some g)) := rfl
theorem tgP7 {k l n o p q r : Nat} {a b c d f g h : D} : (Tg.tp [k, l, n, o, p, q, r]).f (.tup [a, b, c, d, f, g, h]) e = some (((((((e.set k (some a)).set l (some b)).set n (some c)).set o (some d)).set p (some f)).set q (some g)).set r (some h)) := rfl
end
section
variable {α : Type} {e : Ev} {S S1 : Store} {m : ME} {en : α → D} {xs : List α}
theorem setGd_E [Inhabited α] {S2 S3 : Store} {i : Int} {ma mb : ME} {p : Nat} {y : α} (h : m e S = some (en y, S1)) (ho : ma e S1 = some (.ref p, S1)) (hi : mb e S1 = some (.int i, S2)) (hp : S2[p]? = some (.lst (xs.map en))) (hr : InR xs i) (hs : S2.set p (.lst ((setZ xs i y).map en)) = S3) : mSetIx m ma mb e S = some (.nx e, S3) := by
  rw [set_E h ho hi hp hr, hs]
theorem mapA_eq (h : ∀ x ∈ xs, D.av 9 (en x) = true) : (xs.map fun x => mkA (en x)).map eA = xs.map en := by
  rw [List.map_map]
  exact List.map_congr_left fun x hx => mkA_eq (h x hx)
theorem coTA (q : m e S = some (eT en xs, S1)) (h : ∀ x ∈ xs, D.av 9 (en x) = true) : m e S = some (eT eA (xs.map fun x => mkA (en x)), S1) := by
  rw [q]; show _ = some (D.tup _, S1); rw [mapA_eq h]
theorem coLA (q : m e S = some (eL en xs, S1)) (h : ∀ x ∈ xs, D.av 9 (en x) = true) : m e S = some (eL eA (xs.map fun x => mkA (en x)), S1) := by
  rw [q]; show _ = some (D.lst _, S1); rw [mapA_eq h]
theorem coPA1 {d1 : D} (q : m e S = some (.tup [d1], S1)) (h : D.av 9 d1 = true) : m e S = some (eT eA [mkA d1], S1) := by
  rw [q]; show _ = some (D.tup [eA (mkA d1)], S1); rw [mkA_eq h]
theorem coPA2 {d1 d2 : D} (q : m e S = some (.tup [d1, d2], S1)) (h : D.av 9 d1 = true) (h2 : D.av 9 d2 = true) : m e S = some (eT eA [mkA d1, mkA d2], S1) := by
  rw [q]; show _ = some (D.tup [eA (mkA d1), eA (mkA d2)], S1); rw [mkA_eq h, mkA_eq h2]
end
section
variable {α : Type} [DecidableEq α] [Inhabited α]
theorem idxZ_spec {y : α} : ∀ {xs : List α}, y ∈ xs → ∃ j : Nat, idxZ y xs = (j : Int) ∧ j < xs.length ∧ xs.getD j default = y ∧ ∀ m, m < j → xs.getD m default ≠ y
  | x :: xs, hm => by
    by_cases e : x = y
    · exact ⟨0, by simp [idxZ, e], by simp, by simp [e], fun m h => by omega⟩
    · obtain ⟨j, h1, h2, h3, h4⟩ := idxZ_spec (xs := xs) (by simpa [Ne.symm e] using hm)
      refine ⟨j + 1, by simp [idxZ, e, h1]; omega, by simp; omega, by simpa using h3, fun m h => ?_⟩
      cases m with
      | zero => simpa using e
      | succ m => simpa using h4 m (by omega)
end
end DV

/-! DXc: plain helpers: walks, firsts, small values. -/
namespace DV
open PySem PySem.Spec PyProof.Rows L2
theorem okA_mem {α β γ : Type} {f : γ → α → β × γ} {ok : γ → α → Prop} : ∀ (xs : List α) (c : γ), (∀ c x, x ∈ xs → ok c x) → okA f ok c xs
  | [], _, _ => trivial
  | x :: xs, c, h => ⟨h c x (by simp), okA_mem xs _ fun c y hy => h c y (by simp [hy])⟩
theorem okFor_allS {α T R : Type} {ok : T → α → Prop} {step : T → α → Lo T R} (h : ∀ t x, ok t x) : ∀ (xs : List α) (t : T), okFor ok step t xs := fun xs t => okFor_all xs t fun t x _ => h t x
theorem okFold_all {α T : Type} {ok : T → α → Prop} {step : T → α → T} : ∀ (xs : List α) (t : T), (∀ t x, x ∈ xs → ok t x) → okFold ok step t xs
  | [], _, _ => trivial
  | x :: xs, t, h => ⟨h t x (by simp), okFold_all xs _ fun t y hy => h t y (by simp [hy])⟩
theorem forP_nxS {α T R : Type} {step : T → α → Lo T R} (h : ∀ t x, ∃ t', step t x = .nx t') : ∀ (xs : List α) (t : T), ∃ t', forP step t xs = .nx t'
  | [], t => ⟨t, rfl⟩
  | x :: xs, t => by
    obtain ⟨t', e⟩ := h t x
    obtain ⟨t'', e2⟩ := forP_nxS h xs t'
    exact ⟨t'', by rw [forP_nx e, e2]⟩
theorem forP_nxM {α T R : Type} {step : T → α → Lo T R} : ∀ (xs : List α) (t : T), (∀ t x, x ∈ xs → ∃ t', step t x = .nx t') → ∃ t', forP step t xs = .nx t'
  | [], t, _ => ⟨t, rfl⟩
  | x :: xs, t, h => by
    obtain ⟨t', e⟩ := h t x (by simp)
    obtain ⟨t'', e2⟩ := forP_nxM xs t' fun t y hy => h t y (by simp [hy])
    exact ⟨t'', by rw [forP_nx e, e2]⟩
/-- a walk without a state goes to its end, or ends at an item -/
theorem forP_first {α R : Type} {s : Unit → α → Lo Unit R} : ∀ (xs : List α), (∀ x ∈ xs, s () x = .nx () ∨ ∃ r, s () x = .rt r) →
    (forP s () xs = .nx () ∧ ∀ x ∈ xs, s () x = .nx ()) ∨ ∃ x ∈ xs, ∃ r, s () x = .rt r ∧ forP s () xs = .rt r
  | [], _ => .inl ⟨rfl, by simp⟩
  | x :: xs, h => by
    rcases h x (by simp) with e | ⟨r, e⟩
    · rcases forP_first xs fun y hy => h y (by simp [hy]) with ⟨h1, h2⟩ | ⟨y, hy, r, h1, h2⟩
      · refine .inl ⟨by rw [forP_nx e, h1], fun y hy => ?_⟩
        rcases List.mem_cons.mp hy with rfl | hy
        · exact e
        · exact h2 y hy
      · exact .inr ⟨y, by simp [hy], r, h1, by rw [forP_nx e, h2]⟩
    · exact .inr ⟨x, by simp, r, e, forP_rt e⟩
/-- a fold's invariant by turns -/
theorem okFold_ix {α T : Type} {ok : T → α → Prop} {step : T → α → T} (I : Nat → T → Prop) : ∀ (xs : List α) (t : T) (k : Nat), I k t → (∀ j t x, x ∈ xs → k ≤ j → j < k + xs.length → I j t → ok t x ∧ I (j + 1) (step t x)) → okFold ok step t xs ∧ I (k + xs.length) (xs.foldl step t)
  | [], _, _, h, _ => ⟨trivial, h⟩
  | x :: xs, t, k, h, st => by
    obtain ⟨h1, h2⟩ := st k t x (by simp) (by omega) (by simp) h
    obtain ⟨h3, h4⟩ := okFold_ix I xs (step t x) (k + 1) h2 fun j t y hy g1 g2 => st j t y (List.mem_cons_of_mem _ hy) (by omega) (by simp; omega)
    refine ⟨⟨h1, h3⟩, ?_⟩
    rw [List.length_cons, show k + (xs.length + 1) = k + 1 + xs.length by omega]
    exact h4
theorem rng_lit (n : Nat) : rngZ 0 (n : Int) = (List.range n).map fun (i : Nat) => (i : Int) := rngZ_nat n
theorem sm_av {n : Nat} {d : D} (s : Sm 1000 n d) (h : n ≤ 9) : D.av 9 d = true := av_mono n 9 h _ (s.av (by decide))
/-- a word and ints -/
theorem sm_word {w : Sx} {is : List Int} (h : ∀ i ∈ is, i.natAbs < 1099511627776) (hl : is.length < 1000) : Sm 1000 1 (.tup (eS w :: is.map eI)) := by
  refine .tup 0 _ (by simp; omega) fun d hd => ?_
  rcases List.mem_cons.mp hd with rfl | hd
  · exact .str _ _ w.2
  · obtain ⟨i, hi, rfl⟩ := List.mem_map.mp hd
    exact .int _ _ (h i hi)
/-- pairs of ints can be sorted -/
theorem sortP_ok (xs : List (Int × Int)) : D.fitL 31 (xs.map (eP2 eI eI)) = true ∧ alikeB (xs.map (eP2 eI eI)) = true ∧ sortableB (xs.map (eP2 eI eI)) = true := by
  refine ⟨fitL_map fun _ _ => fit_P2 fit_I fit_I _, ?_, ?_⟩
  · unfold alikeB
    simp only [List.all_map, List.all_eq_true]
    intro a _
    simp [notNonB, dalike, D.py, D.pyL, PySem.W.alike, PySem.W.alikeAll]
  · unfold sortableB
    rw [Bool.or_eq_true]
    left
    simp
theorem sortZ_perm {α : Type} (en : α → D) (xs : List α) : (sortZ en xs).Perm xs := List.mergeSort_perm _ _
end DV

/-! ### the text, def by def: what it means over DV's values, and that the model does the same -/
namespace K43
open PySem PySem.Spec PyProof.Rows L2 DV
def topS (i : Nat) : Stmt := PySem.Challenge.pw_shareworth_k43_tables_for_two_voters.main.body.getD i (.Pass ⟨0, 0, 0, 0⟩)
abbrev s_isInteger : Stmt := topS 1
abbrev N_isInteger : List Str := ["value"]
theorem sc_isInteger : FnScope N_isInteger ["value"] (defScope s_isInteger) := ⟨rfl, rfl, rfl, by decide +kernel, rfl, by decide +kernel, by decide +kernel⟩
abbrev s_isAhead : Stmt := topS 5
abbrev N_isAhead : List Str := ["p", "x", "y"]
theorem sc_isAhead : FnScope N_isAhead ["p", "x", "y"] (defScope s_isAhead) := ⟨rfl, rfl, rfl, by decide +kernel, rfl, by decide +kernel, by decide +kernel⟩
abbrev s_rulesAlone : Stmt := topS 6
abbrev N_rulesAlone : List Str := ["table", "v", "p", "q"]
theorem sc_rulesAlone : FnScope N_rulesAlone ["table", "v"] (defScope s_rulesAlone) := ⟨rfl, rfl, rfl, by decide +kernel, rfl, by decide +kernel, by decide +kernel⟩
abbrev s_isAgainst : Stmt := topS 7
abbrev N_isAgainst : List Str := ["table", "p", "q", "x", "y"]
theorem sc_isAgainst : FnScope N_isAgainst ["table", "p", "q", "x", "y"] (defScope s_isAgainst) := ⟨rfl, rfl, rfl, by decide +kernel, rfl, by decide +kernel, by decide +kernel⟩
abbrev s_hangsOnOthers : Stmt := topS 8
abbrev N_hangsOnOthers : List Str := ["table", "p", "q", "r", "s", "x", "y"]
theorem sc_hangsOnOthers : FnScope N_hangsOnOthers ["table", "p", "q", "r", "s", "x", "y"] (defScope s_hangsOnOthers) := ⟨rfl, rfl, rfl, by decide +kernel, rfl, by decide +kernel, by decide +kernel⟩
abbrev s_arrowPaper : Stmt := topS 9
abbrev N_arrowPaper : List Str := ["table", "v", "numbers", "p", "q", "x", "y", "r", "s"]
theorem sc_arrowPaper : FnScope N_arrowPaper ["table"] (defScope s_arrowPaper) := ⟨rfl, rfl, rfl, by decide +kernel, rfl, by decide +kernel, by decide +kernel⟩
abbrev s_areNumbers : Stmt := topS 10
abbrev N_areNumbers : List Str := ["row", "most", "one"]
theorem sc_areNumbers : FnScope N_areNumbers ["row", "most"] (defScope s_areNumbers) := ⟨rfl, rfl, rfl, by decide +kernel, rfl, by decide +kernel, by decide +kernel⟩
abbrev s_judgeArrow : Stmt := topS 11
abbrev N_judgeArrow : List Str := ["table", "value", "p", "q", "r", "s", "x", "y"]
theorem sc_judgeArrow : FnScope N_judgeArrow ["table", "value"] (defScope s_judgeArrow) := ⟨rfl, rfl, rfl, by decide +kernel, rfl, by decide +kernel, by decide +kernel⟩
abbrev s_choosesAlone : Stmt := topS 12
abbrev N_choosesAlone : List Str := ["table", "v", "p", "q"]
theorem sc_choosesAlone : FnScope N_choosesAlone ["table", "v"] (defScope s_choosesAlone) := ⟨rfl, rfl, rfl, by decide +kernel, rfl, by decide +kernel, by decide +kernel⟩
abbrev s_doesGain : Stmt := topS 13
abbrev N_doesGain : List Str := ["table", "v", "p", "q", "r", "own", "old", "new"]
theorem sc_doesGain : FnScope N_doesGain ["table", "v", "p", "q", "r"] (defScope s_doesGain) := ⟨rfl, rfl, rfl, by decide +kernel, rfl, by decide +kernel, by decide +kernel⟩
abbrev s_choicePaper : Stmt := topS 14
abbrev N_choicePaper : List Str := ["table", "v", "x", "p", "q", "r"]
theorem sc_choicePaper : FnScope N_choicePaper ["table"] (defScope s_choicePaper) := ⟨rfl, rfl, rfl, by decide +kernel, rfl, by decide +kernel, by decide +kernel⟩
abbrev s_judgeChoice : Stmt := topS 15
abbrev N_judgeChoice : List Str := ["table", "value"]
theorem sc_judgeChoice : FnScope N_judgeChoice ["table", "value"] (defScope s_judgeChoice) := ⟨rfl, rfl, rfl, by decide +kernel, rfl, by decide +kernel, by decide +kernel⟩
abbrev s_LStart : Stmt := topS 17
abbrev N_LStart : List Str := ["script", "cell"]
theorem sc_LStart : FnScope N_LStart ["script"] (defScope s_LStart) := ⟨rfl, rfl, rfl, by decide +kernel, rfl, by decide +kernel, by decide +kernel⟩
abbrev s_LFill : Stmt := topS 18
abbrev N_LFill : List Str := ["c", "number"]
theorem sc_LFill : FnScope N_LFill ["c"] (defScope s_LFill) := ⟨rfl, rfl, rfl, by decide +kernel, rfl, by decide +kernel, by decide +kernel⟩
abbrev s_LTake : Stmt := topS 19
abbrev N_LTake : List Str := ["c", "many", "digit"]
theorem sc_LTake : FnScope N_LTake ["c", "many"] (defScope s_LTake) := ⟨rfl, rfl, rfl, by decide +kernel, rfl, by decide +kernel, by decide +kernel⟩
abbrev s_LIsInt : Stmt := topS 20
abbrev N_LIsInt : List Str := ["value"]
theorem sc_LIsInt : FnScope N_LIsInt ["value"] (defScope s_LIsInt) := ⟨rfl, rfl, rfl, by decide +kernel, rfl, by decide +kernel, by decide +kernel⟩
abbrev s_LSpoilt : Stmt := topS 22
abbrev N_LSpoilt : List Str := ["c", "value", "k"]
theorem sc_LSpoilt : FnScope N_LSpoilt ["c", "value"] (defScope s_LSpoilt) := ⟨rfl, rfl, rfl, by decide +kernel, rfl, by decide +kernel, by decide +kernel⟩
abbrev s_LBent : Stmt := topS 23
abbrev N_LBent : List Str := ["c", "value", "turn", "k"]
theorem sc_LBent : FnScope N_LBent ["c", "value", "turn"] (defScope s_LBent) := ⟨rfl, rfl, rfl, by decide +kernel, rfl, by decide +kernel, by decide +kernel⟩
abbrev s_LOrders : Stmt := topS 24
abbrev N_LOrders : List Str := []
theorem sc_LOrders : FnScope N_LOrders [] (defScope s_LOrders) := ⟨rfl, rfl, rfl, by decide +kernel, rfl, by decide +kernel, by decide +kernel⟩
abbrev s_LTable : Stmt := topS 25
abbrev N_LTable : List Str := ["c", "most", "orders", "p", "turn", "kind", "found", "q", "own", "places", "x", "place"]
theorem sc_LTable : FnScope N_LTable ["c", "most"] (defScope s_LTable) := ⟨rfl, rfl, rfl, by decide +kernel, rfl, by decide +kernel, by decide +kernel⟩
abbrev s_LAhead : Stmt := topS 26
abbrev N_LAhead : List Str := ["p", "x", "y", "order"]
theorem sc_LAhead : FnScope N_LAhead ["p", "x", "y"] (defScope s_LAhead) := ⟨rfl, rfl, rfl, by decide +kernel, rfl, by decide +kernel, by decide +kernel⟩
abbrev s_LNumbers : Stmt := topS 27
abbrev N_LNumbers : List Str := ["value", "sizes", "k"]
theorem sc_LNumbers : FnScope N_LNumbers ["value", "sizes"] (defScope s_LNumbers) := ⟨rfl, rfl, rfl, by decide +kernel, rfl, by decide +kernel, by decide +kernel⟩
abbrev s_LOwn : Stmt := topS 28
abbrev N_LOwn : List Str := ["table", "v", "most", "orders", "p", "q", "own"]
theorem sc_LOwn : FnScope N_LOwn ["table", "v", "most"] (defScope s_LOwn) := ⟨rfl, rfl, rfl, by decide +kernel, rfl, by decide +kernel, by decide +kernel⟩
abbrev s_LIsArrow : Stmt := topS 29
abbrev N_LIsArrow : List Str := ["table", "value", "p", "q", "r", "s", "x", "y"]
theorem sc_LIsArrow : FnScope N_LIsArrow ["table", "value"] (defScope s_LIsArrow) := ⟨rfl, rfl, rfl, by decide +kernel, rfl, by decide +kernel, by decide +kernel⟩
abbrev s_LIsChoice : Stmt := topS 30
abbrev N_LIsChoice : List Str := ["table", "value", "v", "p", "q", "r", "old", "new"]
theorem sc_LIsChoice : FnScope N_LIsChoice ["table", "value"] (defScope s_LIsChoice) := ⟨rfl, rfl, rfl, by decide +kernel, rfl, by decide +kernel, by decide +kernel⟩
abbrev s_LWords : Stmt := topS 31
abbrev N_LWords : List Str := ["c", "value", "words", "k"]
theorem sc_LWords : FnScope N_LWords ["c", "value"] (defScope s_LWords) := ⟨rfl, rfl, rfl, by decide +kernel, rfl, by decide +kernel, by decide +kernel⟩
abbrev s_LAW : Stmt := topS 32
abbrev N_LAW : List Str := ["script", "c", "turn", "orders", "choices", "one", "two", "first", "second", "told", "v", "answer"]
theorem sc_LAW : FnScope N_LAW ["script"] (defScope s_LAW) := ⟨rfl, rfl, rfl, by decide +kernel, rfl, by decide +kernel, by decide +kernel⟩
structure Txt (K : PySem.W.Frag) (mg : Str → Option Value) where
  f_isInteger : Addr
  d_isInteger : FuncData
  F_isInteger : Fun K "is_integer" "is_integer" s_isInteger f_isInteger d_isInteger
  b_isInteger : L2.Binds K d_isInteger ["value"] []
  g_isInteger : mg "is_integer" = some (.ref f_isInteger)
  f_isAhead : Addr
  d_isAhead : FuncData
  F_isAhead : Fun K "is_ahead" "is_ahead" s_isAhead f_isAhead d_isAhead
  b_isAhead : L2.Binds K d_isAhead ["p", "x", "y"] []
  g_isAhead : mg "is_ahead" = some (.ref f_isAhead)
  f_rulesAlone : Addr
  d_rulesAlone : FuncData
  F_rulesAlone : Fun K "rules_alone" "rules_alone" s_rulesAlone f_rulesAlone d_rulesAlone
  b_rulesAlone : L2.Binds K d_rulesAlone ["table", "v"] []
  g_rulesAlone : mg "rules_alone" = some (.ref f_rulesAlone)
  f_isAgainst : Addr
  d_isAgainst : FuncData
  F_isAgainst : Fun K "is_against" "is_against" s_isAgainst f_isAgainst d_isAgainst
  b_isAgainst : L2.Binds K d_isAgainst ["table", "p", "q", "x", "y"] []
  g_isAgainst : mg "is_against" = some (.ref f_isAgainst)
  f_hangsOnOthers : Addr
  d_hangsOnOthers : FuncData
  F_hangsOnOthers : Fun K "hangs_on_others" "hangs_on_others" s_hangsOnOthers f_hangsOnOthers d_hangsOnOthers
  b_hangsOnOthers : L2.Binds K d_hangsOnOthers ["table", "p", "q", "r", "s", "x", "y"] []
  g_hangsOnOthers : mg "hangs_on_others" = some (.ref f_hangsOnOthers)
  f_arrowPaper : Addr
  d_arrowPaper : FuncData
  F_arrowPaper : Fun K "arrow_paper" "arrow_paper" s_arrowPaper f_arrowPaper d_arrowPaper
  b_arrowPaper : L2.Binds K d_arrowPaper ["table"] []
  g_arrowPaper : mg "arrow_paper" = some (.ref f_arrowPaper)
  f_areNumbers : Addr
  d_areNumbers : FuncData
  F_areNumbers : Fun K "are_numbers" "are_numbers" s_areNumbers f_areNumbers d_areNumbers
  b_areNumbers : L2.Binds K d_areNumbers ["row", "most"] []
  g_areNumbers : mg "are_numbers" = some (.ref f_areNumbers)
  f_judgeArrow : Addr
  d_judgeArrow : FuncData
  F_judgeArrow : Fun K "judge_arrow" "judge_arrow" s_judgeArrow f_judgeArrow d_judgeArrow
  b_judgeArrow : L2.Binds K d_judgeArrow ["table", "value"] []
  g_judgeArrow : mg "judge_arrow" = some (.ref f_judgeArrow)
  f_choosesAlone : Addr
  d_choosesAlone : FuncData
  F_choosesAlone : Fun K "chooses_alone" "chooses_alone" s_choosesAlone f_choosesAlone d_choosesAlone
  b_choosesAlone : L2.Binds K d_choosesAlone ["table", "v"] []
  g_choosesAlone : mg "chooses_alone" = some (.ref f_choosesAlone)
  f_doesGain : Addr
  d_doesGain : FuncData
  F_doesGain : Fun K "does_gain" "does_gain" s_doesGain f_doesGain d_doesGain
  b_doesGain : L2.Binds K d_doesGain ["table", "v", "p", "q", "r"] []
  g_doesGain : mg "does_gain" = some (.ref f_doesGain)
  f_choicePaper : Addr
  d_choicePaper : FuncData
  F_choicePaper : Fun K "choice_paper" "choice_paper" s_choicePaper f_choicePaper d_choicePaper
  b_choicePaper : L2.Binds K d_choicePaper ["table"] []
  g_choicePaper : mg "choice_paper" = some (.ref f_choicePaper)
  f_judgeChoice : Addr
  d_judgeChoice : FuncData
  F_judgeChoice : Fun K "judge_choice" "judge_choice" s_judgeChoice f_judgeChoice d_judgeChoice
  b_judgeChoice : L2.Binds K d_judgeChoice ["table", "value"] []
  g_judgeChoice : mg "judge_choice" = some (.ref f_judgeChoice)
  f_LStart : Addr
  d_LStart : FuncData
  F_LStart : Fun K "_law_start" "_law_start" s_LStart f_LStart d_LStart
  b_LStart : L2.Binds K d_LStart ["script"] []
  g_LStart : mg "_law_start" = some (.ref f_LStart)
  f_LFill : Addr
  d_LFill : FuncData
  F_LFill : Fun K "_law_fill" "_law_fill" s_LFill f_LFill d_LFill
  b_LFill : L2.Binds K d_LFill ["c"] []
  g_LFill : mg "_law_fill" = some (.ref f_LFill)
  f_LTake : Addr
  d_LTake : FuncData
  F_LTake : Fun K "_law_take" "_law_take" s_LTake f_LTake d_LTake
  b_LTake : L2.Binds K d_LTake ["c", "many"] []
  g_LTake : mg "_law_take" = some (.ref f_LTake)
  f_LIsInt : Addr
  d_LIsInt : FuncData
  F_LIsInt : Fun K "_law_is_int" "_law_is_int" s_LIsInt f_LIsInt d_LIsInt
  b_LIsInt : L2.Binds K d_LIsInt ["value"] []
  g_LIsInt : mg "_law_is_int" = some (.ref f_LIsInt)
  f_LSpoilt : Addr
  d_LSpoilt : FuncData
  F_LSpoilt : Fun K "_law_spoilt" "_law_spoilt" s_LSpoilt f_LSpoilt d_LSpoilt
  b_LSpoilt : L2.Binds K d_LSpoilt ["c", "value"] []
  g_LSpoilt : mg "_law_spoilt" = some (.ref f_LSpoilt)
  f_LBent : Addr
  d_LBent : FuncData
  F_LBent : Fun K "_law_bent" "_law_bent" s_LBent f_LBent d_LBent
  b_LBent : L2.Binds K d_LBent ["c", "value", "turn"] []
  g_LBent : mg "_law_bent" = some (.ref f_LBent)
  f_LOrders : Addr
  d_LOrders : FuncData
  F_LOrders : Fun K "_law_orders" "_law_orders" s_LOrders f_LOrders d_LOrders
  b_LOrders : L2.Binds K d_LOrders [] []
  g_LOrders : mg "_law_orders" = some (.ref f_LOrders)
  f_LTable : Addr
  d_LTable : FuncData
  F_LTable : Fun K "_law_table" "_law_table" s_LTable f_LTable d_LTable
  b_LTable : L2.Binds K d_LTable ["c", "most"] []
  g_LTable : mg "_law_table" = some (.ref f_LTable)
  f_LAhead : Addr
  d_LAhead : FuncData
  F_LAhead : Fun K "_law_ahead" "_law_ahead" s_LAhead f_LAhead d_LAhead
  b_LAhead : L2.Binds K d_LAhead ["p", "x", "y"] []
  g_LAhead : mg "_law_ahead" = some (.ref f_LAhead)
  f_LNumbers : Addr
  d_LNumbers : FuncData
  F_LNumbers : Fun K "_law_numbers" "_law_numbers" s_LNumbers f_LNumbers d_LNumbers
  b_LNumbers : L2.Binds K d_LNumbers ["value", "sizes"] []
  g_LNumbers : mg "_law_numbers" = some (.ref f_LNumbers)
  f_LOwn : Addr
  d_LOwn : FuncData
  F_LOwn : Fun K "_law_own" "_law_own" s_LOwn f_LOwn d_LOwn
  b_LOwn : L2.Binds K d_LOwn ["table", "v", "most"] []
  g_LOwn : mg "_law_own" = some (.ref f_LOwn)
  f_LIsArrow : Addr
  d_LIsArrow : FuncData
  F_LIsArrow : Fun K "_law_is_arrow" "_law_is_arrow" s_LIsArrow f_LIsArrow d_LIsArrow
  b_LIsArrow : L2.Binds K d_LIsArrow ["table", "value"] []
  g_LIsArrow : mg "_law_is_arrow" = some (.ref f_LIsArrow)
  f_LIsChoice : Addr
  d_LIsChoice : FuncData
  F_LIsChoice : Fun K "_law_is_choice" "_law_is_choice" s_LIsChoice f_LIsChoice d_LIsChoice
  b_LIsChoice : L2.Binds K d_LIsChoice ["table", "value"] []
  g_LIsChoice : mg "_law_is_choice" = some (.ref f_LIsChoice)
  f_LWords : Addr
  d_LWords : FuncData
  F_LWords : Fun K "_law_words" "_law_words" s_LWords f_LWords d_LWords
  b_LWords : L2.Binds K d_LWords ["c", "value"] []
  g_LWords : mg "_law_words" = some (.ref f_LWords)
  f_LAW : Addr
  d_LAW : FuncData
  F_LAW : Fun K "law" "law" s_LAW f_LAW d_LAW
  b_LAW : L2.Binds K d_LAW ["script"] []
  g_LAW : mg "law" = some (.ref f_LAW)
  n_all : mg "all" = none
  n_any : mg "any" = none
  n_bool : mg "bool" = none
  n_int : mg "int" = none
  n_isinstance : mg "isinstance" = none
  n_len : mg "len" = none
  n_list : mg "list" = none
  n_range : mg "range" = none
  n_sorted : mg "sorted" = none
  n_str : mg "str" = none
  n_tuple : mg "tuple" = none
  u_ORDERS : Value
  m_ORDERS : mg "ORDERS" = some u_ORDERS
  k_ORDERS : KD K u_ORDERS (.tup [(.tup [(.int 0), (.int 1), (.int 2)]), (.tup [(.int 0), (.int 2), (.int 1)]), (.tup [(.int 1), (.int 0), (.int 2)]), (.tup [(.int 1), (.int 2), (.int 0)]), (.tup [(.int 2), (.int 0), (.int 1)]), (.tup [(.int 2), (.int 1), (.int 0)])])
  u_PAIRS : Value
  m_PAIRS : mg "PAIRS" = some u_PAIRS
  k_PAIRS : KD K u_PAIRS (.tup [(.tup [(.int 0), (.int 1)]), (.tup [(.int 0), (.int 2)]), (.tup [(.int 1), (.int 0)]), (.tup [(.int 1), (.int 2)]), (.tup [(.int 2), (.int 0)]), (.tup [(.int 2), (.int 1)])])
section
variable {P : Program} {w : World} {K : PySem.W.Frag} {mg : Str → Option Value} {base : Heap}
def B_isInteger : MS := (mRet (mAndV (mIsi "int" (mV 0)) (mNotV (mIsi "bool" (mV 0)))))
def M_isInteger : Fn := fnM 1 1 .pure B_isInteger
theorem ok_isInteger (T : Txt K mg) : FnOk P w K mg base CX0 1 T.f_isInteger T.d_isInteger ["value"] (spD K 1 M_isInteger) := by
  have h := fn_D (P := P) (w := w) (mg := mg) (base := base) (k := 0) (m := .pure) (body := B_isInteger) T.F_isInteger sc_isInteger fun cdv A outer s H E hr => (ass_one (as_ret (ae_and (ae_isi T.n_isinstance T.n_int (av 0)) (ae_one (ae_not (ae_isi T.n_isinstance T.n_bool (av 0)))))))
  exact h
def B_isAhead : MS := (mRet (mBin fLtD (mRdT .index (mBin fIx (mC (.tup [(.tup [(.int 0), (.int 1), (.int 2)]), (.tup [(.int 0), (.int 2), (.int 1)]), (.tup [(.int 1), (.int 0), (.int 2)]), (.tup [(.int 1), (.int 2), (.int 0)]), (.tup [(.int 2), (.int 0), (.int 1)]), (.tup [(.int 2), (.int 1), (.int 0)])])) (mV 0)) (mCons (mV 1) mNil)) (mRdT .index (mBin fIx (mC (.tup [(.tup [(.int 0), (.int 1), (.int 2)]), (.tup [(.int 0), (.int 2), (.int 1)]), (.tup [(.int 1), (.int 0), (.int 2)]), (.tup [(.int 1), (.int 2), (.int 0)]), (.tup [(.int 2), (.int 0), (.int 1)]), (.tup [(.int 2), (.int 1), (.int 0)])])) (mV 0)) (mCons (mV 2) mNil))))
def M_isAhead : Fn := fnM 3 3 .pure B_isAhead
theorem ok_isAhead (T : Txt K mg) : FnOk P w K mg base CX0 1 T.f_isAhead T.d_isAhead ["p", "x", "y"] (spD K 3 M_isAhead) := by
  have h := fn_D (P := P) (w := w) (mg := mg) (base := base) (k := 0) (m := .pure) (body := B_isAhead) T.F_isAhead sc_isAhead fun cdv A outer s H E hr => (ass_one (as_ret (ae_lt hr (ae_indexT hr (ae_sub' (ae_gk rfl T.m_ORDERS T.k_ORDERS) (av 0)) (aa_cons (av 1) aa_nil)) (ae_indexT hr (ae_sub' (ae_gk rfl T.m_ORDERS T.k_ORDERS) (av 0)) (aa_cons (av 2) aa_nil)))))
  exact h
def B_rulesAlone : MS := (mRet (mCB fAll (mCons (mVal (mLC2 (mRg1 (mCons (mC (.int 6)) mNil)) (.nm 2) mYes (mRg1 (mCons (mC (.int 6)) mNil)) (.nm 3) mYes (mBin fEq (mBin fIx (mV 0) (mBin fAdd (mBin fMul (mC (.int 6)) (mV 2)) (mV 3))) (mBin fIx (mTup (mCons (mV 2) (mCons (mV 3) mNil))) (mV 1))) [2, 3] [3])) mNil)))
def M_rulesAlone : Fn := fnM 4 2 .pure B_rulesAlone
theorem ok_rulesAlone (T : Txt K mg) : FnOk P w K mg base CX0 1 T.f_rulesAlone T.d_rulesAlone ["table", "v"] (spD K 2 M_rulesAlone) := by
  have h := fn_D (P := P) (w := w) (mg := mg) (base := base) (k := 0) (m := .pure) (body := B_rulesAlone) T.F_rulesAlone sc_rulesAlone fun cdv A outer s H E hr => (ass_one (as_ret (ae_all rfl T.n_all (aa_cons (ae_val (af_lc2 [("p", 2), ("q", 3)] [3] rfl sc_rulesAlone.nd (ai_range1 T.n_range (aa_cons ae_int aa_nil)) (blkOk_by (by first | exact rfl | decide +kernel)) (fun _ _ _ _ _ => (ag_name 2 sc_rulesAlone.nd)) (fun _ _ _ _ _ => ats_nil) (fun _ _ _ _ _ => (ai_range1 T.n_range (aa_cons ae_int aa_nil))) (fun _ _ _ _ _ => (ag_name 3 sc_rulesAlone.nd)) (fun _ _ _ _ _ => ats_nil) (fun _ _ _ _ _ => (ae_eq hr (ae_sub' (av 0) (ae_add (ae_mul ae_int (av 2)) (av 3))) (ae_sub' (ae_tup (aa_cons (av 2) (aa_cons (av 3) aa_nil))) (av 1)))))) aa_nil))))
  exact h
def B_isAgainst : MS := (mRet (mAndV (mCall M_isAhead (mCons (mV 1) (mCons (mV 3) (mCons (mV 4) mNil)))) (mAndV (mCall M_isAhead (mCons (mV 2) (mCons (mV 3) (mCons (mV 4) mNil)))) (mNotV (mCall M_isAhead (mCons (mBin fIx (mV 0) (mBin fAdd (mBin fMul (mC (.int 6)) (mV 1)) (mV 2))) (mCons (mV 3) (mCons (mV 4) mNil))))))))
def M_isAgainst : Fn := fnM 5 5 .pure B_isAgainst
theorem ok_isAgainst (T : Txt K mg) : FnOk P w K mg base CX0 2 T.f_isAgainst T.d_isAgainst ["table", "p", "q", "x", "y"] (spD K 5 M_isAgainst) := by
  have h := fn_D (P := P) (w := w) (mg := mg) (base := base) (k := 1) (m := .pure) (body := B_isAgainst) T.F_isAgainst sc_isAgainst fun cdv A outer s H E hr => (ass_one (as_ret (ae_and (ae_call (ok_isAhead T) hr T.g_isAhead T.F_isAhead.kp T.b_isAhead (aa_cons (av 1) (aa_cons (av 3) (aa_cons (av 4) aa_nil))) (np_cons (np_cons (np_cons (fun _ _ _ _ h => np_nil h)))) (by omega)) (ae_and (ae_call (ok_isAhead T) hr T.g_isAhead T.F_isAhead.kp T.b_isAhead (aa_cons (av 2) (aa_cons (av 3) (aa_cons (av 4) aa_nil))) (np_cons (np_cons (np_cons (fun _ _ _ _ h => np_nil h)))) (by omega)) (ae_one (ae_not (ae_call (ok_isAhead T) hr T.g_isAhead T.F_isAhead.kp T.b_isAhead (aa_cons (ae_sub' (av 0) (ae_add (ae_mul ae_int (av 1)) (av 2))) (aa_cons (av 3) (aa_cons (av 4) aa_nil))) (np_cons (np_cons (np_cons (fun _ _ _ _ h => np_nil h)))) (by omega))))))))
  exact h
def B_hangsOnOthers : MS := (mSeq (mIfS (mOr (mTV (mBin fNe (mCall M_isAhead (mCons (mV 1) (mCons (mV 5) (mCons (mV 6) mNil)))) (mCall M_isAhead (mCons (mV 3) (mCons (mV 5) (mCons (mV 6) mNil)))))) (mTV (mBin fNe (mCall M_isAhead (mCons (mV 2) (mCons (mV 5) (mCons (mV 6) mNil)))) (mCall M_isAhead (mCons (mV 4) (mCons (mV 5) (mCons (mV 6) mNil))))))) (mRet (mC (.bl false))) mSkip)
    (mRet (mBin fNe (mCall M_isAhead (mCons (mBin fIx (mV 0) (mBin fAdd (mBin fMul (mC (.int 6)) (mV 1)) (mV 2))) (mCons (mV 5) (mCons (mV 6) mNil)))) (mCall M_isAhead (mCons (mBin fIx (mV 0) (mBin fAdd (mBin fMul (mC (.int 6)) (mV 3)) (mV 4))) (mCons (mV 5) (mCons (mV 6) mNil)))))))
def M_hangsOnOthers : Fn := fnM 7 7 .pure B_hangsOnOthers
theorem ok_hangsOnOthers (T : Txt K mg) : FnOk P w K mg base CX0 2 T.f_hangsOnOthers T.d_hangsOnOthers ["table", "p", "q", "r", "s", "x", "y"] (spD K 7 M_hangsOnOthers) := by
  have h := fn_D (P := P) (w := w) (mg := mg) (base := base) (k := 1) (m := .pure) (body := B_hangsOnOthers) T.F_hangsOnOthers sc_hangsOnOthers fun cdv A outer s H E hr => (ass_cons (as_if (PW.pt (aw_or (at_ne hr (ae_call (ok_isAhead T) hr T.g_isAhead T.F_isAhead.kp T.b_isAhead (aa_cons (av 1) (aa_cons (av 5) (aa_cons (av 6) aa_nil))) (np_cons (np_cons (np_cons (fun _ _ _ _ h => np_nil h)))) (by omega)) (ae_call (ok_isAhead T) hr T.g_isAhead T.F_isAhead.kp T.b_isAhead (aa_cons (av 3) (aa_cons (av 5) (aa_cons (av 6) aa_nil))) (np_cons (np_cons (np_cons (fun _ _ _ _ h => np_nil h)))) (by omega))) (aw_or1 (at_ne hr (ae_call (ok_isAhead T) hr T.g_isAhead T.F_isAhead.kp T.b_isAhead (aa_cons (av 2) (aa_cons (av 5) (aa_cons (av 6) aa_nil))) (np_cons (np_cons (np_cons (fun _ _ _ _ h => np_nil h)))) (by omega)) (ae_call (ok_isAhead T) hr T.g_isAhead T.F_isAhead.kp T.b_isAhead (aa_cons (av 4) (aa_cons (av 5) (aa_cons (av 6) aa_nil))) (np_cons (np_cons (np_cons (fun _ _ _ _ h => np_nil h)))) (by omega)))))) (ass_one (as_ret ae_bl)) ass_nil)
    (ass_one (as_ret (ae_ne hr (ae_call (ok_isAhead T) hr T.g_isAhead T.F_isAhead.kp T.b_isAhead (aa_cons (ae_sub' (av 0) (ae_add (ae_mul ae_int (av 1)) (av 2))) (aa_cons (av 5) (aa_cons (av 6) aa_nil))) (np_cons (np_cons (np_cons (fun _ _ _ _ h => np_nil h)))) (by omega)) (ae_call (ok_isAhead T) hr T.g_isAhead T.F_isAhead.kp T.b_isAhead (aa_cons (ae_sub' (av 0) (ae_add (ae_mul ae_int (av 3)) (av 4))) (aa_cons (av 5) (aa_cons (av 6) aa_nil))) (np_cons (np_cons (np_cons (fun _ _ _ _ h => np_nil h)))) (by omega))))))
  exact h
def B_arrowPaper : MS := (mSeq (mFor (mRg1 (mCons (mC (.int 2)) mNil)) (.nm 1) (mIfS (mTru (mCall M_rulesAlone (mCons (mV 0) (mCons (mV 1) mNil)))) (mRet (mTup (mCons (mC (.str "one rules")) (mCons (mV 1) mNil)))) mSkip))
    (mSeq (mAsg (mVal (mLC2 (mRg1 (mCons (mC (.int 6)) mNil)) (.nm 3) mYes (mRg1 (mCons (mC (.int 6)) mNil)) (.nm 4) mYes (mTup (mCons (mV 3) (mCons (mV 4) mNil))) [3, 4] [4])) (.nm 2))
    (mSeq (mFor (mIt (mV 2)) (.tp [3, 4]) (mFor (mIt (mC (.tup [(.tup [(.int 0), (.int 1)]), (.tup [(.int 0), (.int 2)]), (.tup [(.int 1), (.int 0)]), (.tup [(.int 1), (.int 2)]), (.tup [(.int 2), (.int 0)]), (.tup [(.int 2), (.int 1)])]))) (.tp [5, 6]) (mIfS (mTru (mCall M_isAgainst (mCons (mV 0) (mCons (mV 3) (mCons (mV 4) (mCons (mV 5) (mCons (mV 6) mNil))))))) (mRet (mTup (mCons (mC (.str "against both")) (mCons (mV 3) (mCons (mV 4) (mCons (mV 5) (mCons (mV 6) mNil))))))) mSkip)))
    (mSeq (mFor (mIt (mV 2)) (.tp [3, 4]) (mFor (mIt (mV 2)) (.tp [7, 8]) (mFor (mIt (mC (.tup [(.tup [(.int 0), (.int 1)]), (.tup [(.int 0), (.int 2)]), (.tup [(.int 1), (.int 0)]), (.tup [(.int 1), (.int 2)]), (.tup [(.int 2), (.int 0)]), (.tup [(.int 2), (.int 1)])]))) (.tp [5, 6]) (mIfS (mTru (mCall M_hangsOnOthers (mCons (mV 0) (mCons (mV 3) (mCons (mV 4) (mCons (mV 7) (mCons (mV 8) (mCons (mV 5) (mCons (mV 6) mNil))))))))) (mRet (mTup (mCons (mC (.str "not alone")) (mCons (mV 3) (mCons (mV 4) (mCons (mV 7) (mCons (mV 8) (mCons (mV 5) (mCons (mV 6) mNil))))))))) mSkip))))
    (mRet (mC .non))))))
def M_arrowPaper : Fn := fnM 9 1 .pure B_arrowPaper
theorem ok_arrowPaper (T : Txt K mg) : FnOk P w K mg base CX0 3 T.f_arrowPaper T.d_arrowPaper ["table"] (spD K 1 M_arrowPaper) := by
  have h := fn_D (P := P) (w := w) (mg := mg) (base := base) (k := 2) (m := .pure) (body := B_arrowPaper) T.F_arrowPaper sc_arrowPaper fun cdv A outer s H E hr => (ass_cons (as_for PassesOwn.never rfl (ai_range1 T.n_range (aa_cons ae_int aa_nil)) (ag_name 1 sc_arrowPaper.nd) (ass_one (as_if (at_truth (ae_call (ok_rulesAlone T) hr T.g_rulesAlone T.F_rulesAlone.kp T.b_rulesAlone (aa_cons (av 0) (aa_cons (av 1) aa_nil)) (np_cons (np_cons (fun _ _ _ _ h => np_nil h))) (by omega))) (ass_one (as_ret (ae_tup (aa_cons ae_str (aa_cons (av 1) aa_nil))))) ass_nil)))
    (ass_cons (as_setLc2 [("p", 3), ("q", 4)] [4] rfl sc_arrowPaper.nd (ai_range1 T.n_range (aa_cons ae_int aa_nil)) (blkOk_by (by first | exact rfl | decide +kernel)) (fun _ _ _ _ _ => (ag_name 3 sc_arrowPaper.nd)) (fun _ _ _ _ _ => ats_nil) (fun _ _ _ _ _ => (ai_range1 T.n_range (aa_cons ae_int aa_nil))) (fun _ _ _ _ _ => (ag_name 4 sc_arrowPaper.nd)) (fun _ _ _ _ _ => ats_nil) (fun _ _ _ _ _ => (ae_tup (aa_cons (av 3) (aa_cons (av 4) aa_nil)))) (sto := false))
    (ass_cons (as_for PassesOwn.never rfl (ai_any (av 2)) (ag_tup rfl (pgs_cons (ag_name 3 sc_arrowPaper.nd) (pgs_cons (ag_name 4 sc_arrowPaper.nd) agn_nil))) (ass_one (as_for PassesOwn.never rfl (ai_any (ae_gk rfl T.m_PAIRS T.k_PAIRS)) (ag_tup rfl (pgs_cons (ag_name 5 sc_arrowPaper.nd) (pgs_cons (ag_name 6 sc_arrowPaper.nd) agn_nil))) (ass_one (as_if (at_truth (ae_call (ok_isAgainst T) hr T.g_isAgainst T.F_isAgainst.kp T.b_isAgainst (aa_cons (av 0) (aa_cons (av 3) (aa_cons (av 4) (aa_cons (av 5) (aa_cons (av 6) aa_nil))))) (np_cons (np_cons (np_cons (np_cons (np_cons (fun _ _ _ _ h => np_nil h)))))) (by omega))) (ass_one (as_ret (ae_tup (aa_cons ae_str (aa_cons (av 3) (aa_cons (av 4) (aa_cons (av 5) (aa_cons (av 6) aa_nil)))))))) ass_nil)))))
    (ass_cons (as_for PassesOwn.never rfl (ai_any (av 2)) (ag_tup rfl (pgs_cons (ag_name 3 sc_arrowPaper.nd) (pgs_cons (ag_name 4 sc_arrowPaper.nd) agn_nil))) (ass_one (as_for PassesOwn.never rfl (ai_any (av 2)) (ag_tup rfl (pgs_cons (ag_name 7 sc_arrowPaper.nd) (pgs_cons (ag_name 8 sc_arrowPaper.nd) agn_nil))) (ass_one (as_for PassesOwn.never rfl (ai_any (ae_gk rfl T.m_PAIRS T.k_PAIRS)) (ag_tup rfl (pgs_cons (ag_name 5 sc_arrowPaper.nd) (pgs_cons (ag_name 6 sc_arrowPaper.nd) agn_nil))) (ass_one (as_if (at_truth (ae_call (ok_hangsOnOthers T) hr T.g_hangsOnOthers T.F_hangsOnOthers.kp T.b_hangsOnOthers (aa_cons (av 0) (aa_cons (av 3) (aa_cons (av 4) (aa_cons (av 7) (aa_cons (av 8) (aa_cons (av 5) (aa_cons (av 6) aa_nil))))))) (np_cons (np_cons (np_cons (np_cons (np_cons (np_cons (np_cons (fun _ _ _ _ h => np_nil h)))))))) (by omega))) (ass_one (as_ret (ae_tup (aa_cons ae_str (aa_cons (av 3) (aa_cons (av 4) (aa_cons (av 7) (aa_cons (av 8) (aa_cons (av 5) (aa_cons (av 6) aa_nil)))))))))) ass_nil)))))))
    (ass_one (as_ret ae_non))))))
  exact h
def B_areNumbers : MS := (mRet (mCB fAll (mCons (mVal (mLC (mIt (mV 0)) (.nm 2) mYes (mAndV (mCall M_isInteger (mCons (mV 2) mNil)) (mChain fLeD fLtD (mC (.int 0)) (mV 2) (mV 1))) [2])) mNil)))
def M_areNumbers : Fn := fnM 3 2 .pure B_areNumbers
theorem ok_areNumbers (T : Txt K mg) : FnOk P w K mg base CX0 2 T.f_areNumbers T.d_areNumbers ["row", "most"] (spD K 2 M_areNumbers) := by
  have h := fn_D (P := P) (w := w) (mg := mg) (base := base) (k := 1) (m := .pure) (body := B_areNumbers) T.F_areNumbers sc_areNumbers fun cdv A outer s H E hr => (ass_one (as_ret (ae_all rfl T.n_all (aa_cons (ae_val (af_lc [("one", 2)] rfl sc_areNumbers.nd (ai_any (av 0)) (blkOk_by (by first | exact rfl | decide +kernel)) (fun _ _ _ _ _ => (ag_name 2 sc_areNumbers.nd)) (fun _ _ _ _ _ => ats_nil) (fun _ _ _ _ _ => (ae_and (ae_call (ok_isInteger T) hr T.g_isInteger T.F_isInteger.kp T.b_isInteger (aa_cons (av 2) aa_nil) (np_cons (fun _ _ _ _ h => np_nil h)) (by omega)) (ae_one (ae_lelt hr ae_int (av 2) (av 1))))))) aa_nil))))
  exact h
def B_judgeArrow : MS := (mSeq (mIfS (mOr (mNot (mTru (mIsi "tuple" (mV 1)))) (mOr (mTV (mBin fNotIn (mCB fLen (mCons (mV 1) mNil)) (mTup (mCons (mC (.int 2)) (mCons (mC (.int 5)) (mCons (mC (.int 7)) mNil)))))) (mNot (mTru (mIsi "str" (mBin fIx (mV 1) (mC (.int 0)))))))) (mRet (mC (.bl false))) mSkip)
    (mSeq (mIfS (mTV (mBin fEq (mBin fIx (mV 1) (mC (.int 0))) (mC (.str "one rules")))) (mRet (mAndV (mBin fEq (mCB fLen (mCons (mV 1) mNil)) (mC (.int 2))) (mAndV (mCall M_areNumbers (mCons (mSl fSlT (mV 1) (mO1 (mC (.int 1))) mO0) (mCons (mC (.int 2)) mNil))) (mCall M_rulesAlone (mCons (mV 0) (mCons (mBin fIx (mV 1) (mC (.int 1))) mNil)))))) mSkip)
    (mSeq (mIfS (mOr (mTV (mBin fLtD (mCB fLen (mCons (mV 1) mNil)) (mC (.int 5)))) (mOr (mNot (mTru (mCall M_areNumbers (mCons (mSl fSlT (mV 1) (mO1 (mC (.int 1))) (mO1 (mUn fNeg (mC (.int 2))))) (mCons (mC (.int 6)) mNil))))) (mOr (mNot (mTru (mCall M_areNumbers (mCons (mSl fSlT (mV 1) (mO1 (mUn fNeg (mC (.int 2)))) mO0) (mCons (mC (.int 3)) mNil))))) (mTV (mBin fEq (mBin fIx (mV 1) (mUn fNeg (mC (.int 1)))) (mBin fIx (mV 1) (mUn fNeg (mC (.int 2))))))))) (mRet (mC (.bl false))) mSkip)
    (mSeq (mIfS (mTV (mBin fEq (mBin fIx (mV 1) (mC (.int 0))) (mC (.str "against both")))) (mRet (mAndV (mBin fEq (mCB fLen (mCons (mV 1) mNil)) (mC (.int 5))) (mCall M_isAgainst (mCons (mV 0) (mCons (mBin fIx (mV 1) (mC (.int 1))) (mCons (mBin fIx (mV 1) (mC (.int 2))) (mCons (mBin fIx (mV 1) (mC (.int 3))) (mCons (mBin fIx (mV 1) (mC (.int 4))) mNil)))))))) mSkip)
    (mSeq (mIfS (mOr (mTV (mBin fNe (mBin fIx (mV 1) (mC (.int 0))) (mC (.str "not alone")))) (mTV (mBin fNe (mCB fLen (mCons (mV 1) mNil)) (mC (.int 7))))) (mRet (mC (.bl false))) mSkip)
    (mSeq (mAsg (mSl fSlT (mV 1) (mO1 (mC (.int 1))) mO0) (.tp [2, 3, 4, 5, 6, 7]))
    (mRet (mCall M_hangsOnOthers (mCons (mV 0) (mCons (mV 2) (mCons (mV 3) (mCons (mV 4) (mCons (mV 5) (mCons (mV 6) (mCons (mV 7) mNil)))))))))))))))
def M_judgeArrow : Fn := fnM 8 2 .pure B_judgeArrow
theorem ok_judgeArrow (T : Txt K mg) : FnOk P w K mg base CX0 3 T.f_judgeArrow T.d_judgeArrow ["table", "value"] (spD K 2 M_judgeArrow) := by
  have h := fn_D (P := P) (w := w) (mg := mg) (base := base) (k := 2) (m := .pure) (body := B_judgeArrow) T.F_judgeArrow sc_judgeArrow fun cdv A outer s H E hr => (ass_cons (as_if (PW.pt (aw_or (at_not (at_truth (ae_isi T.n_isinstance T.n_tuple (av 1)))) (aw_or (at_nin hr (ae_len T.n_len (aa_cons (av 1) aa_nil)) (ae_tup (aa_cons ae_int (aa_cons ae_int (aa_cons ae_int aa_nil))))) (aw_or1 (at_not (at_truth (ae_isi T.n_isinstance T.n_str (ae_sub' (av 1) ae_int)))))))) (ass_one (as_ret ae_bl)) ass_nil)
    (ass_cons (as_if (at_eq hr (ae_sub' (av 1) ae_int) ae_str) (ass_one (as_ret (ae_and (ae_eq hr (ae_len T.n_len (aa_cons (av 1) aa_nil)) ae_int) (ae_and (ae_call (ok_areNumbers T) hr T.g_areNumbers T.F_areNumbers.kp T.b_areNumbers (aa_cons (ae_slT (av 1) (ao_some ae_int) ao_none) (aa_cons ae_int aa_nil)) (np_cons (np_cons (fun _ _ _ _ h => np_nil h))) (by omega)) (ae_one (ae_call (ok_rulesAlone T) hr T.g_rulesAlone T.F_rulesAlone.kp T.b_rulesAlone (aa_cons (av 0) (aa_cons (ae_sub' (av 1) ae_int) aa_nil)) (np_cons (np_cons (fun _ _ _ _ h => np_nil h))) (by omega))))))) ass_nil)
    (ass_cons (as_if (PW.pt (aw_or (at_lt hr (ae_len T.n_len (aa_cons (av 1) aa_nil)) ae_int) (aw_or (at_not (at_truth (ae_call (ok_areNumbers T) hr T.g_areNumbers T.F_areNumbers.kp T.b_areNumbers (aa_cons (ae_slT (av 1) (ao_some ae_int) (ao_some (ae_neg ae_int))) (aa_cons ae_int aa_nil)) (np_cons (np_cons (fun _ _ _ _ h => np_nil h))) (by omega)))) (aw_or (at_not (at_truth (ae_call (ok_areNumbers T) hr T.g_areNumbers T.F_areNumbers.kp T.b_areNumbers (aa_cons (ae_slT (av 1) (ao_some (ae_neg ae_int)) ao_none) (aa_cons ae_int aa_nil)) (np_cons (np_cons (fun _ _ _ _ h => np_nil h))) (by omega)))) (aw_or1 (at_eq hr (ae_sub' (av 1) (ae_neg ae_int)) (ae_sub' (av 1) (ae_neg ae_int)))))))) (ass_one (as_ret ae_bl)) ass_nil)
    (ass_cons (as_if (at_eq hr (ae_sub' (av 1) ae_int) ae_str) (ass_one (as_ret (ae_and (ae_eq hr (ae_len T.n_len (aa_cons (av 1) aa_nil)) ae_int) (ae_one (ae_call (ok_isAgainst T) hr T.g_isAgainst T.F_isAgainst.kp T.b_isAgainst (aa_cons (av 0) (aa_cons (ae_sub' (av 1) ae_int) (aa_cons (ae_sub' (av 1) ae_int) (aa_cons (ae_sub' (av 1) ae_int) (aa_cons (ae_sub' (av 1) ae_int) aa_nil))))) (np_cons (np_cons (np_cons (np_cons (np_cons (fun _ _ _ _ h => np_nil h)))))) (by omega)))))) ass_nil)
    (ass_cons (as_if (PW.pt (aw_or (at_ne hr (ae_sub' (av 1) ae_int) ae_str) (aw_or1 (at_ne hr (ae_len T.n_len (aa_cons (av 1) aa_nil)) ae_int)))) (ass_one (as_ret ae_bl)) ass_nil)
    (ass_cons (as_asg (ae_slT (av 1) (ao_some ae_int) ao_none) (ag_tup rfl (pgs_cons (ag_name 2 sc_judgeArrow.nd) (pgs_cons (ag_name 3 sc_judgeArrow.nd) (pgs_cons (ag_name 4 sc_judgeArrow.nd) (pgs_cons (ag_name 5 sc_judgeArrow.nd) (pgs_cons (ag_name 6 sc_judgeArrow.nd) (pgs_cons (ag_name 7 sc_judgeArrow.nd) agn_nil))))))))
    (ass_one (as_ret (ae_call (ok_hangsOnOthers T) hr T.g_hangsOnOthers T.F_hangsOnOthers.kp T.b_hangsOnOthers (aa_cons (av 0) (aa_cons (av 2) (aa_cons (av 3) (aa_cons (av 4) (aa_cons (av 5) (aa_cons (av 6) (aa_cons (av 7) aa_nil))))))) (np_cons (np_cons (np_cons (np_cons (np_cons (np_cons (np_cons (fun _ _ _ _ h => np_nil h)))))))) (by omega))))))))))
  exact h
def B_choosesAlone : MS := (mRet (mCB fAll (mCons (mVal (mLC2 (mRg1 (mCons (mC (.int 6)) mNil)) (.nm 2) mYes (mRg1 (mCons (mC (.int 6)) mNil)) (.nm 3) mYes (mBin fEq (mBin fIx (mV 0) (mBin fAdd (mBin fMul (mC (.int 6)) (mV 2)) (mV 3))) (mBin fIx (mBin fIx (mC (.tup [(.tup [(.int 0), (.int 1), (.int 2)]), (.tup [(.int 0), (.int 2), (.int 1)]), (.tup [(.int 1), (.int 0), (.int 2)]), (.tup [(.int 1), (.int 2), (.int 0)]), (.tup [(.int 2), (.int 0), (.int 1)]), (.tup [(.int 2), (.int 1), (.int 0)])])) (mBin fIx (mTup (mCons (mV 2) (mCons (mV 3) mNil))) (mV 1))) (mC (.int 0)))) [2, 3] [3])) mNil)))
def M_choosesAlone : Fn := fnM 4 2 .pure B_choosesAlone
theorem ok_choosesAlone (T : Txt K mg) : FnOk P w K mg base CX0 1 T.f_choosesAlone T.d_choosesAlone ["table", "v"] (spD K 2 M_choosesAlone) := by
  have h := fn_D (P := P) (w := w) (mg := mg) (base := base) (k := 0) (m := .pure) (body := B_choosesAlone) T.F_choosesAlone sc_choosesAlone fun cdv A outer s H E hr => (ass_one (as_ret (ae_all rfl T.n_all (aa_cons (ae_val (af_lc2 [("p", 2), ("q", 3)] [3] rfl sc_choosesAlone.nd (ai_range1 T.n_range (aa_cons ae_int aa_nil)) (blkOk_by (by first | exact rfl | decide +kernel)) (fun _ _ _ _ _ => (ag_name 2 sc_choosesAlone.nd)) (fun _ _ _ _ _ => ats_nil) (fun _ _ _ _ _ => (ai_range1 T.n_range (aa_cons ae_int aa_nil))) (fun _ _ _ _ _ => (ag_name 3 sc_choosesAlone.nd)) (fun _ _ _ _ _ => ats_nil) (fun _ _ _ _ _ => (ae_eq hr (ae_sub' (av 0) (ae_add (ae_mul ae_int (av 2)) (av 3))) (ae_sub' (ae_sub' (ae_gk rfl T.m_ORDERS T.k_ORDERS) (ae_sub' (ae_tup (aa_cons (av 2) (aa_cons (av 3) aa_nil))) (av 1))) ae_int))))) aa_nil))))
  exact h
def B_doesGain : MS := (mSeq (mAsg (mBin fIx (mTup (mCons (mV 2) (mCons (mV 3) mNil))) (mV 1)) (.nm 5))
    (mSeq (mAsg (mBin fIx (mV 0) (mBin fAdd (mBin fMul (mC (.int 6)) (mV 2)) (mV 3))) (.nm 6))
    (mSeq (mAsg (mIf (mTV (mBin fEq (mV 1) (mC (.int 0)))) (mBin fIx (mV 0) (mBin fAdd (mBin fMul (mC (.int 6)) (mV 4)) (mV 3))) (mBin fIx (mV 0) (mBin fAdd (mBin fMul (mC (.int 6)) (mV 2)) (mV 4)))) (.nm 7))
    (mRet (mAndV (mBin fNe (mV 6) (mV 7)) (mCall M_isAhead (mCons (mV 5) (mCons (mV 7) (mCons (mV 6) mNil)))))))))
def M_doesGain : Fn := fnM 8 5 .pure B_doesGain
theorem ok_doesGain (T : Txt K mg) : FnOk P w K mg base CX0 2 T.f_doesGain T.d_doesGain ["table", "v", "p", "q", "r"] (spD K 5 M_doesGain) := by
  have h := fn_D (P := P) (w := w) (mg := mg) (base := base) (k := 1) (m := .pure) (body := B_doesGain) T.F_doesGain sc_doesGain fun cdv A outer s H E hr => (ass_cons (as_set sc_doesGain.nd (ae_sub' (ae_tup (aa_cons (av 2) (aa_cons (av 3) aa_nil))) (av 1)))
    (ass_cons (as_set sc_doesGain.nd (ae_sub' (av 0) (ae_add (ae_mul ae_int (av 2)) (av 3))))
    (ass_cons (as_set sc_doesGain.nd (ae_if (at_eq hr (av 1) ae_int) (ae_sub' (av 0) (ae_add (ae_mul ae_int (av 4)) (av 3))) (ae_sub' (av 0) (ae_add (ae_mul ae_int (av 2)) (av 4)))))
    (ass_one (as_ret (ae_and (ae_ne hr (av 6) (av 7)) (ae_one (ae_call (ok_isAhead T) hr T.g_isAhead T.F_isAhead.kp T.b_isAhead (aa_cons (av 5) (aa_cons (av 7) (aa_cons (av 6) aa_nil))) (np_cons (np_cons (np_cons (fun _ _ _ _ h => np_nil h)))) (by omega)))))))))
  exact h
def B_choicePaper : MS := (mSeq (mFor (mRg1 (mCons (mC (.int 2)) mNil)) (.nm 1) (mIfS (mTru (mCall M_choosesAlone (mCons (mV 0) (mCons (mV 1) mNil)))) (mRet (mTup (mCons (mC (.str "one chooses")) (mCons (mV 1) mNil)))) mSkip))
    (mSeq (mFor (mRg1 (mCons (mC (.int 3)) mNil)) (.nm 2) (mIfS (mTV (mBin fNotIn (mV 2) (mV 0))) (mRet (mTup (mCons (mC (.str "never")) (mCons (mV 2) mNil)))) mSkip))
    (mSeq (mFor (mRg1 (mCons (mC (.int 2)) mNil)) (.nm 1) (mFor (mRg1 (mCons (mC (.int 6)) mNil)) (.nm 3) (mFor (mRg1 (mCons (mC (.int 6)) mNil)) (.nm 4) (mFor (mRg1 (mCons (mC (.int 6)) mNil)) (.nm 5) (mIfS (mTru (mCall M_doesGain (mCons (mV 0) (mCons (mV 1) (mCons (mV 3) (mCons (mV 4) (mCons (mV 5) mNil))))))) (mRet (mTup (mCons (mC (.str "gains")) (mCons (mV 1) (mCons (mV 3) (mCons (mV 4) (mCons (mV 5) mNil))))))) mSkip)))))
    (mRet (mC .non)))))
def M_choicePaper : Fn := fnM 6 1 .pure B_choicePaper
theorem ok_choicePaper (T : Txt K mg) : FnOk P w K mg base CX0 3 T.f_choicePaper T.d_choicePaper ["table"] (spD K 1 M_choicePaper) := by
  have h := fn_D (P := P) (w := w) (mg := mg) (base := base) (k := 2) (m := .pure) (body := B_choicePaper) T.F_choicePaper sc_choicePaper fun cdv A outer s H E hr => (ass_cons (as_for PassesOwn.never rfl (ai_range1 T.n_range (aa_cons ae_int aa_nil)) (ag_name 1 sc_choicePaper.nd) (ass_one (as_if (at_truth (ae_call (ok_choosesAlone T) hr T.g_choosesAlone T.F_choosesAlone.kp T.b_choosesAlone (aa_cons (av 0) (aa_cons (av 1) aa_nil)) (np_cons (np_cons (fun _ _ _ _ h => np_nil h))) (by omega))) (ass_one (as_ret (ae_tup (aa_cons ae_str (aa_cons (av 1) aa_nil))))) ass_nil)))
    (ass_cons (as_for PassesOwn.never rfl (ai_range1 T.n_range (aa_cons ae_int aa_nil)) (ag_name 2 sc_choicePaper.nd) (ass_one (as_if (at_nin hr (av 2) (av 0)) (ass_one (as_ret (ae_tup (aa_cons ae_str (aa_cons (av 2) aa_nil))))) ass_nil)))
    (ass_cons (as_for PassesOwn.never rfl (ai_range1 T.n_range (aa_cons ae_int aa_nil)) (ag_name 1 sc_choicePaper.nd) (ass_one (as_for PassesOwn.never rfl (ai_range1 T.n_range (aa_cons ae_int aa_nil)) (ag_name 3 sc_choicePaper.nd) (ass_one (as_for PassesOwn.never rfl (ai_range1 T.n_range (aa_cons ae_int aa_nil)) (ag_name 4 sc_choicePaper.nd) (ass_one (as_for PassesOwn.never rfl (ai_range1 T.n_range (aa_cons ae_int aa_nil)) (ag_name 5 sc_choicePaper.nd) (ass_one (as_if (at_truth (ae_call (ok_doesGain T) hr T.g_doesGain T.F_doesGain.kp T.b_doesGain (aa_cons (av 0) (aa_cons (av 1) (aa_cons (av 3) (aa_cons (av 4) (aa_cons (av 5) aa_nil))))) (np_cons (np_cons (np_cons (np_cons (np_cons (fun _ _ _ _ h => np_nil h)))))) (by omega))) (ass_one (as_ret (ae_tup (aa_cons ae_str (aa_cons (av 1) (aa_cons (av 3) (aa_cons (av 4) (aa_cons (av 5) aa_nil)))))))) ass_nil)))))))))
    (ass_one (as_ret ae_non)))))
  exact h
def B_judgeChoice : MS := (mSeq (mIfS (mOr (mNot (mTru (mIsi "tuple" (mV 1)))) (mOr (mTV (mBin fNotIn (mCB fLen (mCons (mV 1) mNil)) (mTup (mCons (mC (.int 2)) (mCons (mC (.int 5)) mNil))))) (mNot (mTru (mIsi "str" (mBin fIx (mV 1) (mC (.int 0)))))))) (mRet (mC (.bl false))) mSkip)
    (mSeq (mIfS (mTV (mBin fEq (mBin fIx (mV 1) (mC (.int 0))) (mC (.str "one chooses")))) (mRet (mAndV (mBin fEq (mCB fLen (mCons (mV 1) mNil)) (mC (.int 2))) (mAndV (mCall M_areNumbers (mCons (mSl fSlT (mV 1) (mO1 (mC (.int 1))) mO0) (mCons (mC (.int 2)) mNil))) (mCall M_choosesAlone (mCons (mV 0) (mCons (mBin fIx (mV 1) (mC (.int 1))) mNil)))))) mSkip)
    (mSeq (mIfS (mTV (mBin fEq (mBin fIx (mV 1) (mC (.int 0))) (mC (.str "never")))) (mRet (mAndV (mBin fEq (mCB fLen (mCons (mV 1) mNil)) (mC (.int 2))) (mAndV (mCall M_areNumbers (mCons (mSl fSlT (mV 1) (mO1 (mC (.int 1))) mO0) (mCons (mC (.int 3)) mNil))) (mBin fNotIn (mBin fIx (mV 1) (mC (.int 1))) (mV 0))))) mSkip)
    (mSeq (mIfS (mOr (mTV (mBin fNe (mBin fIx (mV 1) (mC (.int 0))) (mC (.str "gains")))) (mOr (mTV (mBin fNe (mCB fLen (mCons (mV 1) mNil)) (mC (.int 5)))) (mOr (mNot (mTru (mCall M_areNumbers (mCons (mSl fSlT (mV 1) (mO1 (mC (.int 1))) (mO1 (mC (.int 2)))) (mCons (mC (.int 2)) mNil))))) (mNot (mTru (mCall M_areNumbers (mCons (mSl fSlT (mV 1) (mO1 (mC (.int 2))) mO0) (mCons (mC (.int 6)) mNil)))))))) (mRet (mC (.bl false))) mSkip)
    (mRet (mCall M_doesGain (mCons (mV 0) (mCons (mBin fIx (mV 1) (mC (.int 1))) (mCons (mBin fIx (mV 1) (mC (.int 2))) (mCons (mBin fIx (mV 1) (mC (.int 3))) (mCons (mBin fIx (mV 1) (mC (.int 4))) mNil)))))))))))
def M_judgeChoice : Fn := fnM 2 2 .pure B_judgeChoice
theorem ok_judgeChoice (T : Txt K mg) : FnOk P w K mg base CX0 3 T.f_judgeChoice T.d_judgeChoice ["table", "value"] (spD K 2 M_judgeChoice) := by
  have h := fn_D (P := P) (w := w) (mg := mg) (base := base) (k := 2) (m := .pure) (body := B_judgeChoice) T.F_judgeChoice sc_judgeChoice fun cdv A outer s H E hr => (ass_cons (as_if (PW.pt (aw_or (at_not (at_truth (ae_isi T.n_isinstance T.n_tuple (av 1)))) (aw_or (at_nin hr (ae_len T.n_len (aa_cons (av 1) aa_nil)) (ae_tup (aa_cons ae_int (aa_cons ae_int aa_nil)))) (aw_or1 (at_not (at_truth (ae_isi T.n_isinstance T.n_str (ae_sub' (av 1) ae_int)))))))) (ass_one (as_ret ae_bl)) ass_nil)
    (ass_cons (as_if (at_eq hr (ae_sub' (av 1) ae_int) ae_str) (ass_one (as_ret (ae_and (ae_eq hr (ae_len T.n_len (aa_cons (av 1) aa_nil)) ae_int) (ae_and (ae_call (ok_areNumbers T) hr T.g_areNumbers T.F_areNumbers.kp T.b_areNumbers (aa_cons (ae_slT (av 1) (ao_some ae_int) ao_none) (aa_cons ae_int aa_nil)) (np_cons (np_cons (fun _ _ _ _ h => np_nil h))) (by omega)) (ae_one (ae_call (ok_choosesAlone T) hr T.g_choosesAlone T.F_choosesAlone.kp T.b_choosesAlone (aa_cons (av 0) (aa_cons (ae_sub' (av 1) ae_int) aa_nil)) (np_cons (np_cons (fun _ _ _ _ h => np_nil h))) (by omega))))))) ass_nil)
    (ass_cons (as_if (at_eq hr (ae_sub' (av 1) ae_int) ae_str) (ass_one (as_ret (ae_and (ae_eq hr (ae_len T.n_len (aa_cons (av 1) aa_nil)) ae_int) (ae_and (ae_call (ok_areNumbers T) hr T.g_areNumbers T.F_areNumbers.kp T.b_areNumbers (aa_cons (ae_slT (av 1) (ao_some ae_int) ao_none) (aa_cons ae_int aa_nil)) (np_cons (np_cons (fun _ _ _ _ h => np_nil h))) (by omega)) (ae_one (ae_nin hr (ae_sub' (av 1) ae_int) (av 0))))))) ass_nil)
    (ass_cons (as_if (PW.pt (aw_or (at_ne hr (ae_sub' (av 1) ae_int) ae_str) (aw_or (at_ne hr (ae_len T.n_len (aa_cons (av 1) aa_nil)) ae_int) (aw_or (at_not (at_truth (ae_call (ok_areNumbers T) hr T.g_areNumbers T.F_areNumbers.kp T.b_areNumbers (aa_cons (ae_slT (av 1) (ao_some ae_int) (ao_some ae_int)) (aa_cons ae_int aa_nil)) (np_cons (np_cons (fun _ _ _ _ h => np_nil h))) (by omega)))) (aw_or1 (at_not (at_truth (ae_call (ok_areNumbers T) hr T.g_areNumbers T.F_areNumbers.kp T.b_areNumbers (aa_cons (ae_slT (av 1) (ao_some ae_int) ao_none) (aa_cons ae_int aa_nil)) (np_cons (np_cons (fun _ _ _ _ h => np_nil h))) (by omega))))))))) (ass_one (as_ret ae_bl)) ass_nil)
    (ass_one (as_ret (ae_call (ok_doesGain T) hr T.g_doesGain T.F_doesGain.kp T.b_doesGain (aa_cons (av 0) (aa_cons (ae_sub' (av 1) ae_int) (aa_cons (ae_sub' (av 1) ae_int) (aa_cons (ae_sub' (av 1) ae_int) (aa_cons (ae_sub' (av 1) ae_int) aa_nil))))) (np_cons (np_cons (np_cons (np_cons (np_cons (fun _ _ _ _ h => np_nil h)))))) (by omega))))))))
  exact h
def B_LStart : MS := (mRet (mSto (mLst (mCons (mVal (mLC (mIt (mVal (mSlL (mV 0) mO0 (mO1 (mC (.int 63)))))) (.nm 1) mYes (mCB fInt (mCons (mV 1) mNil)) [1])) (mCons (mC (.int 0)) (mCons (mC (.int 0)) (mCons (mC (.int 0)) (mCons (mC (.int 20)) mNil))))))))
def M_LStart : Fn := fnM 2 1 .keep B_LStart
theorem ok_LStart (T : Txt K mg) : FnOk P w K mg base CX0 1 T.f_LStart T.d_LStart ["script"] (spD K 1 M_LStart) := by
  have h := fn_D (P := P) (w := w) (mg := mg) (base := base) (k := 0) (m := .keep) (body := B_LStart) T.F_LStart sc_LStart fun cdv A outer s H E hr => (ass_one (as_ret (ae_sto (af_lst (aa_cons (ae_val (af_lc [("cell", 1)] rfl sc_LStart.nd (ai_any (ae_val (af_slL (av 0) ao_none (ao_some ae_int)))) (blkOk_by (by first | exact rfl | decide +kernel)) (fun _ _ _ _ _ => (ag_name 1 sc_LStart.nd)) (fun _ _ _ _ _ => ats_nil) (fun _ _ _ _ _ => (ae_intC T.n_int (aa_cons (av 1) aa_nil))))) (aa_cons ae_int (aa_cons ae_int (aa_cons ae_int (aa_cons ae_int aa_nil)))))))))
  exact h
def B_LFill : MS := (mSeq (mSetIx (mBin fAdd (mBin fIx (mV 0) (mC (.int 3))) (mC (.int 1))) (mV 0) (mC (.int 3)))
    (mSeq (mAsg (mBin fAdd (mBin fMul (mBin fIx (mV 0) (mC (.int 3))) (mC (.int 69621))) (mC (.int 12345))) (.nm 1))
    (mSeq (mIfS (mTV (mBin fLtD (mBin fIx (mV 0) (mC (.int 1))) (mCB fLen (mCons (mBin fIx (mV 0) (mC (.int 0))) mNil)))) (mSeq (mAsg (mBin fIx (mBin fIx (mV 0) (mC (.int 0))) (mBin fIx (mV 0) (mC (.int 1)))) (.nm 1))
    (mSeq (mSetIx (mBin fAdd (mBin fIx (mV 0) (mC (.int 1))) (mC (.int 1))) (mV 0) (mC (.int 1)))
    (mSeq (mIfS (mTV (mBin fLtD (mV 1) (mC (.int 0)))) (mAsg (mBin fSub (mBin fSub (mC (.int 0)) (mC (.int 1))) (mV 1)) (.nm 1)) mSkip)
    (mIfS (mTV (mBin fGeD (mV 1) (mBin fPow (mC (.int 10)) (mC (.int 18))))) (mRet (mV 1)) mSkip)))) mSkip)
    (mSeq (mIfS (mAnd (mTru (mBin fIx (mV 0) (mC (.int 0)))) (mTV (mBin fGeD (mBin fIx (mV 0) (mC (.int 1))) (mCB fLen (mCons (mBin fIx (mV 0) (mC (.int 0))) mNil))))) (mAsg (mBin fAdd (mV 1) (mBin fMod (mCB fInt (mCons (mBin fIx (mBin fIx (mV 0) (mC (.int 0))) (mUn fNeg (mC (.int 1)))) mNil)) (mC (.int 1000003)))) (.nm 1)) mSkip)
    (mSeq (mAsg (mBin fMod (mCB fInt (mCons (mBin fAdd (mBin fMul (mV 1) (mC (.int 48271))) (mBin fMul (mBin fIx (mV 0) (mC (.int 3))) (mC (.int 69621)))) mNil)) (mC (.int 2147483647))) (.nm 1))
    (mRet (mBin fAdd (mBin fDiv (mCB fInt (mCons (mBin fAdd (mBin fAdd (mBin fMul (mV 1) (mV 1)) (mBin fMul (mBin fIx (mV 0) (mC (.int 3))) (mC (.int 7919)))) (mC (.int 11))) mNil)) (mC (.int 64))) (mC (.int 36028797018963968)))))))))
def M_LFill : Fn := fnM 2 1 .keep B_LFill
theorem ok_LFill (T : Txt K mg) : FnOk P w K mg base CX0 1 T.f_LFill T.d_LFill ["c"] (spD K 1 M_LFill) := by
  have h := fn_D (P := P) (w := w) (mg := mg) (base := base) (k := 0) (m := .keep) (body := B_LFill) T.F_LFill sc_LFill fun cdv A outer s H E hr => (ass_cons (as_setIx (ae_add (ae_sub' (av 0) ae_int) ae_int) (av 0) ae_int)
    (ass_cons (as_set sc_LFill.nd (ae_add (ae_mul (ae_sub' (av 0) ae_int) ae_int) ae_int))
    (ass_cons (as_if (at_lt hr (ae_sub' (av 0) ae_int) (ae_len T.n_len (aa_cons (ae_sub' (av 0) ae_int) aa_nil))) (ass_cons (as_set sc_LFill.nd (ae_sub' (ae_sub' (av 0) ae_int) (ae_sub' (av 0) ae_int)))
    (ass_cons (as_setIx (ae_add (ae_sub' (av 0) ae_int) ae_int) (av 0) ae_int)
    (ass_cons (as_if (at_lt hr (av 1) ae_int) (ass_one (as_set sc_LFill.nd (ae_sub (ae_sub ae_int ae_int) (av 1)))) ass_nil)
    (ass_one (as_if (at_ge hr (av 1) (ae_pow ae_int ae_int)) (ass_one (as_ret (av 1))) ass_nil))))) ass_nil)
    (ass_cons (as_if (PW.pt (aw_and (at_truth (ae_sub' (av 0) ae_int)) (aw_and1 (at_ge hr (ae_sub' (av 0) ae_int) (ae_len T.n_len (aa_cons (ae_sub' (av 0) ae_int) aa_nil)))))) (ass_one (as_set sc_LFill.nd (ae_add (av 1) (ae_mod (ae_intC T.n_int (aa_cons (ae_sub' (ae_sub' (av 0) ae_int) (ae_neg ae_int)) aa_nil)) ae_int)))) ass_nil)
    (ass_cons (as_set sc_LFill.nd (ae_mod (ae_intC T.n_int (aa_cons (ae_add (ae_mul (av 1) ae_int) (ae_mul (ae_sub' (av 0) ae_int) ae_int)) aa_nil)) ae_int))
    (ass_one (as_ret (ae_add (ae_div (ae_intC T.n_int (aa_cons (ae_add (ae_add (ae_mul (av 1) (av 1)) (ae_mul (ae_sub' (av 0) ae_int) ae_int)) ae_int) aa_nil)) ae_int) ae_int))))))))
  exact h
def B_LTake : MS := (mSeq (mIfS (mTV (mBin fLtD (mBin fIx (mV 0) (mC (.int 2))) (mV 1))) (mSetIx (mCall M_LFill (mCons (mV 0) mNil)) (mV 0) (mC (.int 2))) mSkip)
    (mSeq (mAsg (mBin fMod (mCB fInt (mCons (mBin fIx (mV 0) (mC (.int 2))) mNil)) (mV 1)) (.nm 2))
    (mSeq (mSetIx (mBin fDiv (mBin fIx (mV 0) (mC (.int 2))) (mV 1)) (mV 0) (mC (.int 2)))
    (mRet (mV 2)))))
def M_LTake : Fn := fnM 3 2 .keep B_LTake
theorem ok_LTake (T : Txt K mg) : FnOk P w K mg base CX0 2 T.f_LTake T.d_LTake ["c", "many"] (spD K 2 M_LTake) := by
  have h := fn_D (P := P) (w := w) (mg := mg) (base := base) (k := 1) (m := .keep) (body := B_LTake) T.F_LTake sc_LTake fun cdv A outer s H E hr => (ass_cons (as_if (at_lt hr (ae_sub' (av 0) ae_int) (av 1)) (ass_one (as_setIx (ae_call (ok_LFill T) hr T.g_LFill T.F_LFill.kp T.b_LFill (aa_cons (av 0) aa_nil) (np_cons (fun _ _ _ _ h => np_nil h)) (by omega)) (av 0) ae_int)) ass_nil)
    (ass_cons (as_set sc_LTake.nd (ae_mod (ae_intC T.n_int (aa_cons (ae_sub' (av 0) ae_int) aa_nil)) (av 1)))
    (ass_cons (as_setIx (ae_div (ae_sub' (av 0) ae_int) (av 1)) (av 0) ae_int)
    (ass_one (as_ret (av 2))))))
  exact h
def B_LIsInt : MS := (mRet (mAndV (mIsi "int" (mV 0)) (mNotV (mIsi "bool" (mV 0)))))
def M_LIsInt : Fn := fnM 1 1 .pure B_LIsInt
theorem ok_LIsInt (T : Txt K mg) : FnOk P w K mg base CX0 1 T.f_LIsInt T.d_LIsInt ["value"] (spD K 1 M_LIsInt) := by
  have h := fn_D (P := P) (w := w) (mg := mg) (base := base) (k := 0) (m := .pure) (body := B_LIsInt) T.F_LIsInt sc_LIsInt fun cdv A outer s H E hr => (ass_one (as_ret (ae_and (ae_isi T.n_isinstance T.n_int (av 0)) (ae_one (ae_not (ae_isi T.n_isinstance T.n_bool (av 0)))))))
  exact h
def B_LSpoilt (r : Fn) : MS := (mSeq (mIfS (mTru (mIsi "str" (mV 1))) (mRet (mBin fIx (mVal (mLst (mCons (mC (.str "")) (mCons (mC (.str "winner")) (mCons (mC (.str "none")) (mCons (mC (.str "widest")) (mCons (mC (.str "no way")) (mCons (mC (.str "line")) (mCons (mC (.str "worst")) (mCons (mC (.str "crossed")) (mCons (mC (.str "core")) (mCons (mC (.str "no core")) (mCons (mC (.str "tree")) mNil))))))))))))) (mCall M_LTake (mCons (mV 0) (mCons (mC (.int 11)) mNil))))) mSkip)
    (mSeq (mIfS (mNot (mTru (mIsi "tuple" (mV 1)))) (mRet (mBin fIx (mVal (mLst (mCons (mC (.int 0)) (mCons (mC (.int 1)) (mCons (mC (.int 2)) (mCons (mUn fNeg (mC (.int 1))) (mCons (mC (.bl true)) (mCons (mC .non) (mCons (mC (.int 3)) mNil))))))))) (mCall M_LTake (mCons (mV 0) (mCons (mC (.int 7)) mNil))))) mSkip)
    (mSeq (mIfS (mOr (mNot (mTru (mV 1))) (mTV (mBin fEq (mCall M_LTake (mCons (mV 0) (mCons (mC (.int 5)) mNil))) (mC (.int 0))))) (mRet (mBin fIx (mVal (mLst (mCons (mSl fSlT (mV 1) (mO1 (mC (.int 1))) mO0) (mCons (mSl fSlT (mV 1) mO0 (mO1 (mUn fNeg (mC (.int 1))))) (mCons (mBin fAdd (mV 1) (mSl fSlT (mV 1) (mO1 (mUn fNeg (mC (.int 1)))) mO0)) (mCons (mRevT (mV 1)) (mCons (mVal (mListOf (mV 1))) (mCons (mBin fAdd (mV 1) (mTup (mCons (mC (.int 0)) mNil))) (mCons (mTup mNil) (mCons (mTup (mCons (mC (.int 1)) (mCons (mC (.int 0)) mNil))) mNil)))))))))) (mCall M_LTake (mCons (mV 0) (mCons (mC (.int 8)) mNil))))) mSkip)
    (mSeq (mAsg (mCall M_LTake (mCons (mV 0) (mCons (mCB fLen (mCons (mV 1) mNil)) mNil))) (.nm 2))
    (mRet (mBin fAdd (mBin fAdd (mSl fSlT (mV 1) mO0 (mO1 (mV 2))) (mTup (mCons (mCall r (mCons (mV 0) (mCons (mBin fIx (mV 1) (mV 2)) mNil))) mNil))) (mSl fSlT (mV 1) (mO1 (mBin fAdd (mV 2) (mC (.int 1)))) mO0)))))))
def MR_LSpoilt : Nat → Fn
  | 0 => fun _ _ => none
  | n + 1 => fnM 3 2 .keep (B_LSpoilt (MR_LSpoilt n))
abbrev M_LSpoilt : Fn := MR_LSpoilt 16
theorem okr_LSpoilt (T : Txt K mg) : ∀ n : Nat, FnOk P w K mg base CX0 (n + 3) T.f_LSpoilt T.d_LSpoilt ["c", "value"] (spD K 2 (MR_LSpoilt n))
  | 0 => ⟨fun _ _ _ _ h => h.1, fun _ _ _ _ _ _ _ _ _ _ _ _ _ h => by obtain ⟨_, _, _, _, _, _, _, _, hm, _⟩ := h; cases hm⟩
  | n + 1 => by
    have R := okr_LSpoilt T n
    have e : n + 1 + 3 = (n + 3) + 1 := by omega
    rw [e]
    have h := fn_D (P := P) (w := w) (mg := mg) (base := base) (k := n + 3) (m := .keep) (body := B_LSpoilt (MR_LSpoilt n)) T.F_LSpoilt sc_LSpoilt fun cdv A outer s H E hr => (ass_cons (as_if (at_truth (ae_isi T.n_isinstance T.n_str (av 1))) (ass_one (as_ret (ae_sub' (ae_val (af_lst (aa_cons ae_str (aa_cons ae_str (aa_cons ae_str (aa_cons ae_str (aa_cons ae_str (aa_cons ae_str (aa_cons ae_str (aa_cons ae_str (aa_cons ae_str (aa_cons ae_str (aa_cons ae_str aa_nil))))))))))))) (ae_call (ok_LTake T) hr T.g_LTake T.F_LTake.kp T.b_LTake (aa_cons (av 0) (aa_cons ae_int aa_nil)) (np_cons (np_cons (fun _ _ _ _ h => np_nil h))) (by omega))))) ass_nil)
    (ass_cons (as_if (at_not (at_truth (ae_isi T.n_isinstance T.n_tuple (av 1)))) (ass_one (as_ret (ae_sub' (ae_val (af_lst (aa_cons ae_int (aa_cons ae_int (aa_cons ae_int (aa_cons (ae_neg ae_int) (aa_cons ae_bl (aa_cons ae_non (aa_cons ae_int aa_nil))))))))) (ae_call (ok_LTake T) hr T.g_LTake T.F_LTake.kp T.b_LTake (aa_cons (av 0) (aa_cons ae_int aa_nil)) (np_cons (np_cons (fun _ _ _ _ h => np_nil h))) (by omega))))) ass_nil)
    (ass_cons (as_if (PW.pt (aw_or (at_not (at_truth (av 1))) (aw_or1 (at_eq hr (ae_call (ok_LTake T) hr T.g_LTake T.F_LTake.kp T.b_LTake (aa_cons (av 0) (aa_cons ae_int aa_nil)) (np_cons (np_cons (fun _ _ _ _ h => np_nil h))) (by omega)) ae_int)))) (ass_one (as_ret (ae_sub' (ae_val (af_lst (aa_cons (ae_slT (av 1) (ao_some ae_int) ao_none) (aa_cons (ae_slT (av 1) ao_none (ao_some (ae_neg ae_int))) (aa_cons (ae_add (av 1) (ae_slT (av 1) (ao_some (ae_neg ae_int)) ao_none)) (aa_cons (ae_revT (av 1)) (aa_cons (ae_val (af_list T.n_list (av 1))) (aa_cons (ae_add (av 1) (ae_tup (aa_cons ae_int aa_nil))) (aa_cons (ae_tup aa_nil) (aa_cons (ae_tup (aa_cons ae_int (aa_cons ae_int aa_nil))) aa_nil)))))))))) (ae_call (ok_LTake T) hr T.g_LTake T.F_LTake.kp T.b_LTake (aa_cons (av 0) (aa_cons ae_int aa_nil)) (np_cons (np_cons (fun _ _ _ _ h => np_nil h))) (by omega))))) ass_nil)
    (ass_cons (as_set sc_LSpoilt.nd (ae_call (ok_LTake T) hr T.g_LTake T.F_LTake.kp T.b_LTake (aa_cons (av 0) (aa_cons (ae_len T.n_len (aa_cons (av 1) aa_nil)) aa_nil)) (np_cons (np_cons (fun _ _ _ _ h => np_nil h))) (by omega)))
    (ass_one (as_ret (ae_add (ae_add (ae_slT (av 1) ao_none (ao_some (av 2))) (ae_tup (aa_cons (ae_call R hr T.g_LSpoilt T.F_LSpoilt.kp T.b_LSpoilt (aa_cons (av 0) (aa_cons (ae_sub' (av 1) (av 2)) aa_nil)) (np_cons (np_cons (fun _ _ _ _ h => np_nil h))) (by omega)) aa_nil))) (ae_slT (av 1) (ao_some (ae_add (av 2) ae_int)) ao_none))))))))
    exact h
theorem ok_LSpoilt (T : Txt K mg) : FnOk P w K mg base CX0 19 T.f_LSpoilt T.d_LSpoilt ["c", "value"] (spD K 2 M_LSpoilt) := okr_LSpoilt T 16
def B_LBent : MS := (mSeq (mFor (mRg1 (mCons (mBin fMul (mCB fInt (mCons (mBin fGtD (mV 2) (mC (.int 0))) mNil)) (mBin fAdd (mC (.int 1)) (mCall M_LTake (mCons (mV 0) (mCons (mC (.int 2)) mNil))))) mNil)) (.nm 3) (mAsg (mCall M_LSpoilt (mCons (mV 0) (mCons (mV 1) mNil))) (.nm 1)))
    (mRet (mV 1)))
def M_LBent : Fn := fnM 4 3 .keep B_LBent
theorem ok_LBent (T : Txt K mg) : FnOk P w K mg base CX0 20 T.f_LBent T.d_LBent ["c", "value", "turn"] (spD K 3 M_LBent) := by
  have h := fn_D (P := P) (w := w) (mg := mg) (base := base) (k := 19) (m := .keep) (body := B_LBent) T.F_LBent sc_LBent fun cdv A outer s H E hr => (ass_cons (as_for PassesOwn.never rfl (ai_range1 T.n_range (aa_cons (ae_mul (ae_intC T.n_int (aa_cons (ae_gt hr (av 2) ae_int) aa_nil)) (ae_add ae_int (ae_call (ok_LTake T) hr T.g_LTake T.F_LTake.kp T.b_LTake (aa_cons (av 0) (aa_cons ae_int aa_nil)) (np_cons (np_cons (fun _ _ _ _ h => np_nil h))) (by omega)))) aa_nil)) (ag_name 3 sc_LBent.nd) (ass_one (as_set sc_LBent.nd (ae_call (ok_LSpoilt T) hr T.g_LSpoilt T.F_LSpoilt.kp T.b_LSpoilt (aa_cons (av 0) (aa_cons (av 1) aa_nil)) (np_cons (np_cons (fun _ _ _ _ h => np_nil h))) (by omega)))))
    (ass_one (as_ret (av 1))))
  exact h
def B_LOrders : MS := (mRet (mVal (mLst (mCons (mTup (mCons (mC (.int 0)) (mCons (mC (.int 1)) (mCons (mC (.int 2)) mNil)))) (mCons (mTup (mCons (mC (.int 0)) (mCons (mC (.int 2)) (mCons (mC (.int 1)) mNil)))) (mCons (mTup (mCons (mC (.int 1)) (mCons (mC (.int 0)) (mCons (mC (.int 2)) mNil)))) (mCons (mTup (mCons (mC (.int 1)) (mCons (mC (.int 2)) (mCons (mC (.int 0)) mNil)))) (mCons (mTup (mCons (mC (.int 2)) (mCons (mC (.int 0)) (mCons (mC (.int 1)) mNil)))) (mCons (mTup (mCons (mC (.int 2)) (mCons (mC (.int 1)) (mCons (mC (.int 0)) mNil)))) mNil)))))))))
def M_LOrders : Fn := fnM 0 0 .pure B_LOrders
theorem ok_LOrders (T : Txt K mg) : FnOk P w K mg base CX0 1 T.f_LOrders T.d_LOrders [] (spD K 0 M_LOrders) := by
  have h := fn_D (P := P) (w := w) (mg := mg) (base := base) (k := 0) (m := .pure) (body := B_LOrders) T.F_LOrders sc_LOrders fun cdv A outer s H E hr => (ass_one (as_ret (ae_val (af_lst (aa_cons (ae_tup (aa_cons ae_int (aa_cons ae_int (aa_cons ae_int aa_nil)))) (aa_cons (ae_tup (aa_cons ae_int (aa_cons ae_int (aa_cons ae_int aa_nil)))) (aa_cons (ae_tup (aa_cons ae_int (aa_cons ae_int (aa_cons ae_int aa_nil)))) (aa_cons (ae_tup (aa_cons ae_int (aa_cons ae_int (aa_cons ae_int aa_nil)))) (aa_cons (ae_tup (aa_cons ae_int (aa_cons ae_int (aa_cons ae_int aa_nil)))) (aa_cons (ae_tup (aa_cons ae_int (aa_cons ae_int (aa_cons ae_int aa_nil)))) aa_nil))))))))))
  exact h
def B_LTable : MS := (mSeq (mAsg (mCall M_LOrders mNil) (.nm 2))
    (mSeq (mPar 5 6 (mCons (mCall M_LTake (mCons (mV 0) (mCons (mC (.int 5)) mNil))) (mCons (mSto (mLst mNil)) mNil)))
    (mSeq (mFor (mRg1 (mCons (mC (.int 6)) mNil)) (.nm 3) (mFor (mRg1 (mCons (mC (.int 6)) mNil)) (.nm 7) (mSeq (mAsg (mBin fIx (mVal (mLst (mCons (mV 3) (mCons (mV 7) (mCons (mV 3) (mCons (mC (.int 0)) (mCons (mC (.int 0)) mNil))))))) (mV 5)) (.nm 8))
    (mSeq (mIfS (mTV (mBin fEq (mV 5) (mC (.int 2)))) (mAsg (mIf (mTV (mBin fEq (mBin fIx (mBin fIx (mV 2) (mV 3)) (mC (.int 0))) (mC (.int 0)))) (mV 7) (mV 3)) (.nm 8)) mSkip)
    (mSeq (mIfS (mTV (mBin fEq (mV 5) (mC (.int 3)))) (mSeq (mAsg (mVal (mSorted (mVal (mLC (mRg1 (mCons (mC (.int 3)) mNil)) (.nm 10) mYes (mTup (mCons (mBin fAdd (mRdT .index (mBin fIx (mV 2) (mV 3)) (mCons (mV 10) mNil)) (mRdT .index (mBin fIx (mV 2) (mV 7)) (mCons (mV 10) mNil))) (mCons (mV 10) mNil))) [10])))) (.nm 9))
    (mAsg (mRdL .index (mV 2) (mCons (mCB fTuple (mCons (mVal (mLC (mIt (mV 9)) (.tp [11, 10]) mYes (mV 10) [11, 10])) mNil)) mNil)) (.nm 8))) mSkip)
    (mSeq (mIfS (mTV (mBin fEq (mV 5) (mC (.int 4)))) (mAsg (mCall M_LTake (mCons (mV 0) (mCons (mC (.int 6)) mNil))) (.nm 8)) mSkip)
    (mDrop (mMt' fAppend (mV 6) (mCons (mIf (mTV (mBin fEq (mV 1) (mC (.int 6)))) (mV 8) (mBin fIx (mBin fIx (mV 2) (mV 8)) (mC (.int 0)))) mNil)))))))))
    (mSeq (mFor (mRg1 (mCons (mCall M_LTake (mCons (mV 0) (mCons (mC (.int 3)) mNil))) mNil)) (.nm 4) (mSetIx (mCall M_LTake (mCons (mV 0) (mCons (mV 1) mNil))) (mV 6) (mCall M_LTake (mCons (mV 0) (mCons (mC (.int 36)) mNil)))))
    (mRet (mCB fTuple (mCons (mV 6) mNil)))))))
def M_LTable : Fn := fnM 12 2 .cut B_LTable
theorem ok_LTable (T : Txt K mg) : FnOk P w K mg base CX0 3 T.f_LTable T.d_LTable ["c", "most"] (spD K 2 M_LTable) := by
  have h := fn_D (P := P) (w := w) (mg := mg) (base := base) (k := 2) (m := .cut) (body := B_LTable) T.F_LTable sc_LTable fun cdv A outer s H E hr => (ass_cons (as_set sc_LTable.nd (ae_call0 (ok_LOrders T) hr T.g_LOrders T.F_LOrders.kp T.b_LOrders (by omega)))
    (ass_cons (as_par rfl sc_LTable.nd (aa_cons (ae_call (ok_LTake T) hr T.g_LTake T.F_LTake.kp T.b_LTake (aa_cons (av 0) (aa_cons ae_int aa_nil)) (np_cons (np_cons (fun _ _ _ _ h => np_nil h))) (by omega)) (aa_cons (ae_sto (af_lst aa_nil)) aa_nil)))
    (ass_cons (as_for PassesOwn.never rfl (ai_range1 T.n_range (aa_cons ae_int aa_nil)) (ag_name 3 sc_LTable.nd) (ass_one (as_for PassesOwn.never rfl (ai_range1 T.n_range (aa_cons ae_int aa_nil)) (ag_name 7 sc_LTable.nd) (ass_cons (as_set sc_LTable.nd (ae_sub' (ae_val (af_lst (aa_cons (av 3) (aa_cons (av 7) (aa_cons (av 3) (aa_cons ae_int (aa_cons ae_int aa_nil))))))) (av 5)))
    (ass_cons (as_if (at_eq hr (av 5) ae_int) (ass_one (as_set sc_LTable.nd (ae_if (at_eq hr (ae_sub' (ae_sub' (av 2) (av 3)) ae_int) ae_int) (av 7) (av 3)))) ass_nil)
    (ass_cons (as_if (at_eq hr (av 5) ae_int) (ass_cons (as_set sc_LTable.nd (ae_val (af_sorted hr T.n_sorted (ae_val (af_lc [("x", 10)] rfl sc_LTable.nd (ai_range1 T.n_range (aa_cons ae_int aa_nil)) (blkOk_by (by first | exact rfl | decide +kernel)) (fun _ _ _ _ _ => (ag_name 10 sc_LTable.nd)) (fun _ _ _ _ _ => ats_nil) (fun _ _ _ _ _ => (ae_tup (aa_cons (ae_add (ae_indexT hr (ae_sub' (av 2) (av 3)) (aa_cons (av 10) aa_nil)) (ae_indexT hr (ae_sub' (av 2) (av 7)) (aa_cons (av 10) aa_nil))) (aa_cons (av 10) aa_nil)))))))))
    (ass_one (as_set sc_LTable.nd (ae_indexL hr (av 2) (aa_cons (ae_tuple T.n_tuple (aa_cons (ae_val (af_lc [("place", 11), ("x", 10)] rfl sc_LTable.nd (ai_any (av 9)) (blkOk_by (by first | exact rfl | decide +kernel)) (fun _ _ _ _ _ => (ag_tup rfl (pgs_cons (ag_name 11 sc_LTable.nd) (pgs_cons (ag_name 10 sc_LTable.nd) agn_nil)))) (fun _ _ _ _ _ => ats_nil) (fun _ _ _ _ _ => (av 10)))) aa_nil)) aa_nil))))) ass_nil)
    (ass_cons (as_if (at_eq hr (av 5) ae_int) (ass_one (as_set sc_LTable.nd (ae_call (ok_LTake T) hr T.g_LTake T.F_LTake.kp T.b_LTake (aa_cons (av 0) (aa_cons ae_int aa_nil)) (np_cons (np_cons (fun _ _ _ _ h => np_nil h))) (by omega)))) ass_nil)
    (ass_one (as_expr (ae_append (av 6) (aa_cons (ae_if (at_eq hr (av 1) ae_int) (av 8) (ae_sub' (ae_sub' (av 2) (av 8)) ae_int)) aa_nil)))))))))))
    (ass_cons (as_for PassesOwn.never rfl (ai_range1 T.n_range (aa_cons (ae_call (ok_LTake T) hr T.g_LTake T.F_LTake.kp T.b_LTake (aa_cons (av 0) (aa_cons ae_int aa_nil)) (np_cons (np_cons (fun _ _ _ _ h => np_nil h))) (by omega)) aa_nil)) (ag_name 4 sc_LTable.nd) (ass_one (as_setIx (ae_call (ok_LTake T) hr T.g_LTake T.F_LTake.kp T.b_LTake (aa_cons (av 0) (aa_cons (av 1) aa_nil)) (np_cons (np_cons (fun _ _ _ _ h => np_nil h))) (by omega)) (av 6) (ae_call (ok_LTake T) hr T.g_LTake T.F_LTake.kp T.b_LTake (aa_cons (av 0) (aa_cons ae_int aa_nil)) (np_cons (np_cons (fun _ _ _ _ h => np_nil h))) (by omega)))))
    (ass_one (as_ret (ae_tuple T.n_tuple (aa_cons (av 6) aa_nil))))))))
  exact h
def B_LAhead : MS := (mSeq (mAsg (mBin fIx (mCall M_LOrders mNil) (mV 0)) (.nm 3))
    (mRet (mBin fLtD (mRdT .index (mV 3) (mCons (mV 1) mNil)) (mRdT .index (mV 3) (mCons (mV 2) mNil)))))
def M_LAhead : Fn := fnM 4 3 .pure B_LAhead
theorem ok_LAhead (T : Txt K mg) : FnOk P w K mg base CX0 2 T.f_LAhead T.d_LAhead ["p", "x", "y"] (spD K 3 M_LAhead) := by
  have h := fn_D (P := P) (w := w) (mg := mg) (base := base) (k := 1) (m := .pure) (body := B_LAhead) T.F_LAhead sc_LAhead fun cdv A outer s H E hr => (ass_cons (as_set sc_LAhead.nd (ae_sub' (ae_call0 (ok_LOrders T) hr T.g_LOrders T.F_LOrders.kp T.b_LOrders (by omega)) (av 0)))
    (ass_one (as_ret (ae_lt hr (ae_indexT hr (av 3) (aa_cons (av 1) aa_nil)) (ae_indexT hr (av 3) (aa_cons (av 2) aa_nil))))))
  exact h
def B_LNumbers : MS := (mSeq (mIfS (mTV (mBin fNe (mCB fLen (mCons (mV 0) mNil)) (mBin fAdd (mC (.int 1)) (mCB fLen (mCons (mV 1) mNil))))) (mRet (mC (.bl false))) mSkip)
    (mRet (mCB fAll (mCons (mVal (mLC (mRg1 (mCons (mCB fLen (mCons (mV 1) mNil)) mNil)) (.nm 2) mYes (mAndV (mCall M_LIsInt (mCons (mBin fIx (mV 0) (mBin fAdd (mV 2) (mC (.int 1)))) mNil)) (mChain fLeD fLtD (mC (.int 0)) (mBin fIx (mV 0) (mBin fAdd (mV 2) (mC (.int 1)))) (mBin fIx (mV 1) (mV 2)))) [2])) mNil))))
def M_LNumbers : Fn := fnM 3 2 .pure B_LNumbers
theorem ok_LNumbers (T : Txt K mg) : FnOk P w K mg base CX0 2 T.f_LNumbers T.d_LNumbers ["value", "sizes"] (spD K 2 M_LNumbers) := by
  have h := fn_D (P := P) (w := w) (mg := mg) (base := base) (k := 1) (m := .pure) (body := B_LNumbers) T.F_LNumbers sc_LNumbers fun cdv A outer s H E hr => (ass_cons (as_if (at_ne hr (ae_len T.n_len (aa_cons (av 0) aa_nil)) (ae_add ae_int (ae_len T.n_len (aa_cons (av 1) aa_nil)))) (ass_one (as_ret ae_bl)) ass_nil)
    (ass_one (as_ret (ae_all rfl T.n_all (aa_cons (ae_val (af_lc [("k", 2)] rfl sc_LNumbers.nd (ai_range1 T.n_range (aa_cons (ae_len T.n_len (aa_cons (av 1) aa_nil)) aa_nil)) (blkOk_by (by first | exact rfl | decide +kernel)) (fun _ _ _ _ _ => (ag_name 2 sc_LNumbers.nd)) (fun _ _ _ _ _ => ats_nil) (fun _ _ _ _ _ => (ae_and (ae_call (ok_LIsInt T) hr T.g_LIsInt T.F_LIsInt.kp T.b_LIsInt (aa_cons (ae_sub' (av 0) (ae_add (av 2) ae_int)) aa_nil) (np_cons (fun _ _ _ _ h => np_nil h)) (by omega)) (ae_one (ae_lelt hr ae_int (ae_sub' (av 0) (ae_add (av 2) ae_int)) (ae_sub' (av 1) (av 2)))))))) aa_nil)))))
  exact h
def B_LOwn : MS := (mSeq (mAsg (mCall M_LOrders mNil) (.nm 3))
    (mSeq (mFor (mRg1 (mCons (mC (.int 6)) mNil)) (.nm 4) (mFor (mRg1 (mCons (mC (.int 6)) mNil)) (.nm 5) (mSeq (mAsg (mBin fIx (mVal (mLst (mCons (mV 4) (mCons (mV 5) mNil)))) (mV 1)) (.nm 6))
    (mIfS (mTV (mBin fNe (mBin fIx (mV 0) (mBin fAdd (mBin fMul (mC (.int 6)) (mV 4)) (mV 5))) (mIf (mTV (mBin fEq (mV 2) (mC (.int 6)))) (mV 6) (mBin fIx (mBin fIx (mV 3) (mV 6)) (mC (.int 0)))))) (mRet (mC (.bl false))) mSkip))))
    (mRet (mC (.bl true)))))
def M_LOwn : Fn := fnM 7 3 .pure B_LOwn
theorem ok_LOwn (T : Txt K mg) : FnOk P w K mg base CX0 2 T.f_LOwn T.d_LOwn ["table", "v", "most"] (spD K 3 M_LOwn) := by
  have h := fn_D (P := P) (w := w) (mg := mg) (base := base) (k := 1) (m := .pure) (body := B_LOwn) T.F_LOwn sc_LOwn fun cdv A outer s H E hr => (ass_cons (as_set sc_LOwn.nd (ae_call0 (ok_LOrders T) hr T.g_LOrders T.F_LOrders.kp T.b_LOrders (by omega)))
    (ass_cons (as_for PassesOwn.never rfl (ai_range1 T.n_range (aa_cons ae_int aa_nil)) (ag_name 4 sc_LOwn.nd) (ass_one (as_for PassesOwn.never rfl (ai_range1 T.n_range (aa_cons ae_int aa_nil)) (ag_name 5 sc_LOwn.nd) (ass_cons (as_set sc_LOwn.nd (ae_sub' (ae_val (af_lst (aa_cons (av 4) (aa_cons (av 5) aa_nil)))) (av 1)))
    (ass_one (as_if (at_ne hr (ae_sub' (av 0) (ae_add (ae_mul ae_int (av 4)) (av 5))) (ae_if (at_eq hr (av 2) ae_int) (av 6) (ae_sub' (ae_sub' (av 3) (av 6)) ae_int))) (ass_one (as_ret ae_bl)) ass_nil))))))
    (ass_one (as_ret ae_bl))))
  exact h
def B_LIsArrow : MS := (mSeq (mIfS (mOr (mNot (mTru (mIsi "tuple" (mV 1)))) (mOr (mNot (mTru (mV 1))) (mNot (mTru (mIsi "str" (mBin fIx (mV 1) (mC (.int 0)))))))) (mRet (mC (.bl false))) mSkip)
    (mSeq (mIfS (mTV (mBin fEq (mBin fIx (mV 1) (mC (.int 0))) (mC (.str "one rules")))) (mRet (mAndV (mCall M_LNumbers (mCons (mV 1) (mCons (mVal (mLst (mCons (mC (.int 2)) mNil))) mNil))) (mCall M_LOwn (mCons (mV 0) (mCons (mBin fIx (mV 1) (mC (.int 1))) (mCons (mC (.int 6)) mNil)))))) mSkip)
    (mSeq (mIfS (mAnd (mTV (mBin fEq (mBin fIx (mV 1) (mC (.int 0))) (mC (.str "against both")))) (mTru (mCall M_LNumbers (mCons (mV 1) (mCons (mVal (mLst (mCons (mC (.int 6)) (mCons (mC (.int 6)) (mCons (mC (.int 3)) (mCons (mC (.int 3)) mNil)))))) mNil))))) (mSeq (mAsg (mSl fSlT (mV 1) (mO1 (mC (.int 1))) mO0) (.tp [2, 3, 6, 7]))
    (mRet (mAndV (mBin fNe (mV 6) (mV 7)) (mAndV (mCall M_LAhead (mCons (mV 2) (mCons (mV 6) (mCons (mV 7) mNil)))) (mAndV (mCall M_LAhead (mCons (mV 3) (mCons (mV 6) (mCons (mV 7) mNil)))) (mNotV (mCall M_LAhead (mCons (mBin fIx (mV 0) (mBin fAdd (mBin fMul (mC (.int 6)) (mV 2)) (mV 3))) (mCons (mV 6) (mCons (mV 7) mNil)))))))))) mSkip)
    (mSeq (mIfS (mOr (mTV (mBin fNe (mBin fIx (mV 1) (mC (.int 0))) (mC (.str "not alone")))) (mNot (mTru (mCall M_LNumbers (mCons (mV 1) (mCons (mVal (mLst (mCons (mC (.int 6)) (mCons (mC (.int 6)) (mCons (mC (.int 6)) (mCons (mC (.int 6)) (mCons (mC (.int 3)) (mCons (mC (.int 3)) mNil)))))))) mNil)))))) (mRet (mC (.bl false))) mSkip)
    (mSeq (mAsg (mSl fSlT (mV 1) (mO1 (mC (.int 1))) mO0) (.tp [2, 3, 4, 5, 6, 7]))
    (mSeq (mIfS (mOr (mTV (mBin fEq (mV 6) (mV 7))) (mOr (mTV (mBin fNe (mCall M_LAhead (mCons (mV 2) (mCons (mV 6) (mCons (mV 7) mNil)))) (mCall M_LAhead (mCons (mV 4) (mCons (mV 6) (mCons (mV 7) mNil)))))) (mTV (mBin fNe (mCall M_LAhead (mCons (mV 3) (mCons (mV 6) (mCons (mV 7) mNil)))) (mCall M_LAhead (mCons (mV 5) (mCons (mV 6) (mCons (mV 7) mNil)))))))) (mRet (mC (.bl false))) mSkip)
    (mRet (mBin fNe (mCall M_LAhead (mCons (mBin fIx (mV 0) (mBin fAdd (mBin fMul (mC (.int 6)) (mV 2)) (mV 3))) (mCons (mV 6) (mCons (mV 7) mNil)))) (mCall M_LAhead (mCons (mBin fIx (mV 0) (mBin fAdd (mBin fMul (mC (.int 6)) (mV 4)) (mV 5))) (mCons (mV 6) (mCons (mV 7) mNil))))))))))))
def M_LIsArrow : Fn := fnM 8 2 .pure B_LIsArrow
theorem ok_LIsArrow (T : Txt K mg) : FnOk P w K mg base CX0 3 T.f_LIsArrow T.d_LIsArrow ["table", "value"] (spD K 2 M_LIsArrow) := by
  have h := fn_D (P := P) (w := w) (mg := mg) (base := base) (k := 2) (m := .pure) (body := B_LIsArrow) T.F_LIsArrow sc_LIsArrow fun cdv A outer s H E hr => (ass_cons (as_if (PW.pt (aw_or (at_not (at_truth (ae_isi T.n_isinstance T.n_tuple (av 1)))) (aw_or (at_not (at_truth (av 1))) (aw_or1 (at_not (at_truth (ae_isi T.n_isinstance T.n_str (ae_sub' (av 1) ae_int)))))))) (ass_one (as_ret ae_bl)) ass_nil)
    (ass_cons (as_if (at_eq hr (ae_sub' (av 1) ae_int) ae_str) (ass_one (as_ret (ae_and (ae_call (ok_LNumbers T) hr T.g_LNumbers T.F_LNumbers.kp T.b_LNumbers (aa_cons (av 1) (aa_cons (ae_val (af_lst (aa_cons ae_int aa_nil))) aa_nil)) (np_cons (np_cons (fun _ _ _ _ h => np_nil h))) (by omega)) (ae_one (ae_call (ok_LOwn T) hr T.g_LOwn T.F_LOwn.kp T.b_LOwn (aa_cons (av 0) (aa_cons (ae_sub' (av 1) ae_int) (aa_cons ae_int aa_nil))) (np_cons (np_cons (np_cons (fun _ _ _ _ h => np_nil h)))) (by omega)))))) ass_nil)
    (ass_cons (as_if (PW.pt (aw_and (at_eq hr (ae_sub' (av 1) ae_int) ae_str) (aw_and1 (at_truth (ae_call (ok_LNumbers T) hr T.g_LNumbers T.F_LNumbers.kp T.b_LNumbers (aa_cons (av 1) (aa_cons (ae_val (af_lst (aa_cons ae_int (aa_cons ae_int (aa_cons ae_int (aa_cons ae_int aa_nil)))))) aa_nil)) (np_cons (np_cons (fun _ _ _ _ h => np_nil h))) (by omega)))))) (ass_cons (as_asg (ae_slT (av 1) (ao_some ae_int) ao_none) (ag_tup rfl (pgs_cons (ag_name 2 sc_LIsArrow.nd) (pgs_cons (ag_name 3 sc_LIsArrow.nd) (pgs_cons (ag_name 6 sc_LIsArrow.nd) (pgs_cons (ag_name 7 sc_LIsArrow.nd) agn_nil))))))
    (ass_one (as_ret (ae_and (ae_ne hr (av 6) (av 7)) (ae_and (ae_call (ok_LAhead T) hr T.g_LAhead T.F_LAhead.kp T.b_LAhead (aa_cons (av 2) (aa_cons (av 6) (aa_cons (av 7) aa_nil))) (np_cons (np_cons (np_cons (fun _ _ _ _ h => np_nil h)))) (by omega)) (ae_and (ae_call (ok_LAhead T) hr T.g_LAhead T.F_LAhead.kp T.b_LAhead (aa_cons (av 3) (aa_cons (av 6) (aa_cons (av 7) aa_nil))) (np_cons (np_cons (np_cons (fun _ _ _ _ h => np_nil h)))) (by omega)) (ae_one (ae_not (ae_call (ok_LAhead T) hr T.g_LAhead T.F_LAhead.kp T.b_LAhead (aa_cons (ae_sub' (av 0) (ae_add (ae_mul ae_int (av 2)) (av 3))) (aa_cons (av 6) (aa_cons (av 7) aa_nil))) (np_cons (np_cons (np_cons (fun _ _ _ _ h => np_nil h)))) (by omega)))))))))) ass_nil)
    (ass_cons (as_if (PW.pt (aw_or (at_ne hr (ae_sub' (av 1) ae_int) ae_str) (aw_or1 (at_not (at_truth (ae_call (ok_LNumbers T) hr T.g_LNumbers T.F_LNumbers.kp T.b_LNumbers (aa_cons (av 1) (aa_cons (ae_val (af_lst (aa_cons ae_int (aa_cons ae_int (aa_cons ae_int (aa_cons ae_int (aa_cons ae_int (aa_cons ae_int aa_nil)))))))) aa_nil)) (np_cons (np_cons (fun _ _ _ _ h => np_nil h))) (by omega))))))) (ass_one (as_ret ae_bl)) ass_nil)
    (ass_cons (as_asg (ae_slT (av 1) (ao_some ae_int) ao_none) (ag_tup rfl (pgs_cons (ag_name 2 sc_LIsArrow.nd) (pgs_cons (ag_name 3 sc_LIsArrow.nd) (pgs_cons (ag_name 4 sc_LIsArrow.nd) (pgs_cons (ag_name 5 sc_LIsArrow.nd) (pgs_cons (ag_name 6 sc_LIsArrow.nd) (pgs_cons (ag_name 7 sc_LIsArrow.nd) agn_nil))))))))
    (ass_cons (as_if (PW.pt (aw_or (at_eq hr (av 6) (av 7)) (aw_or (at_ne hr (ae_call (ok_LAhead T) hr T.g_LAhead T.F_LAhead.kp T.b_LAhead (aa_cons (av 2) (aa_cons (av 6) (aa_cons (av 7) aa_nil))) (np_cons (np_cons (np_cons (fun _ _ _ _ h => np_nil h)))) (by omega)) (ae_call (ok_LAhead T) hr T.g_LAhead T.F_LAhead.kp T.b_LAhead (aa_cons (av 4) (aa_cons (av 6) (aa_cons (av 7) aa_nil))) (np_cons (np_cons (np_cons (fun _ _ _ _ h => np_nil h)))) (by omega))) (aw_or1 (at_ne hr (ae_call (ok_LAhead T) hr T.g_LAhead T.F_LAhead.kp T.b_LAhead (aa_cons (av 3) (aa_cons (av 6) (aa_cons (av 7) aa_nil))) (np_cons (np_cons (np_cons (fun _ _ _ _ h => np_nil h)))) (by omega)) (ae_call (ok_LAhead T) hr T.g_LAhead T.F_LAhead.kp T.b_LAhead (aa_cons (av 5) (aa_cons (av 6) (aa_cons (av 7) aa_nil))) (np_cons (np_cons (np_cons (fun _ _ _ _ h => np_nil h)))) (by omega))))))) (ass_one (as_ret ae_bl)) ass_nil)
    (ass_one (as_ret (ae_ne hr (ae_call (ok_LAhead T) hr T.g_LAhead T.F_LAhead.kp T.b_LAhead (aa_cons (ae_sub' (av 0) (ae_add (ae_mul ae_int (av 2)) (av 3))) (aa_cons (av 6) (aa_cons (av 7) aa_nil))) (np_cons (np_cons (np_cons (fun _ _ _ _ h => np_nil h)))) (by omega)) (ae_call (ok_LAhead T) hr T.g_LAhead T.F_LAhead.kp T.b_LAhead (aa_cons (ae_sub' (av 0) (ae_add (ae_mul ae_int (av 4)) (av 5))) (aa_cons (av 6) (aa_cons (av 7) aa_nil))) (np_cons (np_cons (np_cons (fun _ _ _ _ h => np_nil h)))) (by omega)))))))))))
  exact h
def B_LIsChoice : MS := (mSeq (mIfS (mOr (mNot (mTru (mIsi "tuple" (mV 1)))) (mOr (mNot (mTru (mV 1))) (mNot (mTru (mIsi "str" (mBin fIx (mV 1) (mC (.int 0)))))))) (mRet (mC (.bl false))) mSkip)
    (mSeq (mIfS (mTV (mBin fEq (mBin fIx (mV 1) (mC (.int 0))) (mC (.str "one chooses")))) (mRet (mAndV (mCall M_LNumbers (mCons (mV 1) (mCons (mVal (mLst (mCons (mC (.int 2)) mNil))) mNil))) (mCall M_LOwn (mCons (mV 0) (mCons (mBin fIx (mV 1) (mC (.int 1))) (mCons (mC (.int 3)) mNil)))))) mSkip)
    (mSeq (mIfS (mTV (mBin fEq (mBin fIx (mV 1) (mC (.int 0))) (mC (.str "never")))) (mRet (mAndV (mCall M_LNumbers (mCons (mV 1) (mCons (mVal (mLst (mCons (mC (.int 3)) mNil))) mNil))) (mBin fNotIn (mBin fIx (mV 1) (mC (.int 1))) (mV 0)))) mSkip)
    (mSeq (mIfS (mOr (mTV (mBin fNe (mBin fIx (mV 1) (mC (.int 0))) (mC (.str "gains")))) (mNot (mTru (mCall M_LNumbers (mCons (mV 1) (mCons (mVal (mLst (mCons (mC (.int 2)) (mCons (mC (.int 6)) (mCons (mC (.int 6)) (mCons (mC (.int 6)) mNil)))))) mNil)))))) (mRet (mC (.bl false))) mSkip)
    (mSeq (mAsg (mSl fSlT (mV 1) (mO1 (mC (.int 1))) mO0) (.tp [2, 3, 4, 5]))
    (mSeq (mPar 6 7 (mCons (mBin fIx (mV 0) (mBin fAdd (mBin fMul (mC (.int 6)) (mV 3)) (mV 4))) (mCons (mIf (mTV (mBin fEq (mV 2) (mC (.int 0)))) (mBin fIx (mV 0) (mBin fAdd (mBin fMul (mC (.int 6)) (mV 5)) (mV 4))) (mBin fIx (mV 0) (mBin fAdd (mBin fMul (mC (.int 6)) (mV 3)) (mV 5)))) mNil)))
    (mRet (mAndV (mBin fNe (mV 6) (mV 7)) (mCall M_LAhead (mCons (mBin fIx (mVal (mLst (mCons (mV 3) (mCons (mV 4) mNil)))) (mV 2)) (mCons (mV 7) (mCons (mV 6) mNil))))))))))))
def M_LIsChoice : Fn := fnM 8 2 .pure B_LIsChoice
theorem ok_LIsChoice (T : Txt K mg) : FnOk P w K mg base CX0 3 T.f_LIsChoice T.d_LIsChoice ["table", "value"] (spD K 2 M_LIsChoice) := by
  have h := fn_D (P := P) (w := w) (mg := mg) (base := base) (k := 2) (m := .pure) (body := B_LIsChoice) T.F_LIsChoice sc_LIsChoice fun cdv A outer s H E hr => (ass_cons (as_if (PW.pt (aw_or (at_not (at_truth (ae_isi T.n_isinstance T.n_tuple (av 1)))) (aw_or (at_not (at_truth (av 1))) (aw_or1 (at_not (at_truth (ae_isi T.n_isinstance T.n_str (ae_sub' (av 1) ae_int)))))))) (ass_one (as_ret ae_bl)) ass_nil)
    (ass_cons (as_if (at_eq hr (ae_sub' (av 1) ae_int) ae_str) (ass_one (as_ret (ae_and (ae_call (ok_LNumbers T) hr T.g_LNumbers T.F_LNumbers.kp T.b_LNumbers (aa_cons (av 1) (aa_cons (ae_val (af_lst (aa_cons ae_int aa_nil))) aa_nil)) (np_cons (np_cons (fun _ _ _ _ h => np_nil h))) (by omega)) (ae_one (ae_call (ok_LOwn T) hr T.g_LOwn T.F_LOwn.kp T.b_LOwn (aa_cons (av 0) (aa_cons (ae_sub' (av 1) ae_int) (aa_cons ae_int aa_nil))) (np_cons (np_cons (np_cons (fun _ _ _ _ h => np_nil h)))) (by omega)))))) ass_nil)
    (ass_cons (as_if (at_eq hr (ae_sub' (av 1) ae_int) ae_str) (ass_one (as_ret (ae_and (ae_call (ok_LNumbers T) hr T.g_LNumbers T.F_LNumbers.kp T.b_LNumbers (aa_cons (av 1) (aa_cons (ae_val (af_lst (aa_cons ae_int aa_nil))) aa_nil)) (np_cons (np_cons (fun _ _ _ _ h => np_nil h))) (by omega)) (ae_one (ae_nin hr (ae_sub' (av 1) ae_int) (av 0)))))) ass_nil)
    (ass_cons (as_if (PW.pt (aw_or (at_ne hr (ae_sub' (av 1) ae_int) ae_str) (aw_or1 (at_not (at_truth (ae_call (ok_LNumbers T) hr T.g_LNumbers T.F_LNumbers.kp T.b_LNumbers (aa_cons (av 1) (aa_cons (ae_val (af_lst (aa_cons ae_int (aa_cons ae_int (aa_cons ae_int (aa_cons ae_int aa_nil)))))) aa_nil)) (np_cons (np_cons (fun _ _ _ _ h => np_nil h))) (by omega))))))) (ass_one (as_ret ae_bl)) ass_nil)
    (ass_cons (as_asg (ae_slT (av 1) (ao_some ae_int) ao_none) (ag_tup rfl (pgs_cons (ag_name 2 sc_LIsChoice.nd) (pgs_cons (ag_name 3 sc_LIsChoice.nd) (pgs_cons (ag_name 4 sc_LIsChoice.nd) (pgs_cons (ag_name 5 sc_LIsChoice.nd) agn_nil))))))
    (ass_cons (as_par rfl sc_LIsChoice.nd (aa_cons (ae_sub' (av 0) (ae_add (ae_mul ae_int (av 3)) (av 4))) (aa_cons (ae_if (at_eq hr (av 2) ae_int) (ae_sub' (av 0) (ae_add (ae_mul ae_int (av 5)) (av 4))) (ae_sub' (av 0) (ae_add (ae_mul ae_int (av 3)) (av 5)))) aa_nil)))
    (ass_one (as_ret (ae_and (ae_ne hr (av 6) (av 7)) (ae_one (ae_call (ok_LAhead T) hr T.g_LAhead T.F_LAhead.kp T.b_LAhead (aa_cons (ae_sub' (ae_val (af_lst (aa_cons (av 3) (aa_cons (av 4) aa_nil)))) (av 2)) (aa_cons (av 7) (aa_cons (av 6) aa_nil))) (np_cons (np_cons (np_cons (fun _ _ _ _ h => np_nil h)))) (by omega))))))))))))
  exact h
def B_LWords : MS := (mSeq (mAsg (mVal (mLst (mCons (mC (.str "one rules")) (mCons (mC (.str "against both")) (mCons (mC (.str "not alone")) (mCons (mC (.str "one chooses")) (mCons (mC (.str "never")) (mCons (mC (.str "gains")) mNil)))))))) (.nm 2))
    (mRet (mBin fAdd (mTup (mCons (mBin fIx (mV 2) (mCall M_LTake (mCons (mV 0) (mCons (mC (.int 6)) mNil)))) mNil)) (mCB fTuple (mCons (mVal (mLC (mRg1 (mCons (mCall M_LTake (mCons (mV 0) (mCons (mC (.int 7)) mNil))) mNil)) (.nm 3) mYes (mCall M_LTake (mCons (mV 0) (mCons (mC (.int 6)) mNil))) [3])) mNil)))))
def M_LWords : Fn := fnM 4 2 .keep B_LWords
theorem ok_LWords (T : Txt K mg) : FnOk P w K mg base CX0 3 T.f_LWords T.d_LWords ["c", "value"] (spD K 2 M_LWords) := by
  have h := fn_D (P := P) (w := w) (mg := mg) (base := base) (k := 2) (m := .keep) (body := B_LWords) T.F_LWords sc_LWords fun cdv A outer s H E hr => (ass_cons (as_set sc_LWords.nd (ae_val (af_lst (aa_cons ae_str (aa_cons ae_str (aa_cons ae_str (aa_cons ae_str (aa_cons ae_str (aa_cons ae_str aa_nil)))))))))
    (ass_one (as_ret (ae_add (ae_tup (aa_cons (ae_sub' (av 2) (ae_call (ok_LTake T) hr T.g_LTake T.F_LTake.kp T.b_LTake (aa_cons (av 0) (aa_cons ae_int aa_nil)) (np_cons (np_cons (fun _ _ _ _ h => np_nil h))) (by omega))) aa_nil)) (ae_tuple T.n_tuple (aa_cons (ae_val (af_lc [("k", 3)] rfl sc_LWords.nd (ai_range1 T.n_range (aa_cons (ae_call (ok_LTake T) hr T.g_LTake T.F_LTake.kp T.b_LTake (aa_cons (av 0) (aa_cons ae_int aa_nil)) (np_cons (np_cons (fun _ _ _ _ h => np_nil h))) (by omega)) aa_nil)) (blkOk_by (by first | exact rfl | decide +kernel)) (fun _ _ _ _ _ => (ag_name 3 sc_LWords.nd)) (fun _ _ _ _ _ => ats_nil) (fun _ _ _ _ _ => (ae_call (ok_LTake T) hr T.g_LTake T.F_LTake.kp T.b_LTake (aa_cons (av 0) (aa_cons ae_int aa_nil)) (np_cons (np_cons (fun _ _ _ _ h => np_nil h))) (by omega))))) aa_nil))))))
  exact h
def B_LAW : MS := (mSeq (mAsg (mCall M_LStart (mCons (mV 0) mNil)) (.nm 1))
    (mSeq (mAsg (mTup (mCons (mCall M_LTable (mCons (mV 1) (mCons (mC (.int 6)) mNil))) (mCons (mCall M_LTable (mCons (mV 1) (mCons (mC (.int 3)) mNil))) mNil))) (.tp [3, 4]))
    (mSeq (mPar 5 6 (mCons (mCall M_arrowPaper (mCons (mV 3) mNil)) (mCons (mCall M_choicePaper (mCons (mV 4) mNil)) mNil)))
    (mSeq (mIfS (mOr (mNot (mTru (mCall M_LIsArrow (mCons (mV 3) (mCons (mV 5) mNil))))) (mNot (mTru (mCall M_LIsChoice (mCons (mV 4) (mCons (mV 6) mNil)))))) (mRet (mC (.bl false))) mSkip)
    (mSeq (mIfS (mTV (mBin fNe (mBin fEq (mBin fIx (mV 5) (mC (.int 0))) (mC (.str "one rules"))) (mCB fAny (mCons (mVal (mLC (mRg1 (mCons (mC (.int 2)) mNil)) (.nm 10) mYes (mCall M_LOwn (mCons (mV 3) (mCons (mV 10) (mCons (mC (.int 6)) mNil)))) [10])) mNil)))) (mRet (mC (.bl false))) mSkip)
    (mSeq (mIfS (mTV (mBin fNe (mBin fEq (mBin fIx (mV 6) (mC (.int 0))) (mC (.str "one chooses"))) (mCB fAny (mCons (mVal (mLC (mRg1 (mCons (mC (.int 2)) mNil)) (.nm 10) mYes (mCall M_LOwn (mCons (mV 4) (mCons (mV 10) (mCons (mC (.int 3)) mNil)))) [10])) mNil)))) (mRet (mC (.bl false))) mSkip)
    (mSeq (mFor (mRg1 (mCons (mC (.int 10)) mNil)) (.nm 2) (mSeq (mAsg (mIf (mTV (mBin fLtD (mV 2) (mC (.int 5)))) (mCall M_LBent (mCons (mV 1) (mCons (mV 5) (mCons (mV 2) mNil)))) (mCall M_LWords (mCons (mV 1) (mCons (mV 5) mNil)))) (.nm 7))
    (mSeq (mAsg (mIf (mTV (mBin fLtD (mV 2) (mC (.int 5)))) (mCall M_LBent (mCons (mV 1) (mCons (mV 6) (mCons (mV 2) mNil)))) (mCall M_LWords (mCons (mV 1) (mCons (mV 6) mNil)))) (.nm 8))
    (mSeq (mAsg (mVal (mLst (mCons (mCall M_judgeArrow (mCons (mV 3) (mCons (mV 7) mNil))) (mCons (mCall M_judgeChoice (mCons (mV 4) (mCons (mV 8) mNil))) mNil)))) (.nm 9))
    (mIfS (mOr (mNot (mTru (mCB fAll (mCons (mVal (mLC (mIt (mV 9)) (.nm 11) mYes (mIsi "bool" (mV 11)) [11])) mNil)))) (mTV (mBin fNe (mV 9) (mVal (mLst (mCons (mCall M_LIsArrow (mCons (mV 3) (mCons (mV 7) mNil))) (mCons (mCall M_LIsChoice (mCons (mV 4) (mCons (mV 8) mNil))) mNil))))))) (mRet (mC (.bl false))) mSkip)))))
    (mRet (mC (.bl true))))))))))
def M_LAW : Fn := fnM 12 1 .keep B_LAW
theorem ok_LAW (T : Txt K mg) : FnOk P w K mg base CX0 21 T.f_LAW T.d_LAW ["script"] (spD K 1 M_LAW) := by
  have h := fn_D (P := P) (w := w) (mg := mg) (base := base) (k := 20) (m := .keep) (body := B_LAW) T.F_LAW sc_LAW fun cdv A outer s H E hr => (ass_cons (as_set sc_LAW.nd (ae_call (ok_LStart T) hr T.g_LStart T.F_LStart.kp T.b_LStart (aa_cons (av 0) aa_nil) (np_cons (fun _ _ _ _ h => np_nil h)) (by omega)))
    (ass_cons (as_asg (ae_tup (aa_cons (ae_call (ok_LTable T) hr T.g_LTable T.F_LTable.kp T.b_LTable (aa_cons (av 1) (aa_cons ae_int aa_nil)) (np_cons (np_cons (fun _ _ _ _ h => np_nil h))) (by omega)) (aa_cons (ae_call (ok_LTable T) hr T.g_LTable T.F_LTable.kp T.b_LTable (aa_cons (av 1) (aa_cons ae_int aa_nil)) (np_cons (np_cons (fun _ _ _ _ h => np_nil h))) (by omega)) aa_nil))) (ag_tup rfl (pgs_cons (ag_name 3 sc_LAW.nd) (pgs_cons (ag_name 4 sc_LAW.nd) agn_nil))))
    (ass_cons (as_par rfl sc_LAW.nd (aa_cons (ae_call (ok_arrowPaper T) hr T.g_arrowPaper T.F_arrowPaper.kp T.b_arrowPaper (aa_cons (av 3) aa_nil) (np_cons (fun _ _ _ _ h => np_nil h)) (by omega)) (aa_cons (ae_call (ok_choicePaper T) hr T.g_choicePaper T.F_choicePaper.kp T.b_choicePaper (aa_cons (av 4) aa_nil) (np_cons (fun _ _ _ _ h => np_nil h)) (by omega)) aa_nil)))
    (ass_cons (as_if (PW.pt (aw_or (at_not (at_truth (ae_call (ok_LIsArrow T) hr T.g_LIsArrow T.F_LIsArrow.kp T.b_LIsArrow (aa_cons (av 3) (aa_cons (av 5) aa_nil)) (np_cons (np_cons (fun _ _ _ _ h => np_nil h))) (by omega)))) (aw_or1 (at_not (at_truth (ae_call (ok_LIsChoice T) hr T.g_LIsChoice T.F_LIsChoice.kp T.b_LIsChoice (aa_cons (av 4) (aa_cons (av 6) aa_nil)) (np_cons (np_cons (fun _ _ _ _ h => np_nil h))) (by omega))))))) (ass_one (as_ret ae_bl)) ass_nil)
    (ass_cons (as_if (at_ne hr (ae_eq hr (ae_sub' (av 5) ae_int) ae_str) (ae_any rfl T.n_any (aa_cons (ae_val (af_lc [("v", 10)] rfl sc_LAW.nd (ai_range1 T.n_range (aa_cons ae_int aa_nil)) (blkOk_by (by first | exact rfl | decide +kernel)) (fun _ _ _ _ _ => (ag_name 10 sc_LAW.nd)) (fun _ _ _ _ _ => ats_nil) (fun _ _ _ _ _ => (ae_call (ok_LOwn T) hr T.g_LOwn T.F_LOwn.kp T.b_LOwn (aa_cons (av 3) (aa_cons (av 10) (aa_cons ae_int aa_nil))) (np_cons (np_cons (np_cons (fun _ _ _ _ h => np_nil h)))) (by omega))))) aa_nil))) (ass_one (as_ret ae_bl)) ass_nil)
    (ass_cons (as_if (at_ne hr (ae_eq hr (ae_sub' (av 6) ae_int) ae_str) (ae_any rfl T.n_any (aa_cons (ae_val (af_lc [("v", 10)] rfl sc_LAW.nd (ai_range1 T.n_range (aa_cons ae_int aa_nil)) (blkOk_by (by first | exact rfl | decide +kernel)) (fun _ _ _ _ _ => (ag_name 10 sc_LAW.nd)) (fun _ _ _ _ _ => ats_nil) (fun _ _ _ _ _ => (ae_call (ok_LOwn T) hr T.g_LOwn T.F_LOwn.kp T.b_LOwn (aa_cons (av 4) (aa_cons (av 10) (aa_cons ae_int aa_nil))) (np_cons (np_cons (np_cons (fun _ _ _ _ h => np_nil h)))) (by omega))))) aa_nil))) (ass_one (as_ret ae_bl)) ass_nil)
    (ass_cons (as_for PassesOwn.never rfl (ai_range1 T.n_range (aa_cons ae_int aa_nil)) (ag_name 2 sc_LAW.nd) (ass_cons (as_set sc_LAW.nd (ae_if (at_lt hr (av 2) ae_int) (ae_call (ok_LBent T) hr T.g_LBent T.F_LBent.kp T.b_LBent (aa_cons (av 1) (aa_cons (av 5) (aa_cons (av 2) aa_nil))) (np_cons (np_cons (np_cons (fun _ _ _ _ h => np_nil h)))) (by omega)) (ae_call (ok_LWords T) hr T.g_LWords T.F_LWords.kp T.b_LWords (aa_cons (av 1) (aa_cons (av 5) aa_nil)) (np_cons (np_cons (fun _ _ _ _ h => np_nil h))) (by omega))))
    (ass_cons (as_set sc_LAW.nd (ae_if (at_lt hr (av 2) ae_int) (ae_call (ok_LBent T) hr T.g_LBent T.F_LBent.kp T.b_LBent (aa_cons (av 1) (aa_cons (av 6) (aa_cons (av 2) aa_nil))) (np_cons (np_cons (np_cons (fun _ _ _ _ h => np_nil h)))) (by omega)) (ae_call (ok_LWords T) hr T.g_LWords T.F_LWords.kp T.b_LWords (aa_cons (av 1) (aa_cons (av 6) aa_nil)) (np_cons (np_cons (fun _ _ _ _ h => np_nil h))) (by omega))))
    (ass_cons (as_set sc_LAW.nd (ae_val (af_lst (aa_cons (ae_call (ok_judgeArrow T) hr T.g_judgeArrow T.F_judgeArrow.kp T.b_judgeArrow (aa_cons (av 3) (aa_cons (av 7) aa_nil)) (np_cons (np_cons (fun _ _ _ _ h => np_nil h))) (by omega)) (aa_cons (ae_call (ok_judgeChoice T) hr T.g_judgeChoice T.F_judgeChoice.kp T.b_judgeChoice (aa_cons (av 4) (aa_cons (av 8) aa_nil)) (np_cons (np_cons (fun _ _ _ _ h => np_nil h))) (by omega)) aa_nil)))))
    (ass_one (as_if (PW.pt (aw_or (at_not (at_truth (ae_all rfl T.n_all (aa_cons (ae_val (af_lc [("answer", 11)] rfl sc_LAW.nd (ai_any (av 9)) (blkOk_by (by first | exact rfl | decide +kernel)) (fun _ _ _ _ _ => (ag_name 11 sc_LAW.nd)) (fun _ _ _ _ _ => ats_nil) (fun _ _ _ _ _ => (ae_isi T.n_isinstance T.n_bool (av 11))))) aa_nil)))) (aw_or1 (at_ne hr (av 9) (ae_val (af_lst (aa_cons (ae_call (ok_LIsArrow T) hr T.g_LIsArrow T.F_LIsArrow.kp T.b_LIsArrow (aa_cons (av 3) (aa_cons (av 7) aa_nil)) (np_cons (np_cons (fun _ _ _ _ h => np_nil h))) (by omega)) (aa_cons (ae_call (ok_LIsChoice T) hr T.g_LIsChoice T.F_LIsChoice.kp T.b_LIsChoice (aa_cons (av 4) (aa_cons (av 8) aa_nil)) (np_cons (np_cons (fun _ _ _ _ h => np_nil h))) (by omega)) aa_nil)))))))) (ass_one (as_ret ae_bl)) ass_nil))))))
    (ass_one (as_ret ae_bl)))))))))
  exact h
end
def spLaw (K : PySem.W.Frag) : Sp := fun vs H Q _ => ∃ (a : Addr) (ns : List Int), vs = [.ref a] ∧ SqL K H a (ns.map V.int) ∧ ns.length ≤ 63 ∧ ∀ H', Q (.bl true) H'
/-- what is to be shown of the law, without the program -/
def Good : Prop := ∀ ns : List Int, ns.length ≤ 63 → ∃ S', M_LAW [.fr (ns.map D.int)] [] = some (.bl true, S')
theorem sp_law {K : PySem.W.Frag} (G : Good) (vs : List V) (H : Hp) (Q : VK) (E : XK) (h : spLaw K vs H Q E) : spD K 1 M_LAW vs H Q E := by
  obtain ⟨a, ns, rfl, hs, hl, q⟩ := h
  obtain ⟨S', hg⟩ := G ns hl
  refine ⟨rfl, ⟨[], fun _ => False⟩, [], _, _, S', .cons (.of_SqL (fun _ _ => ⟨by simp, fun z => z⟩) hs .map_int) .nil, ⟨rfl, List.nodup_nil, fun i a o h => by simp at h, fun a h => by simp at h, fun _ z => z.elim⟩, hg, fun w' H' v _ _ r => ?_⟩
  rw [r.bl_inv]
  exact q H'
set_option maxHeartbeats 0 in
theorem all_mk (G : Good) {l : PySem.W.OpenLaw} {w : World} {K : PySem.W.Frag} {h : Heap} {mg : Str → Option Value} {fa f0 f1 f2 f3 f4 f5 f6 f7 f8 f9 f10 f11 f12 f13 f14 f15 f16 f17 f18 f19 f20 f21 f22 f23 f24 f25 f26 : Addr} (X : K.In h) (GG : h.Ns mainGlobals mg) (hfa : mg "law" = some (.ref fa))
    {od0 an0 od1 an1 od2 an2 od3 an3 od4 an4 od5 an5 od6 an6 od7 an7 od8 an8 od9 an9 od10 an10 od11 an11 od12 an12 od13 an13 od14 an14 od15 an15 od16 an16 od17 an17 od18 an18 od19 an19 od20 an20 od21 an21 od22 an22 od23 an23 od24 an24 od25 an25 od26 an26 : Option Addr} {sl0 sl1 sl2 sl3 sl4 sl5 sl6 sl7 sl8 sl9 sl10 sl11 sl12 sl13 sl14 sl15 sl16 sl17 sl18 sl19 sl20 sl21 sl22 sl23 sl24 sl25 sl26 : Array (Option Value)} {oc0 kV0 dc0 pm0 cd0 ct0 oc1 kV1 dc1 pm1 cd1 ct1 oc2 kV2 dc2 pm2 cd2 ct2 oc3 kV3 dc3 pm3 cd3 ct3 oc4 kV4 dc4 pm4 cd4 ct4 oc5 kV5 dc5 pm5 cd5 ct5 oc6 kV6 dc6 pm6 cd6 ct6 oc7 kV7 dc7 pm7 cd7 ct7 oc8 kV8 dc8 pm8 cd8 ct8 oc9 kV9 dc9 pm9 cd9 ct9 oc10 kV10 dc10 pm10 cd10 ct10 oc11 kV11 dc11 pm11 cd11 ct11 oc12 kV12 dc12 pm12 cd12 ct12 oc13 kV13 dc13 pm13 cd13 ct13 oc14 kV14 dc14 pm14 cd14 ct14 oc15 kV15 dc15 pm15 cd15 ct15 oc16 kV16 dc16 pm16 cd16 ct16 oc17 kV17 dc17 pm17 cd17 ct17 oc18 kV18 dc18 pm18 cd18 ct18 oc19 kV19 dc19 pm19 cd19 ct19 oc20 kV20 dc20 pm20 cd20 ct20 oc21 kV21 dc21 pm21 cd21 ct21 oc22 kV22 dc22 pm22 cd22 ct22 oc23 kV23 dc23 pm23 cd23 ct23 oc24 kV24 dc24 pm24 cd24 ct24 oc25 kV25 dc25 pm25 cd25 ct25 oc26 kV26 dc26 pm26 cd26 ct26 : Value}
    (a0 : PySem.W.nsIn K mainGlobals "is_integer" = some (some (.ref f0))) (l0 : K.lookup f0 = some ⟨oc0, od0, .func (PySem.W.fnOf "is_integer" "is_integer" (defArgs s_isInteger) (defBody s_isInteger) (defScope s_isInteger) .none kV0 dc0 pm0 an0 cd0 ct0), sl0⟩) (c0 : PySem.W.codeIn K cd0 "is_integer" = true) (k0 : PySem.W.keepIn K (.ref f0) = true)
    (a1 : PySem.W.nsIn K mainGlobals "is_ahead" = some (some (.ref f1))) (l1 : K.lookup f1 = some ⟨oc1, od1, .func (PySem.W.fnOf "is_ahead" "is_ahead" (defArgs s_isAhead) (defBody s_isAhead) (defScope s_isAhead) .none kV1 dc1 pm1 an1 cd1 ct1), sl1⟩) (c1 : PySem.W.codeIn K cd1 "is_ahead" = true) (k1 : PySem.W.keepIn K (.ref f1) = true)
    (a2 : PySem.W.nsIn K mainGlobals "rules_alone" = some (some (.ref f2))) (l2 : K.lookup f2 = some ⟨oc2, od2, .func (PySem.W.fnOf "rules_alone" "rules_alone" (defArgs s_rulesAlone) (defBody s_rulesAlone) (defScope s_rulesAlone) .none kV2 dc2 pm2 an2 cd2 ct2), sl2⟩) (c2 : PySem.W.codeIn K cd2 "rules_alone" = true) (k2 : PySem.W.keepIn K (.ref f2) = true)
    (a3 : PySem.W.nsIn K mainGlobals "is_against" = some (some (.ref f3))) (l3 : K.lookup f3 = some ⟨oc3, od3, .func (PySem.W.fnOf "is_against" "is_against" (defArgs s_isAgainst) (defBody s_isAgainst) (defScope s_isAgainst) .none kV3 dc3 pm3 an3 cd3 ct3), sl3⟩) (c3 : PySem.W.codeIn K cd3 "is_against" = true) (k3 : PySem.W.keepIn K (.ref f3) = true)
    (a4 : PySem.W.nsIn K mainGlobals "hangs_on_others" = some (some (.ref f4))) (l4 : K.lookup f4 = some ⟨oc4, od4, .func (PySem.W.fnOf "hangs_on_others" "hangs_on_others" (defArgs s_hangsOnOthers) (defBody s_hangsOnOthers) (defScope s_hangsOnOthers) .none kV4 dc4 pm4 an4 cd4 ct4), sl4⟩) (c4 : PySem.W.codeIn K cd4 "hangs_on_others" = true) (k4 : PySem.W.keepIn K (.ref f4) = true)
    (a5 : PySem.W.nsIn K mainGlobals "arrow_paper" = some (some (.ref f5))) (l5 : K.lookup f5 = some ⟨oc5, od5, .func (PySem.W.fnOf "arrow_paper" "arrow_paper" (defArgs s_arrowPaper) (defBody s_arrowPaper) (defScope s_arrowPaper) .none kV5 dc5 pm5 an5 cd5 ct5), sl5⟩) (c5 : PySem.W.codeIn K cd5 "arrow_paper" = true) (k5 : PySem.W.keepIn K (.ref f5) = true)
    (a6 : PySem.W.nsIn K mainGlobals "are_numbers" = some (some (.ref f6))) (l6 : K.lookup f6 = some ⟨oc6, od6, .func (PySem.W.fnOf "are_numbers" "are_numbers" (defArgs s_areNumbers) (defBody s_areNumbers) (defScope s_areNumbers) .none kV6 dc6 pm6 an6 cd6 ct6), sl6⟩) (c6 : PySem.W.codeIn K cd6 "are_numbers" = true) (k6 : PySem.W.keepIn K (.ref f6) = true)
    (a7 : PySem.W.nsIn K mainGlobals "judge_arrow" = some (some (.ref f7))) (l7 : K.lookup f7 = some ⟨oc7, od7, .func (PySem.W.fnOf "judge_arrow" "judge_arrow" (defArgs s_judgeArrow) (defBody s_judgeArrow) (defScope s_judgeArrow) .none kV7 dc7 pm7 an7 cd7 ct7), sl7⟩) (c7 : PySem.W.codeIn K cd7 "judge_arrow" = true) (k7 : PySem.W.keepIn K (.ref f7) = true)
    (a8 : PySem.W.nsIn K mainGlobals "chooses_alone" = some (some (.ref f8))) (l8 : K.lookup f8 = some ⟨oc8, od8, .func (PySem.W.fnOf "chooses_alone" "chooses_alone" (defArgs s_choosesAlone) (defBody s_choosesAlone) (defScope s_choosesAlone) .none kV8 dc8 pm8 an8 cd8 ct8), sl8⟩) (c8 : PySem.W.codeIn K cd8 "chooses_alone" = true) (k8 : PySem.W.keepIn K (.ref f8) = true)
    (a9 : PySem.W.nsIn K mainGlobals "does_gain" = some (some (.ref f9))) (l9 : K.lookup f9 = some ⟨oc9, od9, .func (PySem.W.fnOf "does_gain" "does_gain" (defArgs s_doesGain) (defBody s_doesGain) (defScope s_doesGain) .none kV9 dc9 pm9 an9 cd9 ct9), sl9⟩) (c9 : PySem.W.codeIn K cd9 "does_gain" = true) (k9 : PySem.W.keepIn K (.ref f9) = true)
    (a10 : PySem.W.nsIn K mainGlobals "choice_paper" = some (some (.ref f10))) (l10 : K.lookup f10 = some ⟨oc10, od10, .func (PySem.W.fnOf "choice_paper" "choice_paper" (defArgs s_choicePaper) (defBody s_choicePaper) (defScope s_choicePaper) .none kV10 dc10 pm10 an10 cd10 ct10), sl10⟩) (c10 : PySem.W.codeIn K cd10 "choice_paper" = true) (k10 : PySem.W.keepIn K (.ref f10) = true)
    (a11 : PySem.W.nsIn K mainGlobals "judge_choice" = some (some (.ref f11))) (l11 : K.lookup f11 = some ⟨oc11, od11, .func (PySem.W.fnOf "judge_choice" "judge_choice" (defArgs s_judgeChoice) (defBody s_judgeChoice) (defScope s_judgeChoice) .none kV11 dc11 pm11 an11 cd11 ct11), sl11⟩) (c11 : PySem.W.codeIn K cd11 "judge_choice" = true) (k11 : PySem.W.keepIn K (.ref f11) = true)
    (a12 : PySem.W.nsIn K mainGlobals "_law_start" = some (some (.ref f12))) (l12 : K.lookup f12 = some ⟨oc12, od12, .func (PySem.W.fnOf "_law_start" "_law_start" (defArgs s_LStart) (defBody s_LStart) (defScope s_LStart) .none kV12 dc12 pm12 an12 cd12 ct12), sl12⟩) (c12 : PySem.W.codeIn K cd12 "_law_start" = true) (k12 : PySem.W.keepIn K (.ref f12) = true)
    (a13 : PySem.W.nsIn K mainGlobals "_law_fill" = some (some (.ref f13))) (l13 : K.lookup f13 = some ⟨oc13, od13, .func (PySem.W.fnOf "_law_fill" "_law_fill" (defArgs s_LFill) (defBody s_LFill) (defScope s_LFill) .none kV13 dc13 pm13 an13 cd13 ct13), sl13⟩) (c13 : PySem.W.codeIn K cd13 "_law_fill" = true) (k13 : PySem.W.keepIn K (.ref f13) = true)
    (a14 : PySem.W.nsIn K mainGlobals "_law_take" = some (some (.ref f14))) (l14 : K.lookup f14 = some ⟨oc14, od14, .func (PySem.W.fnOf "_law_take" "_law_take" (defArgs s_LTake) (defBody s_LTake) (defScope s_LTake) .none kV14 dc14 pm14 an14 cd14 ct14), sl14⟩) (c14 : PySem.W.codeIn K cd14 "_law_take" = true) (k14 : PySem.W.keepIn K (.ref f14) = true)
    (a15 : PySem.W.nsIn K mainGlobals "_law_is_int" = some (some (.ref f15))) (l15 : K.lookup f15 = some ⟨oc15, od15, .func (PySem.W.fnOf "_law_is_int" "_law_is_int" (defArgs s_LIsInt) (defBody s_LIsInt) (defScope s_LIsInt) .none kV15 dc15 pm15 an15 cd15 ct15), sl15⟩) (c15 : PySem.W.codeIn K cd15 "_law_is_int" = true) (k15 : PySem.W.keepIn K (.ref f15) = true)
    (a16 : PySem.W.nsIn K mainGlobals "_law_spoilt" = some (some (.ref f16))) (l16 : K.lookup f16 = some ⟨oc16, od16, .func (PySem.W.fnOf "_law_spoilt" "_law_spoilt" (defArgs s_LSpoilt) (defBody s_LSpoilt) (defScope s_LSpoilt) .none kV16 dc16 pm16 an16 cd16 ct16), sl16⟩) (c16 : PySem.W.codeIn K cd16 "_law_spoilt" = true) (k16 : PySem.W.keepIn K (.ref f16) = true)
    (a17 : PySem.W.nsIn K mainGlobals "_law_bent" = some (some (.ref f17))) (l17 : K.lookup f17 = some ⟨oc17, od17, .func (PySem.W.fnOf "_law_bent" "_law_bent" (defArgs s_LBent) (defBody s_LBent) (defScope s_LBent) .none kV17 dc17 pm17 an17 cd17 ct17), sl17⟩) (c17 : PySem.W.codeIn K cd17 "_law_bent" = true) (k17 : PySem.W.keepIn K (.ref f17) = true)
    (a18 : PySem.W.nsIn K mainGlobals "_law_orders" = some (some (.ref f18))) (l18 : K.lookup f18 = some ⟨oc18, od18, .func (PySem.W.fnOf "_law_orders" "_law_orders" (defArgs s_LOrders) (defBody s_LOrders) (defScope s_LOrders) .none kV18 dc18 pm18 an18 cd18 ct18), sl18⟩) (c18 : PySem.W.codeIn K cd18 "_law_orders" = true) (k18 : PySem.W.keepIn K (.ref f18) = true)
    (a19 : PySem.W.nsIn K mainGlobals "_law_table" = some (some (.ref f19))) (l19 : K.lookup f19 = some ⟨oc19, od19, .func (PySem.W.fnOf "_law_table" "_law_table" (defArgs s_LTable) (defBody s_LTable) (defScope s_LTable) .none kV19 dc19 pm19 an19 cd19 ct19), sl19⟩) (c19 : PySem.W.codeIn K cd19 "_law_table" = true) (k19 : PySem.W.keepIn K (.ref f19) = true)
    (a20 : PySem.W.nsIn K mainGlobals "_law_ahead" = some (some (.ref f20))) (l20 : K.lookup f20 = some ⟨oc20, od20, .func (PySem.W.fnOf "_law_ahead" "_law_ahead" (defArgs s_LAhead) (defBody s_LAhead) (defScope s_LAhead) .none kV20 dc20 pm20 an20 cd20 ct20), sl20⟩) (c20 : PySem.W.codeIn K cd20 "_law_ahead" = true) (k20 : PySem.W.keepIn K (.ref f20) = true)
    (a21 : PySem.W.nsIn K mainGlobals "_law_numbers" = some (some (.ref f21))) (l21 : K.lookup f21 = some ⟨oc21, od21, .func (PySem.W.fnOf "_law_numbers" "_law_numbers" (defArgs s_LNumbers) (defBody s_LNumbers) (defScope s_LNumbers) .none kV21 dc21 pm21 an21 cd21 ct21), sl21⟩) (c21 : PySem.W.codeIn K cd21 "_law_numbers" = true) (k21 : PySem.W.keepIn K (.ref f21) = true)
    (a22 : PySem.W.nsIn K mainGlobals "_law_own" = some (some (.ref f22))) (l22 : K.lookup f22 = some ⟨oc22, od22, .func (PySem.W.fnOf "_law_own" "_law_own" (defArgs s_LOwn) (defBody s_LOwn) (defScope s_LOwn) .none kV22 dc22 pm22 an22 cd22 ct22), sl22⟩) (c22 : PySem.W.codeIn K cd22 "_law_own" = true) (k22 : PySem.W.keepIn K (.ref f22) = true)
    (a23 : PySem.W.nsIn K mainGlobals "_law_is_arrow" = some (some (.ref f23))) (l23 : K.lookup f23 = some ⟨oc23, od23, .func (PySem.W.fnOf "_law_is_arrow" "_law_is_arrow" (defArgs s_LIsArrow) (defBody s_LIsArrow) (defScope s_LIsArrow) .none kV23 dc23 pm23 an23 cd23 ct23), sl23⟩) (c23 : PySem.W.codeIn K cd23 "_law_is_arrow" = true) (k23 : PySem.W.keepIn K (.ref f23) = true)
    (a24 : PySem.W.nsIn K mainGlobals "_law_is_choice" = some (some (.ref f24))) (l24 : K.lookup f24 = some ⟨oc24, od24, .func (PySem.W.fnOf "_law_is_choice" "_law_is_choice" (defArgs s_LIsChoice) (defBody s_LIsChoice) (defScope s_LIsChoice) .none kV24 dc24 pm24 an24 cd24 ct24), sl24⟩) (c24 : PySem.W.codeIn K cd24 "_law_is_choice" = true) (k24 : PySem.W.keepIn K (.ref f24) = true)
    (a25 : PySem.W.nsIn K mainGlobals "_law_words" = some (some (.ref f25))) (l25 : K.lookup f25 = some ⟨oc25, od25, .func (PySem.W.fnOf "_law_words" "_law_words" (defArgs s_LWords) (defBody s_LWords) (defScope s_LWords) .none kV25 dc25 pm25 an25 cd25 ct25), sl25⟩) (c25 : PySem.W.codeIn K cd25 "_law_words" = true) (k25 : PySem.W.keepIn K (.ref f25) = true)
    (a26 : PySem.W.nsIn K mainGlobals "law" = some (some (.ref f26))) (l26 : K.lookup f26 = some ⟨oc26, od26, .func (PySem.W.fnOf "law" "law" (defArgs s_LAW) (defBody s_LAW) (defScope s_LAW) .none kV26 dc26 pm26 an26 cd26 ct26), sl26⟩) (c26 : PySem.W.codeIn K cd26 "law" = true) (k26 : PySem.W.keepIn K (.ref f26) = true)
    (z_all : PySem.W.nsIn K mainGlobals "all" = some none)
    (z_any : PySem.W.nsIn K mainGlobals "any" = some none)
    (z_bool : PySem.W.nsIn K mainGlobals "bool" = some none)
    (z_int : PySem.W.nsIn K mainGlobals "int" = some none)
    (z_isinstance : PySem.W.nsIn K mainGlobals "isinstance" = some none)
    (z_len : PySem.W.nsIn K mainGlobals "len" = some none)
    (z_list : PySem.W.nsIn K mainGlobals "list" = some none)
    (z_range : PySem.W.nsIn K mainGlobals "range" = some none)
    (z_sorted : PySem.W.nsIn K mainGlobals "sorted" = some none)
    (z_str : PySem.W.nsIn K mainGlobals "str" = some none)
    (z_tuple : PySem.W.nsIn K mainGlobals "tuple" = some none)
    {AORDERS nAORDERS : Nat} {oAORDERS : Obj} {AORDERS_0 nAORDERS_0 : Nat} {oAORDERS_0 : Obj} {tORDERS_0_0 : Tok} {tORDERS_0_1 : Tok} {tORDERS_0_2 : Tok} {AORDERS_1 nAORDERS_1 : Nat} {oAORDERS_1 : Obj} {tORDERS_1_0 : Tok} {tORDERS_1_1 : Tok} {tORDERS_1_2 : Tok} {AORDERS_2 nAORDERS_2 : Nat} {oAORDERS_2 : Obj} {tORDERS_2_0 : Tok} {tORDERS_2_1 : Tok} {tORDERS_2_2 : Tok} {AORDERS_3 nAORDERS_3 : Nat} {oAORDERS_3 : Obj} {tORDERS_3_0 : Tok} {tORDERS_3_1 : Tok} {tORDERS_3_2 : Tok} {AORDERS_4 nAORDERS_4 : Nat} {oAORDERS_4 : Obj} {tORDERS_4_0 : Tok} {tORDERS_4_1 : Tok} {tORDERS_4_2 : Tok} {AORDERS_5 nAORDERS_5 : Nat} {oAORDERS_5 : Obj} {tORDERS_5_0 : Tok} {tORDERS_5_1 : Tok} {tORDERS_5_2 : Tok} (qORDERS : PySem.W.nsIn K mainGlobals "ORDERS" = some (some (.ref AORDERS))) (hAORDERS : K.lookup AORDERS = some oAORDERS) (cAORDERS : oAORDERS.cls = .type "tuple") (dAORDERS : oAORDERS.data = .seq [(.ref AORDERS_0), (.ref AORDERS_1), (.ref AORDERS_2), (.ref AORDERS_3), (.ref AORDERS_4), (.ref AORDERS_5)].toArray nAORDERS) (eAORDERS : oAORDERS.dict = none) (hAORDERS_0 : K.lookup AORDERS_0 = some oAORDERS_0) (cAORDERS_0 : oAORDERS_0.cls = .type "tuple") (dAORDERS_0 : oAORDERS_0.data = .seq [(.int (0) tORDERS_0_0), (.int (1) tORDERS_0_1), (.int (2) tORDERS_0_2)].toArray nAORDERS_0) (eAORDERS_0 : oAORDERS_0.dict = none) (hAORDERS_1 : K.lookup AORDERS_1 = some oAORDERS_1) (cAORDERS_1 : oAORDERS_1.cls = .type "tuple") (dAORDERS_1 : oAORDERS_1.data = .seq [(.int (0) tORDERS_1_0), (.int (2) tORDERS_1_1), (.int (1) tORDERS_1_2)].toArray nAORDERS_1) (eAORDERS_1 : oAORDERS_1.dict = none) (hAORDERS_2 : K.lookup AORDERS_2 = some oAORDERS_2) (cAORDERS_2 : oAORDERS_2.cls = .type "tuple") (dAORDERS_2 : oAORDERS_2.data = .seq [(.int (1) tORDERS_2_0), (.int (0) tORDERS_2_1), (.int (2) tORDERS_2_2)].toArray nAORDERS_2) (eAORDERS_2 : oAORDERS_2.dict = none) (hAORDERS_3 : K.lookup AORDERS_3 = some oAORDERS_3) (cAORDERS_3 : oAORDERS_3.cls = .type "tuple") (dAORDERS_3 : oAORDERS_3.data = .seq [(.int (1) tORDERS_3_0), (.int (2) tORDERS_3_1), (.int (0) tORDERS_3_2)].toArray nAORDERS_3) (eAORDERS_3 : oAORDERS_3.dict = none) (hAORDERS_4 : K.lookup AORDERS_4 = some oAORDERS_4) (cAORDERS_4 : oAORDERS_4.cls = .type "tuple") (dAORDERS_4 : oAORDERS_4.data = .seq [(.int (2) tORDERS_4_0), (.int (0) tORDERS_4_1), (.int (1) tORDERS_4_2)].toArray nAORDERS_4) (eAORDERS_4 : oAORDERS_4.dict = none) (hAORDERS_5 : K.lookup AORDERS_5 = some oAORDERS_5) (cAORDERS_5 : oAORDERS_5.cls = .type "tuple") (dAORDERS_5 : oAORDERS_5.data = .seq [(.int (2) tORDERS_5_0), (.int (1) tORDERS_5_1), (.int (0) tORDERS_5_2)].toArray nAORDERS_5) (eAORDERS_5 : oAORDERS_5.dict = none)
    {APAIRS nAPAIRS : Nat} {oAPAIRS : Obj} {APAIRS_0 nAPAIRS_0 : Nat} {oAPAIRS_0 : Obj} {tPAIRS_0_0 : Tok} {tPAIRS_0_1 : Tok} {APAIRS_1 nAPAIRS_1 : Nat} {oAPAIRS_1 : Obj} {tPAIRS_1_0 : Tok} {tPAIRS_1_1 : Tok} {APAIRS_2 nAPAIRS_2 : Nat} {oAPAIRS_2 : Obj} {tPAIRS_2_0 : Tok} {tPAIRS_2_1 : Tok} {APAIRS_3 nAPAIRS_3 : Nat} {oAPAIRS_3 : Obj} {tPAIRS_3_0 : Tok} {tPAIRS_3_1 : Tok} {APAIRS_4 nAPAIRS_4 : Nat} {oAPAIRS_4 : Obj} {tPAIRS_4_0 : Tok} {tPAIRS_4_1 : Tok} {APAIRS_5 nAPAIRS_5 : Nat} {oAPAIRS_5 : Obj} {tPAIRS_5_0 : Tok} {tPAIRS_5_1 : Tok} (qPAIRS : PySem.W.nsIn K mainGlobals "PAIRS" = some (some (.ref APAIRS))) (hAPAIRS : K.lookup APAIRS = some oAPAIRS) (cAPAIRS : oAPAIRS.cls = .type "tuple") (dAPAIRS : oAPAIRS.data = .seq [(.ref APAIRS_0), (.ref APAIRS_1), (.ref APAIRS_2), (.ref APAIRS_3), (.ref APAIRS_4), (.ref APAIRS_5)].toArray nAPAIRS) (eAPAIRS : oAPAIRS.dict = none) (hAPAIRS_0 : K.lookup APAIRS_0 = some oAPAIRS_0) (cAPAIRS_0 : oAPAIRS_0.cls = .type "tuple") (dAPAIRS_0 : oAPAIRS_0.data = .seq [(.int (0) tPAIRS_0_0), (.int (1) tPAIRS_0_1)].toArray nAPAIRS_0) (eAPAIRS_0 : oAPAIRS_0.dict = none) (hAPAIRS_1 : K.lookup APAIRS_1 = some oAPAIRS_1) (cAPAIRS_1 : oAPAIRS_1.cls = .type "tuple") (dAPAIRS_1 : oAPAIRS_1.data = .seq [(.int (0) tPAIRS_1_0), (.int (2) tPAIRS_1_1)].toArray nAPAIRS_1) (eAPAIRS_1 : oAPAIRS_1.dict = none) (hAPAIRS_2 : K.lookup APAIRS_2 = some oAPAIRS_2) (cAPAIRS_2 : oAPAIRS_2.cls = .type "tuple") (dAPAIRS_2 : oAPAIRS_2.data = .seq [(.int (1) tPAIRS_2_0), (.int (0) tPAIRS_2_1)].toArray nAPAIRS_2) (eAPAIRS_2 : oAPAIRS_2.dict = none) (hAPAIRS_3 : K.lookup APAIRS_3 = some oAPAIRS_3) (cAPAIRS_3 : oAPAIRS_3.cls = .type "tuple") (dAPAIRS_3 : oAPAIRS_3.data = .seq [(.int (1) tPAIRS_3_0), (.int (2) tPAIRS_3_1)].toArray nAPAIRS_3) (eAPAIRS_3 : oAPAIRS_3.dict = none) (hAPAIRS_4 : K.lookup APAIRS_4 = some oAPAIRS_4) (cAPAIRS_4 : oAPAIRS_4.cls = .type "tuple") (dAPAIRS_4 : oAPAIRS_4.data = .seq [(.int (2) tPAIRS_4_0), (.int (0) tPAIRS_4_1)].toArray nAPAIRS_4) (eAPAIRS_4 : oAPAIRS_4.dict = none) (hAPAIRS_5 : K.lookup APAIRS_5 = some oAPAIRS_5) (cAPAIRS_5 : oAPAIRS_5.cls = .type "tuple") (dAPAIRS_5 : oAPAIRS_5.data = .seq [(.int (2) tPAIRS_5_0), (.int (1) tPAIRS_5_1)].toArray nAPAIRS_5) (eAPAIRS_5 : oAPAIRS_5.dict = none)
    : ∃ fd : FuncData, (∀ (s : Shared) (v : Value), BindsTo s fd ⟨[v], []⟩ [("script", v)]) ∧ ∀ base : Heap, K.In base → base.Ns mainGlobals mg → FnOk l.prog w K mg base CX0 21 fa fd ["script"] (spLaw K) := by
  have e := hfa.symm.trans (PySem.W.mg_of X GG a26)
  cases e
  have F0 := fun_mk (st := s_isInteger) l0 c0 k0
  have b0 := F0.binds (ps := ["value"]) fun _ _ _ _ _ _ us hl => match us, hl with | [_], _ => rfl
  have F1 := fun_mk (st := s_isAhead) l1 c1 k1
  have b1 := F1.binds (ps := ["p", "x", "y"]) fun _ _ _ _ _ _ us hl => match us, hl with | [_, _, _], _ => rfl
  have F2 := fun_mk (st := s_rulesAlone) l2 c2 k2
  have b2 := F2.binds (ps := ["table", "v"]) fun _ _ _ _ _ _ us hl => match us, hl with | [_, _], _ => rfl
  have F3 := fun_mk (st := s_isAgainst) l3 c3 k3
  have b3 := F3.binds (ps := ["table", "p", "q", "x", "y"]) fun _ _ _ _ _ _ us hl => match us, hl with | [_, _, _, _, _], _ => rfl
  have F4 := fun_mk (st := s_hangsOnOthers) l4 c4 k4
  have b4 := F4.binds (ps := ["table", "p", "q", "r", "s", "x", "y"]) fun _ _ _ _ _ _ us hl => match us, hl with | [_, _, _, _, _, _, _], _ => rfl
  have F5 := fun_mk (st := s_arrowPaper) l5 c5 k5
  have b5 := F5.binds (ps := ["table"]) fun _ _ _ _ _ _ us hl => match us, hl with | [_], _ => rfl
  have F6 := fun_mk (st := s_areNumbers) l6 c6 k6
  have b6 := F6.binds (ps := ["row", "most"]) fun _ _ _ _ _ _ us hl => match us, hl with | [_, _], _ => rfl
  have F7 := fun_mk (st := s_judgeArrow) l7 c7 k7
  have b7 := F7.binds (ps := ["table", "value"]) fun _ _ _ _ _ _ us hl => match us, hl with | [_, _], _ => rfl
  have F8 := fun_mk (st := s_choosesAlone) l8 c8 k8
  have b8 := F8.binds (ps := ["table", "v"]) fun _ _ _ _ _ _ us hl => match us, hl with | [_, _], _ => rfl
  have F9 := fun_mk (st := s_doesGain) l9 c9 k9
  have b9 := F9.binds (ps := ["table", "v", "p", "q", "r"]) fun _ _ _ _ _ _ us hl => match us, hl with | [_, _, _, _, _], _ => rfl
  have F10 := fun_mk (st := s_choicePaper) l10 c10 k10
  have b10 := F10.binds (ps := ["table"]) fun _ _ _ _ _ _ us hl => match us, hl with | [_], _ => rfl
  have F11 := fun_mk (st := s_judgeChoice) l11 c11 k11
  have b11 := F11.binds (ps := ["table", "value"]) fun _ _ _ _ _ _ us hl => match us, hl with | [_, _], _ => rfl
  have F12 := fun_mk (st := s_LStart) l12 c12 k12
  have b12 := F12.binds (ps := ["script"]) fun _ _ _ _ _ _ us hl => match us, hl with | [_], _ => rfl
  have F13 := fun_mk (st := s_LFill) l13 c13 k13
  have b13 := F13.binds (ps := ["c"]) fun _ _ _ _ _ _ us hl => match us, hl with | [_], _ => rfl
  have F14 := fun_mk (st := s_LTake) l14 c14 k14
  have b14 := F14.binds (ps := ["c", "many"]) fun _ _ _ _ _ _ us hl => match us, hl with | [_, _], _ => rfl
  have F15 := fun_mk (st := s_LIsInt) l15 c15 k15
  have b15 := F15.binds (ps := ["value"]) fun _ _ _ _ _ _ us hl => match us, hl with | [_], _ => rfl
  have F16 := fun_mk (st := s_LSpoilt) l16 c16 k16
  have b16 := F16.binds (ps := ["c", "value"]) fun _ _ _ _ _ _ us hl => match us, hl with | [_, _], _ => rfl
  have F17 := fun_mk (st := s_LBent) l17 c17 k17
  have b17 := F17.binds (ps := ["c", "value", "turn"]) fun _ _ _ _ _ _ us hl => match us, hl with | [_, _, _], _ => rfl
  have F18 := fun_mk (st := s_LOrders) l18 c18 k18
  have b18 := F18.binds (ps := []) fun _ _ _ _ _ _ us hl => match us, hl with | [], _ => rfl
  have F19 := fun_mk (st := s_LTable) l19 c19 k19
  have b19 := F19.binds (ps := ["c", "most"]) fun _ _ _ _ _ _ us hl => match us, hl with | [_, _], _ => rfl
  have F20 := fun_mk (st := s_LAhead) l20 c20 k20
  have b20 := F20.binds (ps := ["p", "x", "y"]) fun _ _ _ _ _ _ us hl => match us, hl with | [_, _, _], _ => rfl
  have F21 := fun_mk (st := s_LNumbers) l21 c21 k21
  have b21 := F21.binds (ps := ["value", "sizes"]) fun _ _ _ _ _ _ us hl => match us, hl with | [_, _], _ => rfl
  have F22 := fun_mk (st := s_LOwn) l22 c22 k22
  have b22 := F22.binds (ps := ["table", "v", "most"]) fun _ _ _ _ _ _ us hl => match us, hl with | [_, _, _], _ => rfl
  have F23 := fun_mk (st := s_LIsArrow) l23 c23 k23
  have b23 := F23.binds (ps := ["table", "value"]) fun _ _ _ _ _ _ us hl => match us, hl with | [_, _], _ => rfl
  have F24 := fun_mk (st := s_LIsChoice) l24 c24 k24
  have b24 := F24.binds (ps := ["table", "value"]) fun _ _ _ _ _ _ us hl => match us, hl with | [_, _], _ => rfl
  have F25 := fun_mk (st := s_LWords) l25 c25 k25
  have b25 := F25.binds (ps := ["c", "value"]) fun _ _ _ _ _ _ us hl => match us, hl with | [_, _], _ => rfl
  have F26 := fun_mk (st := s_LAW) l26 c26 k26
  have b26 := F26.binds (ps := ["script"]) fun _ _ _ _ _ _ us hl => match us, hl with | [_], _ => rfl
  let T : Txt K mg := {
    f_isInteger := f0, d_isInteger := _, F_isInteger := F0, b_isInteger := b0, g_isInteger := PySem.W.mg_of X GG a0,
    f_isAhead := f1, d_isAhead := _, F_isAhead := F1, b_isAhead := b1, g_isAhead := PySem.W.mg_of X GG a1,
    f_rulesAlone := f2, d_rulesAlone := _, F_rulesAlone := F2, b_rulesAlone := b2, g_rulesAlone := PySem.W.mg_of X GG a2,
    f_isAgainst := f3, d_isAgainst := _, F_isAgainst := F3, b_isAgainst := b3, g_isAgainst := PySem.W.mg_of X GG a3,
    f_hangsOnOthers := f4, d_hangsOnOthers := _, F_hangsOnOthers := F4, b_hangsOnOthers := b4, g_hangsOnOthers := PySem.W.mg_of X GG a4,
    f_arrowPaper := f5, d_arrowPaper := _, F_arrowPaper := F5, b_arrowPaper := b5, g_arrowPaper := PySem.W.mg_of X GG a5,
    f_areNumbers := f6, d_areNumbers := _, F_areNumbers := F6, b_areNumbers := b6, g_areNumbers := PySem.W.mg_of X GG a6,
    f_judgeArrow := f7, d_judgeArrow := _, F_judgeArrow := F7, b_judgeArrow := b7, g_judgeArrow := PySem.W.mg_of X GG a7,
    f_choosesAlone := f8, d_choosesAlone := _, F_choosesAlone := F8, b_choosesAlone := b8, g_choosesAlone := PySem.W.mg_of X GG a8,
    f_doesGain := f9, d_doesGain := _, F_doesGain := F9, b_doesGain := b9, g_doesGain := PySem.W.mg_of X GG a9,
    f_choicePaper := f10, d_choicePaper := _, F_choicePaper := F10, b_choicePaper := b10, g_choicePaper := PySem.W.mg_of X GG a10,
    f_judgeChoice := f11, d_judgeChoice := _, F_judgeChoice := F11, b_judgeChoice := b11, g_judgeChoice := PySem.W.mg_of X GG a11,
    f_LStart := f12, d_LStart := _, F_LStart := F12, b_LStart := b12, g_LStart := PySem.W.mg_of X GG a12,
    f_LFill := f13, d_LFill := _, F_LFill := F13, b_LFill := b13, g_LFill := PySem.W.mg_of X GG a13,
    f_LTake := f14, d_LTake := _, F_LTake := F14, b_LTake := b14, g_LTake := PySem.W.mg_of X GG a14,
    f_LIsInt := f15, d_LIsInt := _, F_LIsInt := F15, b_LIsInt := b15, g_LIsInt := PySem.W.mg_of X GG a15,
    f_LSpoilt := f16, d_LSpoilt := _, F_LSpoilt := F16, b_LSpoilt := b16, g_LSpoilt := PySem.W.mg_of X GG a16,
    f_LBent := f17, d_LBent := _, F_LBent := F17, b_LBent := b17, g_LBent := PySem.W.mg_of X GG a17,
    f_LOrders := f18, d_LOrders := _, F_LOrders := F18, b_LOrders := b18, g_LOrders := PySem.W.mg_of X GG a18,
    f_LTable := f19, d_LTable := _, F_LTable := F19, b_LTable := b19, g_LTable := PySem.W.mg_of X GG a19,
    f_LAhead := f20, d_LAhead := _, F_LAhead := F20, b_LAhead := b20, g_LAhead := PySem.W.mg_of X GG a20,
    f_LNumbers := f21, d_LNumbers := _, F_LNumbers := F21, b_LNumbers := b21, g_LNumbers := PySem.W.mg_of X GG a21,
    f_LOwn := f22, d_LOwn := _, F_LOwn := F22, b_LOwn := b22, g_LOwn := PySem.W.mg_of X GG a22,
    f_LIsArrow := f23, d_LIsArrow := _, F_LIsArrow := F23, b_LIsArrow := b23, g_LIsArrow := PySem.W.mg_of X GG a23,
    f_LIsChoice := f24, d_LIsChoice := _, F_LIsChoice := F24, b_LIsChoice := b24, g_LIsChoice := PySem.W.mg_of X GG a24,
    f_LWords := f25, d_LWords := _, F_LWords := F25, b_LWords := b25, g_LWords := PySem.W.mg_of X GG a25,
    f_LAW := fa, d_LAW := _, F_LAW := F26, b_LAW := b26, g_LAW := PySem.W.mg_of X GG a26,
    n_all := PySem.W.mg_none_of X GG z_all,
    n_any := PySem.W.mg_none_of X GG z_any,
    n_bool := PySem.W.mg_none_of X GG z_bool,
    n_int := PySem.W.mg_none_of X GG z_int,
    n_isinstance := PySem.W.mg_none_of X GG z_isinstance,
    n_len := PySem.W.mg_none_of X GG z_len,
    n_list := PySem.W.mg_none_of X GG z_list,
    n_range := PySem.W.mg_none_of X GG z_range,
    n_sorted := PySem.W.mg_none_of X GG z_sorted,
    n_str := PySem.W.mg_none_of X GG z_str,
    n_tuple := PySem.W.mg_none_of X GG z_tuple,
    u_ORDERS := _, m_ORDERS := PySem.W.mg_of X GG qORDERS, k_ORDERS := (KD.tup hAORDERS cAORDERS dAORDERS eAORDERS (by simp) (KDs.cons (KD.tup hAORDERS_0 cAORDERS_0 dAORDERS_0 eAORDERS_0 (by simp) (KDs.cons KD.int (KDs.cons KD.int (KDs.cons KD.int KDs.nil)))) (KDs.cons (KD.tup hAORDERS_1 cAORDERS_1 dAORDERS_1 eAORDERS_1 (by simp) (KDs.cons KD.int (KDs.cons KD.int (KDs.cons KD.int KDs.nil)))) (KDs.cons (KD.tup hAORDERS_2 cAORDERS_2 dAORDERS_2 eAORDERS_2 (by simp) (KDs.cons KD.int (KDs.cons KD.int (KDs.cons KD.int KDs.nil)))) (KDs.cons (KD.tup hAORDERS_3 cAORDERS_3 dAORDERS_3 eAORDERS_3 (by simp) (KDs.cons KD.int (KDs.cons KD.int (KDs.cons KD.int KDs.nil)))) (KDs.cons (KD.tup hAORDERS_4 cAORDERS_4 dAORDERS_4 eAORDERS_4 (by simp) (KDs.cons KD.int (KDs.cons KD.int (KDs.cons KD.int KDs.nil)))) (KDs.cons (KD.tup hAORDERS_5 cAORDERS_5 dAORDERS_5 eAORDERS_5 (by simp) (KDs.cons KD.int (KDs.cons KD.int (KDs.cons KD.int KDs.nil)))) KDs.nil))))))),
    u_PAIRS := _, m_PAIRS := PySem.W.mg_of X GG qPAIRS, k_PAIRS := (KD.tup hAPAIRS cAPAIRS dAPAIRS eAPAIRS (by simp) (KDs.cons (KD.tup hAPAIRS_0 cAPAIRS_0 dAPAIRS_0 eAPAIRS_0 (by simp) (KDs.cons KD.int (KDs.cons KD.int KDs.nil))) (KDs.cons (KD.tup hAPAIRS_1 cAPAIRS_1 dAPAIRS_1 eAPAIRS_1 (by simp) (KDs.cons KD.int (KDs.cons KD.int KDs.nil))) (KDs.cons (KD.tup hAPAIRS_2 cAPAIRS_2 dAPAIRS_2 eAPAIRS_2 (by simp) (KDs.cons KD.int (KDs.cons KD.int KDs.nil))) (KDs.cons (KD.tup hAPAIRS_3 cAPAIRS_3 dAPAIRS_3 eAPAIRS_3 (by simp) (KDs.cons KD.int (KDs.cons KD.int KDs.nil))) (KDs.cons (KD.tup hAPAIRS_4 cAPAIRS_4 dAPAIRS_4 eAPAIRS_4 (by simp) (KDs.cons KD.int (KDs.cons KD.int KDs.nil))) (KDs.cons (KD.tup hAPAIRS_5 cAPAIRS_5 dAPAIRS_5 eAPAIRS_5 (by simp) (KDs.cons KD.int (KDs.cons KD.int KDs.nil))) KDs.nil))))))) }
  exact ⟨_, fun s v => .of_eq rfl, fun base _ _ => (ok_LAW (P := l.prog) (w := w) (base := base) T).imp (sp_law G)⟩
end K43

set_option maxHeartbeats 400000
namespace K43
open PySem PySem.Spec PyProof.Rows L2 DV
def sx_one_rules_0 : Sx := ⟨"one rules", by decide +kernel⟩
def sx_against_both_1 : Sx := ⟨"against both", by decide +kernel⟩
def sx_not_alone_2 : Sx := ⟨"not alone", by decide +kernel⟩
def sx_one_chooses_3 : Sx := ⟨"one chooses", by decide +kernel⟩
def sx_never : Sx := ⟨"never", by decide +kernel⟩
def sx_gains : Sx := ⟨"gains", by decide +kernel⟩
def k_ORDERS : (List (List Int)) := [[0, 1, 2], [0, 2, 1], [1, 0, 2], [1, 2, 0], [2, 0, 1], [2, 1, 0]]
def k_PAIRS : (List (Int × Int)) := [(0, 1), (0, 2), (1, 0), (1, 2), (2, 0), (2, 1)]
def P_rulesAlone (p_table : (List Int)) (p_v : Int) : Bool := ((((rngZ 0 6).filter fun x1 => true).flatMap fun x1 => ((rngZ 0 6).filter fun x4 => true).map fun x4 => decide ((ixZ p_table ((6 * x1) + x4)) = (ixZ [(x1, x4).1, (x1, x4).2] p_v))).all id)
def Ok_rulesAlone (p_table : (List Int)) (p_v : Int) : Prop := (∀ x1 ∈ (rngZ 0 6), (∀ x4 ∈ (rngZ 0 6), (InR p_table ((6 * x1) + x4)) ∧ (InR [(x1, x4).1, (x1, x4).2] p_v))) ∧ ((((rngZ 0 6).filter fun x1 => true).flatMap fun x1 => ((rngZ 0 6).filter fun x4 => true).map fun x4 => decide ((ixZ p_table ((6 * x1) + x4)) = (ixZ [(x1, x4).1, (x1, x4).2] p_v))).length ≤ LIM)
theorem P_rulesAlone_eq (p_table : (List Int)) (p_v : Int) (h : Ok_rulesAlone p_table p_v) (S : Store) : M_rulesAlone [(eT eI) p_table, eI p_v] S = some (eB (P_rulesAlone p_table p_v), S) := by
  unfold P_rulesAlone
  exact fn_P (ρ := (fun (z : Bool) => (eB z, S))) rfl ((pb_ret (all_E (val_E (lc2_E (en := eI) (en2 := eI) (en3 := eB) (xs := (rngZ 0 6)) (p := fun x1 => true) (ys := fun x1 => (rngZ 0 6)) (q := fun x1 x4 => true) (f := fun x1 x4 => decide ((ixZ p_table ((6 * x1) + x4)) = (ixZ [(x1, x4).1, (x1, x4).2] p_v))) (src_rg1 rfl (by decide)) h.2 fun x1 h2 => ⟨_, rfl, rfl, fun h3 => ⟨(src_rg1 rfl (by decide)), fun x4 h5 => ⟨_, rfl, rfl, fun h6 => (bin_of (ix_T rfl (bin_of (bin_of rfl rfl (mul_of (.inl (by decide)))) rfl r_add) ((h.1 x1 h2) x4 h5).1) (ix_T (en := eI) (xs := [(x1, x4).1, (x1, x4).2]) (tup_of (cons_of rfl (cons_of rfl nil_of)) (Nat.le_of_ble_eq_true rfl)) rfl ((h.1 x1 h2) x4 h5).2) (eq_E (en := eI) (p := (ixZ p_table ((6 * x1) + x4))) (q := (ixZ [(x1, x4).1, (x1, x4).2] p_v)) eqv_I))⟩⟩⟩)) rfl) (fin_pure (d := eB ((((rngZ 0 6).filter fun x1 => true).flatMap fun x1 => ((rngZ 0 6).filter fun x4 => true).map fun x4 => decide ((ixZ p_table ((6 * x1) + x4)) = (ixZ [(x1, x4).1, (x1, x4).2] p_v))).all id)) (fit_B ((((rngZ 0 6).filter fun x1 => true).flatMap fun x1 => ((rngZ 0 6).filter fun x4 => true).map fun x4 => decide ((ixZ p_table ((6 * x1) + x4)) = (ixZ [(x1, x4).1, (x1, x4).2] p_v))).all id)))))
def P_isAhead (p_p : Int) (p_x : Int) (p_y : Int) : Bool := decide ((idxZ p_x (ixZ k_ORDERS p_p)) < (idxZ p_y (ixZ k_ORDERS p_p)))
def Ok_isAhead (p_p : Int) (p_x : Int) (p_y : Int) : Prop := (InR k_ORDERS p_p) ∧ (p_x ∈ (ixZ k_ORDERS p_p)) ∧ (p_y ∈ (ixZ k_ORDERS p_p))
theorem P_isAhead_eq (p_p : Int) (p_x : Int) (p_y : Int) (h : Ok_isAhead p_p p_x p_y) (S : Store) : M_isAhead [eI p_p, eI p_x, eI p_y] S = some (eB (P_isAhead p_p p_x p_y), S) := by
  unfold P_isAhead
  exact fn_P (ρ := (fun (z : Bool) => (eB z, S))) rfl ((pb_ret (bin_of (ixT_E (en := eI) (xs := (ixZ k_ORDERS p_p)) (y := p_x) eqv_I (ix_T rfl rfl h.1) (cons_of rfl nil_of) h.2.1) (ixT_E (en := eI) (xs := (ixZ k_ORDERS p_p)) (y := p_y) eqv_I (ix_T rfl rfl h.1) (cons_of rfl nil_of) h.2.2) rfl) (fin_pure (d := eB (decide ((idxZ p_x (ixZ k_ORDERS p_p)) < (idxZ p_y (ixZ k_ORDERS p_p))))) (fit_B (decide ((idxZ p_x (ixZ k_ORDERS p_p)) < (idxZ p_y (ixZ k_ORDERS p_p))))))))
def P_isAgainst (p_table : (List Int)) (p_p : Int) (p_q : Int) (p_x : Int) (p_y : Int) : Bool := ((P_isAhead p_p p_x p_y) && ((P_isAhead p_q p_x p_y) && (!(P_isAhead (ixZ p_table ((6 * p_p) + p_q)) p_x p_y))))
def Ok_isAgainst (p_table : (List Int)) (p_p : Int) (p_q : Int) (p_x : Int) (p_y : Int) : Prop := (Ok_isAhead p_p p_x p_y) ∧ ((P_isAhead p_p p_x p_y) = true → (Ok_isAhead p_q p_x p_y) ∧ ((P_isAhead p_q p_x p_y) = true → (InR p_table ((6 * p_p) + p_q)) ∧ (Ok_isAhead (ixZ p_table ((6 * p_p) + p_q)) p_x p_y)))
theorem P_isAgainst_eq (p_table : (List Int)) (p_p : Int) (p_q : Int) (p_x : Int) (p_y : Int) (h : Ok_isAgainst p_table p_p p_q p_x p_y) (S : Store) : M_isAgainst [(eT eI) p_table, eI p_p, eI p_q, eI p_x, eI p_y] S = some (eB (P_isAgainst p_table p_p p_q p_x p_y), S) := by
  unfold P_isAgainst
  exact fn_P (ρ := (fun (z : Bool) => (eB z, S))) rfl ((pb_ret (andv_E (call_of (cons_of rfl (cons_of rfl (cons_of rfl nil_of))) (P_isAhead_eq p_p p_x p_y h.1 _)) fun h1 => (andv_E (call_of (cons_of rfl (cons_of rfl (cons_of rfl nil_of))) (P_isAhead_eq p_q p_x p_y (h.2 h1).1 _)) fun h2 => (notv_E (call_of (cons_of (ix_T rfl (bin_of (bin_of rfl rfl (mul_of (.inl (by decide)))) rfl r_add) ((h.2 h1).2 h2).1) (cons_of rfl (cons_of rfl nil_of))) (P_isAhead_eq (ixZ p_table ((6 * p_p) + p_q)) p_x p_y ((h.2 h1).2 h2).2 _)) tr_bl))) (fin_pure (d := eB ((P_isAhead p_p p_x p_y) && ((P_isAhead p_q p_x p_y) && (!(P_isAhead (ixZ p_table ((6 * p_p) + p_q)) p_x p_y))))) (fit_B ((P_isAhead p_p p_x p_y) && ((P_isAhead p_q p_x p_y) && (!(P_isAhead (ixZ p_table ((6 * p_p) + p_q)) p_x p_y))))))))
def P_hangsOnOthers (p_table : (List Int)) (p_p : Int) (p_q : Int) (p_r : Int) (p_s : Int) (p_x : Int) (p_y : Int) : Bool := (bif ((!decide ((P_isAhead p_p p_x p_y) = (P_isAhead p_r p_x p_y))) || (!decide ((P_isAhead p_q p_x p_y) = (P_isAhead p_s p_x p_y)))) then false else (!decide ((P_isAhead (ixZ p_table ((6 * p_p) + p_q)) p_x p_y) = (P_isAhead (ixZ p_table ((6 * p_r) + p_s)) p_x p_y))))
def Ok_hangsOnOthers (p_table : (List Int)) (p_p : Int) (p_q : Int) (p_r : Int) (p_s : Int) (p_x : Int) (p_y : Int) : Prop := (Ok_isAhead p_p p_x p_y) ∧ (Ok_isAhead p_r p_x p_y) ∧ ((!decide ((P_isAhead p_p p_x p_y) = (P_isAhead p_r p_x p_y))) = false → (Ok_isAhead p_q p_x p_y) ∧ (Ok_isAhead p_s p_x p_y)) ∧ (((!decide ((P_isAhead p_p p_x p_y) = (P_isAhead p_r p_x p_y))) || (!decide ((P_isAhead p_q p_x p_y) = (P_isAhead p_s p_x p_y)))) = false → (InR p_table ((6 * p_p) + p_q)) ∧ (Ok_isAhead (ixZ p_table ((6 * p_p) + p_q)) p_x p_y) ∧ (InR p_table ((6 * p_r) + p_s)) ∧ (Ok_isAhead (ixZ p_table ((6 * p_r) + p_s)) p_x p_y))
theorem P_hangsOnOthers_eq (p_table : (List Int)) (p_p : Int) (p_q : Int) (p_r : Int) (p_s : Int) (p_x : Int) (p_y : Int) (h : Ok_hangsOnOthers p_table p_p p_q p_r p_s p_x p_y) (S : Store) : M_hangsOnOthers [(eT eI) p_table, eI p_p, eI p_q, eI p_r, eI p_s, eI p_x, eI p_y] S = some (eB (P_hangsOnOthers p_table p_p p_q p_r p_s p_x p_y), S) := by
  unfold P_hangsOnOthers
  exact fn_P (ρ := (fun (z : Bool) => (eB z, S))) rfl ((pb_seq_if (Q := (RQ .pure S (fun (z : Bool) => (eB z, S)))) (p := false) (q := (!decide ((P_isAhead (ixZ p_table ((6 * p_p) + p_q)) p_x p_y) = (P_isAhead (ixZ p_table ((6 * p_r) + p_s)) p_x p_y)))) (or_E (tv_of (bin_of (call_of (cons_of rfl (cons_of rfl (cons_of rfl nil_of))) (P_isAhead_eq p_p p_x p_y h.1 _)) (call_of (cons_of rfl (cons_of rfl (cons_of rfl nil_of))) (P_isAhead_eq p_r p_x p_y h.2.1 _)) (ne_E (en := eB) (p := (P_isAhead p_p p_x p_y)) (q := (P_isAhead p_r p_x p_y)) eqv_B))) fun h1 => (tv_of (bin_of (call_of (cons_of rfl (cons_of rfl (cons_of rfl nil_of))) (P_isAhead_eq p_q p_x p_y (h.2.2.1 h1).1 _)) (call_of (cons_of rfl (cons_of rfl (cons_of rfl nil_of))) (P_isAhead_eq p_s p_x p_y (h.2.2.1 h1).2 _)) (ne_E (en := eB) (p := (P_isAhead p_q p_x p_y)) (q := (P_isAhead p_s p_x p_y)) eqv_B)))) (fun h2 => (pb_seq_ret rfl (fin_pure (d := eB false) (fit_B false)))) fun h3 => (pb_seq_skip (pb_ret (bin_of (call_of (cons_of (ix_T rfl (bin_of (bin_of rfl rfl (mul_of (.inl (by decide)))) rfl r_add) (h.2.2.2 h3).1) (cons_of rfl (cons_of rfl nil_of))) (P_isAhead_eq (ixZ p_table ((6 * p_p) + p_q)) p_x p_y (h.2.2.2 h3).2.1 _)) (call_of (cons_of (ix_T rfl (bin_of (bin_of rfl rfl (mul_of (.inl (by decide)))) rfl r_add) (h.2.2.2 h3).2.2.1) (cons_of rfl (cons_of rfl nil_of))) (P_isAhead_eq (ixZ p_table ((6 * p_r) + p_s)) p_x p_y (h.2.2.2 h3).2.2.2 _)) (ne_E (en := eB) (p := (P_isAhead (ixZ p_table ((6 * p_p) + p_q)) p_x p_y)) (q := (P_isAhead (ixZ p_table ((6 * p_r) + p_s)) p_x p_y)) eqv_B)) (fin_pure (d := eB (!decide ((P_isAhead (ixZ p_table ((6 * p_p) + p_q)) p_x p_y) = (P_isAhead (ixZ p_table ((6 * p_r) + p_s)) p_x p_y)))) (fit_B (!decide ((P_isAhead (ixZ p_table ((6 * p_p) + p_q)) p_x p_y) = (P_isAhead (ixZ p_table ((6 * p_r) + p_s)) p_x p_y)))))))))
def P_arrowPaper_s1 (p_table : (List Int)) (x3 : Int) : (Lo Unit AV) := (bif (P_rulesAlone p_table x3) then (.rt (mkA ((eP2 eS eI) (sx_one_rules_0, x3)))) else (.nx ()))
def Ok_arrowPaper_2 (p_table : (List Int)) (x3 : Int) : Prop := (Ok_rulesAlone p_table x3) ∧ ((P_rulesAlone p_table x3) = true → (D.av 9 ((eP2 eS eI) (sx_one_rules_0, x3)) = true))
def P_arrowPaper_l3 (p_table : (List Int)) : (Lo Unit AV) := (forP (fun (t1 : Unit) (x3 : Int) => ((P_arrowPaper_s1 p_table x3) : (Lo Unit AV))) () (rngZ 0 2))
def P_arrowPaper_v4 : (List (Int × Int)) := (((rngZ 0 6).filter fun x10 => true).flatMap fun x10 => ((rngZ 0 6).filter fun x13 => true).map fun x13 => (x10, x13))
def P_arrowPaper_s5 (p_table : (List Int)) (x18 : (Int × Int)) (x22 : (Int × Int)) : (Lo Unit (Lo Unit AV)) := (bif (P_isAgainst p_table x18.1 x18.2 x22.1 x22.2) then (.rt (.rt (mkA ((eP5 eS eI eI eI eI) (sx_against_both_1, x18.1, x18.2, x22.1, x22.2))))) else (.nx ()))
def Ok_arrowPaper_6 (p_table : (List Int)) (x18 : (Int × Int)) (x22 : (Int × Int)) : Prop := (Ok_isAgainst p_table x18.1 x18.2 x22.1 x22.2) ∧ ((P_isAgainst p_table x18.1 x18.2 x22.1 x22.2) = true → (D.av 9 ((eP5 eS eI eI eI eI) (sx_against_both_1, x18.1, x18.2, x22.1, x22.2)) = true))
def P_arrowPaper_l7 (p_table : (List Int)) (x18 : (Int × Int)) : (Lo Unit (Lo Unit AV)) := (forP (fun (t20 : Unit) (x22 : (Int × Int)) => ((P_arrowPaper_s5 p_table x18 x22) : (Lo Unit (Lo Unit AV)))) () k_PAIRS)
def P_arrowPaper_s8 (p_table : (List Int)) (x18 : (Int × Int)) : (Lo Unit AV) := ((P_arrowPaper_l7 p_table x18).fin (fun (t26 : Unit) => (.nx ())))
def Ok_arrowPaper_9 (p_table : (List Int)) (x18 : (Int × Int)) : Prop := (okFor (fun (t20 : Unit) (x22 : (Int × Int)) => (Ok_arrowPaper_6 p_table x18 x22)) (fun (t20 : Unit) (x22 : (Int × Int)) => ((P_arrowPaper_s5 p_table x18 x22) : (Lo Unit (Lo Unit AV)))) () k_PAIRS)
def P_arrowPaper_l10 (p_table : (List Int)) : (Lo Unit AV) := (forP (fun (t16 : Unit) (x18 : (Int × Int)) => ((P_arrowPaper_s8 p_table x18) : (Lo Unit AV))) () P_arrowPaper_v4)
def P_arrowPaper_s11 (p_table : (List Int)) (x34 : (Int × Int)) (x38 : (Int × Int)) (x42 : (Int × Int)) : (Lo Unit (Lo Unit (Lo Unit AV))) := (bif (P_hangsOnOthers p_table x34.1 x34.2 x38.1 x38.2 x42.1 x42.2) then (.rt (.rt (.rt (mkA ((eP7 eS eI eI eI eI eI eI) (sx_not_alone_2, x34.1, x34.2, x38.1, x38.2, x42.1, x42.2)))))) else (.nx ()))
def Ok_arrowPaper_12 (p_table : (List Int)) (x34 : (Int × Int)) (x38 : (Int × Int)) (x42 : (Int × Int)) : Prop := (Ok_hangsOnOthers p_table x34.1 x34.2 x38.1 x38.2 x42.1 x42.2) ∧ ((P_hangsOnOthers p_table x34.1 x34.2 x38.1 x38.2 x42.1 x42.2) = true → (D.av 9 ((eP7 eS eI eI eI eI eI eI) (sx_not_alone_2, x34.1, x34.2, x38.1, x38.2, x42.1, x42.2)) = true))
def P_arrowPaper_l13 (p_table : (List Int)) (x34 : (Int × Int)) (x38 : (Int × Int)) : (Lo Unit (Lo Unit (Lo Unit AV))) := (forP (fun (t40 : Unit) (x42 : (Int × Int)) => ((P_arrowPaper_s11 p_table x34 x38 x42) : (Lo Unit (Lo Unit (Lo Unit AV))))) () k_PAIRS)
def P_arrowPaper_s14 (p_table : (List Int)) (x34 : (Int × Int)) (x38 : (Int × Int)) : (Lo Unit (Lo Unit AV)) := ((P_arrowPaper_l13 p_table x34 x38).fin (fun (t46 : Unit) => (.nx ())))
def Ok_arrowPaper_15 (p_table : (List Int)) (x34 : (Int × Int)) (x38 : (Int × Int)) : Prop := (okFor (fun (t40 : Unit) (x42 : (Int × Int)) => (Ok_arrowPaper_12 p_table x34 x38 x42)) (fun (t40 : Unit) (x42 : (Int × Int)) => ((P_arrowPaper_s11 p_table x34 x38 x42) : (Lo Unit (Lo Unit (Lo Unit AV))))) () k_PAIRS)
def P_arrowPaper_l16 (p_table : (List Int)) (x34 : (Int × Int)) : (Lo Unit (Lo Unit AV)) := (forP (fun (t36 : Unit) (x38 : (Int × Int)) => ((P_arrowPaper_s14 p_table x34 x38) : (Lo Unit (Lo Unit AV)))) () P_arrowPaper_v4)
def P_arrowPaper_s17 (p_table : (List Int)) (x34 : (Int × Int)) : (Lo Unit AV) := ((P_arrowPaper_l16 p_table x34).fin (fun (t49 : Unit) => (.nx ())))
def Ok_arrowPaper_18 (p_table : (List Int)) (x34 : (Int × Int)) : Prop := (okFor (fun (t36 : Unit) (x38 : (Int × Int)) => (Ok_arrowPaper_15 p_table x34 x38)) (fun (t36 : Unit) (x38 : (Int × Int)) => ((P_arrowPaper_s14 p_table x34 x38) : (Lo Unit (Lo Unit AV)))) () P_arrowPaper_v4)
def P_arrowPaper_l19 (p_table : (List Int)) : (Lo Unit AV) := (forP (fun (t32 : Unit) (x34 : (Int × Int)) => ((P_arrowPaper_s17 p_table x34) : (Lo Unit AV))) () P_arrowPaper_v4)
def P_arrowPaper_k20 (p_table : (List Int)) : AV := ((P_arrowPaper_l19 p_table).fin (fun (t52 : Unit) => (mkA (eN ()))))
def P_arrowPaper_k21 (p_table : (List Int)) : AV := ((P_arrowPaper_l10 p_table).fin (fun (t29 : Unit) => (P_arrowPaper_k20 p_table)))
def P_arrowPaper (p_table : (List Int)) : AV := ((P_arrowPaper_l3 p_table).fin (fun (t7 : Unit) => (P_arrowPaper_k21 p_table)))
def Ok_arrowPaper (p_table : (List Int)) : Prop := (okFor (fun (t1 : Unit) (x3 : Int) => (Ok_arrowPaper_2 p_table x3)) (fun (t1 : Unit) (x3 : Int) => ((P_arrowPaper_s1 p_table x3) : (Lo Unit AV))) () (rngZ 0 2)) ∧ (∀ (t7 : Unit), (P_arrowPaper_l3 p_table) = .nx t7 → ((((rngZ 0 6).filter fun x10 => true).flatMap fun x10 => ((rngZ 0 6).filter fun x13 => true).map fun x13 => (x10, x13)).length ≤ LIM) ∧ (okFor (fun (t16 : Unit) (x18 : (Int × Int)) => (Ok_arrowPaper_9 p_table x18)) (fun (t16 : Unit) (x18 : (Int × Int)) => ((P_arrowPaper_s8 p_table x18) : (Lo Unit AV))) () P_arrowPaper_v4) ∧ (∀ (t29 : Unit), (P_arrowPaper_l10 p_table) = .nx t29 → (okFor (fun (t32 : Unit) (x34 : (Int × Int)) => (Ok_arrowPaper_18 p_table x34)) (fun (t32 : Unit) (x34 : (Int × Int)) => ((P_arrowPaper_s17 p_table x34) : (Lo Unit AV))) () P_arrowPaper_v4) ∧ (∀ (t52 : Unit), (P_arrowPaper_l19 p_table) = .nx t52 → (D.av 9 (eN ()) = true))))
theorem P_arrowPaper_eq (p_table : (List Int)) (h : Ok_arrowPaper p_table) (S : Store) : M_arrowPaper [(eT eI) p_table] S = some (eA (P_arrowPaper p_table), S) := by
  unfold P_arrowPaper
  exact fn_P (ρ := (fun (z : AV) => (eA z, S))) rfl ((pb_for_P (QR := (RQ .pure S (fun (z : AV) => (eA z, S)))) (E := (fun (t : Unit) (j : (Option D)) => [some ((eT eI) p_table), j, none, none, none, none, none, none, none])) (σ := (fun (t : Unit) (j : (Option D)) => S)) (step := (fun (t1 : Unit) (x3 : Int) => ((P_arrowPaper_s1 p_table x3) : (Lo Unit AV)))) (ok := (fun (t1 : Unit) (x3 : Int) => (Ok_arrowPaper_2 p_table x3))) (k := (fun (t7 : Unit) => (P_arrowPaper_k21 p_table))) (t0 := ()) (j0 := none) (en := eI) (xs := (rngZ 0 2)) (src_rg1 rfl (by decide)) rfl rfl h.1 (fun t1 j2 x3 h4 => ⟨_, rfl, (pb_if (Q := (LQ (fun (t : Unit) (j : (Option D)) => [some ((eT eI) p_table), j, none, none, none, none, none, none, none]) (fun (t : Unit) (j : (Option D)) => S) (RQ .pure S (fun (z : AV) => (eA z, S))))) (p := (.rt (mkA ((eP2 eS eI) (sx_one_rules_0, x3))))) (q := (.nx ())) (tru_of' (call_of (cons_of rfl (cons_of rfl nil_of)) (P_rulesAlone_eq p_table x3 h4.1 _)) tr_bl) (fun h5 => (pb_ret (coA (tup_of (cons_of rfl (cons_of rfl nil_of)) (Nat.le_of_ble_eq_true rfl)) (h4.2 h5)) ⟨⟨_, rfl⟩, (fin_pure (d := eA (mkA ((eP2 eS eI) (sx_one_rules_0, x3)))) ((fit_up (fit_A (k := 0)) (by decide)) (mkA ((eP2 eS eI) (sx_one_rules_0, x3)))))⟩)) fun h6 => (pb_skip ⟨some (eI x3), .inl rfl, rfl⟩))⟩) fun t7 j8 h9 => (pb_seq (e1 := [some ((eT eI) p_table), j8, some ((eL (eP2 eI eI)) P_arrowPaper_v4), none, none, none, none, none, none]) (asg_of (val_E (lc2_E (en := eI) (en2 := eI) (en3 := (eP2 eI eI)) (xs := (rngZ 0 6)) (p := fun x10 => true) (ys := fun x10 => (rngZ 0 6)) (q := fun x10 x13 => true) (f := fun x10 x13 => (x10, x13)) (src_rg1 rfl (by decide)) (h.2 t7 h9).1 fun x10 h11 => ⟨_, rfl, rfl, fun h12 => ⟨(src_rg1 rfl (by decide)), fun x13 h14 => ⟨_, rfl, rfl, fun h15 => (tup_of (cons_of rfl (cons_of rfl nil_of)) (Nat.le_of_ble_eq_true rfl))⟩⟩⟩))) (pb_for_P (QR := (RQ .pure S (fun (z : AV) => (eA z, S)))) (E := (fun (t : Unit) (j : ((Option D) × (Option D) × (Option D) × (Option D))) => [some ((eT eI) p_table), j8, some ((eL (eP2 eI eI)) P_arrowPaper_v4), j.1, j.2.1, j.2.2.1, j.2.2.2, none, none])) (σ := (fun (t : Unit) (j : ((Option D) × (Option D) × (Option D) × (Option D))) => S)) (step := (fun (t16 : Unit) (x18 : (Int × Int)) => ((P_arrowPaper_s8 p_table x18) : (Lo Unit AV)))) (ok := (fun (t16 : Unit) (x18 : (Int × Int)) => (Ok_arrowPaper_9 p_table x18))) (k := (fun (t29 : Unit) => (P_arrowPaper_k20 p_table))) (t0 := ()) (j0 := (none, none, none, none)) (en := (eP2 eI eI)) (xs := P_arrowPaper_v4) (src_L rfl) rfl rfl (h.2 t7 h9).2.1 (fun t16 j17 x18 h19 => ⟨_, tgP2, (pb_for_P_end (QR := (LQ (fun (t : Unit) (j : ((Option D) × (Option D) × (Option D) × (Option D))) => [some ((eT eI) p_table), j8, some ((eL (eP2 eI eI)) P_arrowPaper_v4), j.1, j.2.1, j.2.2.1, j.2.2.2, none, none]) (fun (t : Unit) (j : ((Option D) × (Option D) × (Option D) × (Option D))) => S) (RQ .pure S (fun (z : AV) => (eA z, S))))) (E := (fun (t : Unit) (j : ((Option D) × (Option D))) => [some ((eT eI) p_table), j8, some ((eL (eP2 eI eI)) P_arrowPaper_v4), some (eI x18.1), some (eI x18.2), j.1, j.2, none, none])) (σ := (fun (t : Unit) (j : ((Option D) × (Option D))) => S)) (step := (fun (t20 : Unit) (x22 : (Int × Int)) => ((P_arrowPaper_s5 p_table x18 x22) : (Lo Unit (Lo Unit AV))))) (ok := (fun (t20 : Unit) (x22 : (Int × Int)) => (Ok_arrowPaper_6 p_table x18 x22))) (k := (fun (t26 : Unit) => (.nx ()))) (t0 := ()) (j0 := (j17.2.2.1, j17.2.2.2)) (en := (eP2 eI eI)) (xs := k_PAIRS) (src_T rfl) rfl rfl h19 (fun t20 j21 x22 h23 => ⟨_, tgP2, (pb_if (Q := (LQ (fun (t : Unit) (j : ((Option D) × (Option D))) => [some ((eT eI) p_table), j8, some ((eL (eP2 eI eI)) P_arrowPaper_v4), some (eI x18.1), some (eI x18.2), j.1, j.2, none, none]) (fun (t : Unit) (j : ((Option D) × (Option D))) => S) (LQ (fun (t : Unit) (j : ((Option D) × (Option D) × (Option D) × (Option D))) => [some ((eT eI) p_table), j8, some ((eL (eP2 eI eI)) P_arrowPaper_v4), j.1, j.2.1, j.2.2.1, j.2.2.2, none, none]) (fun (t : Unit) (j : ((Option D) × (Option D) × (Option D) × (Option D))) => S) (RQ .pure S (fun (z : AV) => (eA z, S)))))) (p := (.rt (.rt (mkA ((eP5 eS eI eI eI eI) (sx_against_both_1, x18.1, x18.2, x22.1, x22.2)))))) (q := (.nx ())) (tru_of' (call_of (cons_of rfl (cons_of rfl (cons_of rfl (cons_of rfl (cons_of rfl nil_of))))) (P_isAgainst_eq p_table x18.1 x18.2 x22.1 x22.2 h23.1 _)) tr_bl) (fun h24 => (pb_ret (coA (tup_of (cons_of rfl (cons_of rfl (cons_of rfl (cons_of rfl (cons_of rfl nil_of))))) (Nat.le_of_ble_eq_true rfl)) (h23.2 h24)) ⟨⟨_, rfl⟩, ⟨⟨_, rfl⟩, (fin_pure (d := eA (mkA ((eP5 eS eI eI eI eI) (sx_against_both_1, x18.1, x18.2, x22.1, x22.2)))) ((fit_up (fit_A (k := 0)) (by decide)) (mkA ((eP5 eS eI eI eI eI) (sx_against_both_1, x18.1, x18.2, x22.1, x22.2)))))⟩⟩)) fun h25 => (pb_skip ⟨(some (eI x22.1), some (eI x22.2)), .inl rfl, rfl⟩))⟩) fun t26 j27 h28 => ⟨(some (eI x18.1), some (eI x18.2), j27.1, j27.2), .inl rfl, rfl⟩)⟩) fun t29 j30 h31 => (pb_for_P (QR := (RQ .pure S (fun (z : AV) => (eA z, S)))) (E := (fun (t : Unit) (j : ((Option D) × (Option D) × (Option D) × (Option D) × (Option D) × (Option D))) => [some ((eT eI) p_table), j8, some ((eL (eP2 eI eI)) P_arrowPaper_v4), j.1, j.2.1, j.2.2.1, j.2.2.2.1, j.2.2.2.2.1, j.2.2.2.2.2])) (σ := (fun (t : Unit) (j : ((Option D) × (Option D) × (Option D) × (Option D) × (Option D) × (Option D))) => S)) (step := (fun (t32 : Unit) (x34 : (Int × Int)) => ((P_arrowPaper_s17 p_table x34) : (Lo Unit AV)))) (ok := (fun (t32 : Unit) (x34 : (Int × Int)) => (Ok_arrowPaper_18 p_table x34))) (k := (fun (t52 : Unit) => (mkA (eN ())))) (t0 := ()) (j0 := (j30.1, j30.2.1, j30.2.2.1, j30.2.2.2, none, none)) (en := (eP2 eI eI)) (xs := P_arrowPaper_v4) (src_L rfl) rfl rfl ((h.2 t7 h9).2.2 t29 h31).1 (fun t32 j33 x34 h35 => ⟨_, tgP2, (pb_for_P_end (QR := (LQ (fun (t : Unit) (j : ((Option D) × (Option D) × (Option D) × (Option D) × (Option D) × (Option D))) => [some ((eT eI) p_table), j8, some ((eL (eP2 eI eI)) P_arrowPaper_v4), j.1, j.2.1, j.2.2.1, j.2.2.2.1, j.2.2.2.2.1, j.2.2.2.2.2]) (fun (t : Unit) (j : ((Option D) × (Option D) × (Option D) × (Option D) × (Option D) × (Option D))) => S) (RQ .pure S (fun (z : AV) => (eA z, S))))) (E := (fun (t : Unit) (j : ((Option D) × (Option D) × (Option D) × (Option D))) => [some ((eT eI) p_table), j8, some ((eL (eP2 eI eI)) P_arrowPaper_v4), some (eI x34.1), some (eI x34.2), j.1, j.2.1, j.2.2.1, j.2.2.2])) (σ := (fun (t : Unit) (j : ((Option D) × (Option D) × (Option D) × (Option D))) => S)) (step := (fun (t36 : Unit) (x38 : (Int × Int)) => ((P_arrowPaper_s14 p_table x34 x38) : (Lo Unit (Lo Unit AV))))) (ok := (fun (t36 : Unit) (x38 : (Int × Int)) => (Ok_arrowPaper_15 p_table x34 x38))) (k := (fun (t49 : Unit) => (.nx ()))) (t0 := ()) (j0 := (j33.2.2.1, j33.2.2.2.1, j33.2.2.2.2.1, j33.2.2.2.2.2)) (en := (eP2 eI eI)) (xs := P_arrowPaper_v4) (src_L rfl) rfl rfl h35 (fun t36 j37 x38 h39 => ⟨_, tgP2, (pb_for_P_end (QR := (LQ (fun (t : Unit) (j : ((Option D) × (Option D) × (Option D) × (Option D))) => [some ((eT eI) p_table), j8, some ((eL (eP2 eI eI)) P_arrowPaper_v4), some (eI x34.1), some (eI x34.2), j.1, j.2.1, j.2.2.1, j.2.2.2]) (fun (t : Unit) (j : ((Option D) × (Option D) × (Option D) × (Option D))) => S) (LQ (fun (t : Unit) (j : ((Option D) × (Option D) × (Option D) × (Option D) × (Option D) × (Option D))) => [some ((eT eI) p_table), j8, some ((eL (eP2 eI eI)) P_arrowPaper_v4), j.1, j.2.1, j.2.2.1, j.2.2.2.1, j.2.2.2.2.1, j.2.2.2.2.2]) (fun (t : Unit) (j : ((Option D) × (Option D) × (Option D) × (Option D) × (Option D) × (Option D))) => S) (RQ .pure S (fun (z : AV) => (eA z, S)))))) (E := (fun (t : Unit) (j : ((Option D) × (Option D))) => [some ((eT eI) p_table), j8, some ((eL (eP2 eI eI)) P_arrowPaper_v4), some (eI x34.1), some (eI x34.2), j.1, j.2, some (eI x38.1), some (eI x38.2)])) (σ := (fun (t : Unit) (j : ((Option D) × (Option D))) => S)) (step := (fun (t40 : Unit) (x42 : (Int × Int)) => ((P_arrowPaper_s11 p_table x34 x38 x42) : (Lo Unit (Lo Unit (Lo Unit AV)))))) (ok := (fun (t40 : Unit) (x42 : (Int × Int)) => (Ok_arrowPaper_12 p_table x34 x38 x42))) (k := (fun (t46 : Unit) => (.nx ()))) (t0 := ()) (j0 := (j37.1, j37.2.1)) (en := (eP2 eI eI)) (xs := k_PAIRS) (src_T rfl) rfl rfl h39 (fun t40 j41 x42 h43 => ⟨_, tgP2, (pb_if (Q := (LQ (fun (t : Unit) (j : ((Option D) × (Option D))) => [some ((eT eI) p_table), j8, some ((eL (eP2 eI eI)) P_arrowPaper_v4), some (eI x34.1), some (eI x34.2), j.1, j.2, some (eI x38.1), some (eI x38.2)]) (fun (t : Unit) (j : ((Option D) × (Option D))) => S) (LQ (fun (t : Unit) (j : ((Option D) × (Option D) × (Option D) × (Option D))) => [some ((eT eI) p_table), j8, some ((eL (eP2 eI eI)) P_arrowPaper_v4), some (eI x34.1), some (eI x34.2), j.1, j.2.1, j.2.2.1, j.2.2.2]) (fun (t : Unit) (j : ((Option D) × (Option D) × (Option D) × (Option D))) => S) (LQ (fun (t : Unit) (j : ((Option D) × (Option D) × (Option D) × (Option D) × (Option D) × (Option D))) => [some ((eT eI) p_table), j8, some ((eL (eP2 eI eI)) P_arrowPaper_v4), j.1, j.2.1, j.2.2.1, j.2.2.2.1, j.2.2.2.2.1, j.2.2.2.2.2]) (fun (t : Unit) (j : ((Option D) × (Option D) × (Option D) × (Option D) × (Option D) × (Option D))) => S) (RQ .pure S (fun (z : AV) => (eA z, S))))))) (p := (.rt (.rt (.rt (mkA ((eP7 eS eI eI eI eI eI eI) (sx_not_alone_2, x34.1, x34.2, x38.1, x38.2, x42.1, x42.2))))))) (q := (.nx ())) (tru_of' (call_of (cons_of rfl (cons_of rfl (cons_of rfl (cons_of rfl (cons_of rfl (cons_of rfl (cons_of rfl nil_of))))))) (P_hangsOnOthers_eq p_table x34.1 x34.2 x38.1 x38.2 x42.1 x42.2 h43.1 _)) tr_bl) (fun h44 => (pb_ret (coA (tup_of (cons_of rfl (cons_of rfl (cons_of rfl (cons_of rfl (cons_of rfl (cons_of rfl (cons_of rfl nil_of))))))) (Nat.le_of_ble_eq_true rfl)) (h43.2 h44)) ⟨⟨_, rfl⟩, ⟨⟨_, rfl⟩, ⟨⟨_, rfl⟩, (fin_pure (d := eA (mkA ((eP7 eS eI eI eI eI eI eI) (sx_not_alone_2, x34.1, x34.2, x38.1, x38.2, x42.1, x42.2)))) ((fit_up (fit_A (k := 0)) (by decide)) (mkA ((eP7 eS eI eI eI eI eI eI) (sx_not_alone_2, x34.1, x34.2, x38.1, x38.2, x42.1, x42.2)))))⟩⟩⟩)) fun h45 => (pb_skip ⟨(some (eI x42.1), some (eI x42.2)), .inl rfl, rfl⟩))⟩) fun t46 j47 h48 => ⟨(j47.1, j47.2, some (eI x38.1), some (eI x38.2)), .inl rfl, rfl⟩)⟩) fun t49 j50 h51 => ⟨(some (eI x34.1), some (eI x34.2), j50.1, j50.2.1, j50.2.2.1, j50.2.2.2), .inl rfl, rfl⟩)⟩) fun t52 j53 h54 => (pb_ret (coA rfl (((h.2 t7 h9).2.2 t29 h31).2 t52 h54)) (fin_pure (d := eA (mkA (eN ()))) ((fit_up (fit_A (k := 0)) (by decide)) (mkA (eN ()))))))))))
def P_isInteger (p_value : AV) : Bool := (p_value.isInt && (!p_value.isBl))
theorem P_isInteger_eq (p_value : AV) (S : Store) : M_isInteger [eA p_value] S = some (eB (P_isInteger p_value), S) := by
  unfold P_isInteger
  exact fn_P (ρ := (fun (z : Bool) => (eB z, S))) rfl ((pb_ret (andv_E (isi_int rfl) fun h1 => (notv_E (isi_bl rfl) tr_bl)) (fin_pure (d := eB (p_value.isInt && (!p_value.isBl))) (fit_B (p_value.isInt && (!p_value.isBl))))))
def P_areNumbers (p_row : (List AV)) (p_most : Int) : Bool := ((p_row.map fun (x1 : AV) => ((P_isInteger x1) && (decide (0 ≤ x1.int) && decide (x1.int < p_most)))).all id)
def Ok_areNumbers (p_row : (List AV)) (p_most : Int) : Prop := (∀ x1 ∈ p_row, ((P_isInteger x1) = true → (x1.isI = true))) ∧ (p_row.length ≤ LIM)
theorem P_areNumbers_eq (p_row : (List AV)) (p_most : Int) (h : Ok_areNumbers p_row p_most) (S : Store) : M_areNumbers [(eT eA) p_row, eI p_most] S = some (eB (P_areNumbers p_row p_most), S) := by
  unfold P_areNumbers
  exact fn_P (ρ := (fun (z : Bool) => (eB z, S))) rfl ((pb_ret (all_E (val_E (lcm_E (en := eA) (en2 := eB) (xs := p_row) (f := fun (x1 : AV) => ((P_isInteger x1) && (decide (0 ≤ x1.int) && decide (x1.int < p_most)))) (src_T rfl) h.2 fun x1 h2 => ⟨_, rfl, (andv_E (call_of (cons_of rfl nil_of) (P_isInteger_eq x1  _)) fun h3 => (chain_of (x := decide (0 ≤ x1.int)) (y := decide (x1.int < p_most)) rfl (coI rfl ((h.1 x1 h2) h3)) rfl (fun h4 => rfl) fun h4 => rfl))⟩)) rfl) (fin_pure (d := eB ((p_row.map fun (x1 : AV) => ((P_isInteger x1) && (decide (0 ≤ x1.int) && decide (x1.int < p_most)))).all id)) (fit_B ((p_row.map fun (x1 : AV) => ((P_isInteger x1) && (decide (0 ≤ x1.int) && decide (x1.int < p_most)))).all id)))))
def P_judgeArrow_v1 (p_value : AV) : AV := (ixZ (cutZ p_value.items (some 1) none) 0)
def P_judgeArrow_v2 (p_value : AV) : AV := (ixZ (cutZ p_value.items (some 1) none) 1)
def P_judgeArrow_v3 (p_value : AV) : AV := (ixZ (cutZ p_value.items (some 1) none) 2)
def P_judgeArrow_v4 (p_value : AV) : AV := (ixZ (cutZ p_value.items (some 1) none) 3)
def P_judgeArrow_v5 (p_value : AV) : AV := (ixZ (cutZ p_value.items (some 1) none) 4)
def P_judgeArrow_v6 (p_value : AV) : AV := (ixZ (cutZ p_value.items (some 1) none) 5)
def P_judgeArrow (p_table : (List Int)) (p_value : AV) : Bool := (bif ((!p_value.isTup) || ((!decide ((p_value.items.length : Int) ∈ [(2, 5, 7).1, (2, 5, 7).2.1, (2, 5, 7).2.2])) || (!((ixZ p_value.items 0).isStr)))) then false else (bif (deq (eA (ixZ p_value.items 0)) (eS sx_one_rules_0)) then (decide ((p_value.items.length : Int) = 2) && ((P_areNumbers (cutZ p_value.items (some 1) none) 2) && (P_rulesAlone p_table ((ixZ p_value.items 1).int)))) else (bif (decide ((p_value.items.length : Int) < 5) || ((!(P_areNumbers (cutZ p_value.items (some 1) (some (-2))) 6)) || ((!(P_areNumbers (cutZ p_value.items (some (-2)) none) 3)) || (deq (eA (ixZ p_value.items (-1))) (eA (ixZ p_value.items (-2))))))) then false else (bif (deq (eA (ixZ p_value.items 0)) (eS sx_against_both_1)) then (decide ((p_value.items.length : Int) = 5) && (P_isAgainst p_table ((ixZ p_value.items 1).int) ((ixZ p_value.items 2).int) ((ixZ p_value.items 3).int) ((ixZ p_value.items 4).int))) else (bif ((!(deq (eA (ixZ p_value.items 0)) (eS sx_not_alone_2))) || (!decide ((p_value.items.length : Int) = 7))) then false else (P_hangsOnOthers p_table ((P_judgeArrow_v1 p_value).int) ((P_judgeArrow_v2 p_value).int) ((P_judgeArrow_v3 p_value).int) ((P_judgeArrow_v4 p_value).int) ((P_judgeArrow_v5 p_value).int) ((P_judgeArrow_v6 p_value).int)))))))
def Ok_judgeArrow (p_table : (List Int)) (p_value : AV) : Prop := ((!p_value.isTup) = false → (p_value.isTup = true) ∧ ((!decide ((p_value.items.length : Int) ∈ [(2, 5, 7).1, (2, 5, 7).2.1, (2, 5, 7).2.2])) = false → (p_value.isTup = true) ∧ (InR p_value.items 0))) ∧ (((!p_value.isTup) || ((!decide ((p_value.items.length : Int) ∈ [(2, 5, 7).1, (2, 5, 7).2.1, (2, 5, 7).2.2])) || (!((ixZ p_value.items 0).isStr)))) = false → (p_value.isTup = true) ∧ (InR p_value.items 0) ∧ ((deq (eA (ixZ p_value.items 0)) (eS sx_one_rules_0)) = true → (p_value.isTup = true) ∧ ((decide ((p_value.items.length : Int) = 2)) = true → (p_value.isTup = true) ∧ (Ok_areNumbers (cutZ p_value.items (some 1) none) 2) ∧ ((P_areNumbers (cutZ p_value.items (some 1) none) 2) = true → (p_value.isTup = true) ∧ (InR p_value.items 1) ∧ ((ixZ p_value.items 1).isI = true) ∧ (Ok_rulesAlone p_table ((ixZ p_value.items 1).int))))) ∧ ((deq (eA (ixZ p_value.items 0)) (eS sx_one_rules_0)) = false → (p_value.isTup = true) ∧ ((decide ((p_value.items.length : Int) < 5)) = false → (p_value.isTup = true) ∧ (Ok_areNumbers (cutZ p_value.items (some 1) (some (-2))) 6) ∧ ((!(P_areNumbers (cutZ p_value.items (some 1) (some (-2))) 6)) = false → (p_value.isTup = true) ∧ (Ok_areNumbers (cutZ p_value.items (some (-2)) none) 3) ∧ ((!(P_areNumbers (cutZ p_value.items (some (-2)) none) 3)) = false → (p_value.isTup = true) ∧ (InR p_value.items (-1)) ∧ (InR p_value.items (-2))))) ∧ ((decide ((p_value.items.length : Int) < 5) || ((!(P_areNumbers (cutZ p_value.items (some 1) (some (-2))) 6)) || ((!(P_areNumbers (cutZ p_value.items (some (-2)) none) 3)) || (deq (eA (ixZ p_value.items (-1))) (eA (ixZ p_value.items (-2))))))) = false → (p_value.isTup = true) ∧ (InR p_value.items 0) ∧ ((deq (eA (ixZ p_value.items 0)) (eS sx_against_both_1)) = true → (p_value.isTup = true) ∧ ((decide ((p_value.items.length : Int) = 5)) = true → (p_value.isTup = true) ∧ (InR p_value.items 1) ∧ ((ixZ p_value.items 1).isI = true) ∧ (InR p_value.items 2) ∧ ((ixZ p_value.items 2).isI = true) ∧ (InR p_value.items 3) ∧ ((ixZ p_value.items 3).isI = true) ∧ (InR p_value.items 4) ∧ ((ixZ p_value.items 4).isI = true) ∧ (Ok_isAgainst p_table ((ixZ p_value.items 1).int) ((ixZ p_value.items 2).int) ((ixZ p_value.items 3).int) ((ixZ p_value.items 4).int)))) ∧ ((deq (eA (ixZ p_value.items 0)) (eS sx_against_both_1)) = false → (p_value.isTup = true) ∧ (InR p_value.items 0) ∧ ((!(deq (eA (ixZ p_value.items 0)) (eS sx_not_alone_2))) = false → (p_value.isTup = true)) ∧ (((!(deq (eA (ixZ p_value.items 0)) (eS sx_not_alone_2))) || (!decide ((p_value.items.length : Int) = 7))) = false → (p_value.isTup = true) ∧ ((cutZ p_value.items (some 1) none).length = 6) ∧ ((P_judgeArrow_v1 p_value).isI = true) ∧ ((P_judgeArrow_v2 p_value).isI = true) ∧ ((P_judgeArrow_v3 p_value).isI = true) ∧ ((P_judgeArrow_v4 p_value).isI = true) ∧ ((P_judgeArrow_v5 p_value).isI = true) ∧ ((P_judgeArrow_v6 p_value).isI = true) ∧ (Ok_hangsOnOthers p_table ((P_judgeArrow_v1 p_value).int) ((P_judgeArrow_v2 p_value).int) ((P_judgeArrow_v3 p_value).int) ((P_judgeArrow_v4 p_value).int) ((P_judgeArrow_v5 p_value).int) ((P_judgeArrow_v6 p_value).int)))))))
theorem P_judgeArrow_eq (p_table : (List Int)) (p_value : AV) (h : Ok_judgeArrow p_table p_value) (S : Store) : M_judgeArrow [(eT eI) p_table, eA p_value] S = some (eB (P_judgeArrow p_table p_value), S) := by
  unfold P_judgeArrow
  exact fn_P (ρ := (fun (z : Bool) => (eB z, S))) rfl ((pb_seq_if (Q := (RQ .pure S (fun (z : Bool) => (eB z, S)))) (p := false) (q := (bif (deq (eA (ixZ p_value.items 0)) (eS sx_one_rules_0)) then (decide ((p_value.items.length : Int) = 2) && ((P_areNumbers (cutZ p_value.items (some 1) none) 2) && (P_rulesAlone p_table ((ixZ p_value.items 1).int)))) else (bif (decide ((p_value.items.length : Int) < 5) || ((!(P_areNumbers (cutZ p_value.items (some 1) (some (-2))) 6)) || ((!(P_areNumbers (cutZ p_value.items (some (-2)) none) 3)) || (deq (eA (ixZ p_value.items (-1))) (eA (ixZ p_value.items (-2))))))) then false else (bif (deq (eA (ixZ p_value.items 0)) (eS sx_against_both_1)) then (decide ((p_value.items.length : Int) = 5) && (P_isAgainst p_table ((ixZ p_value.items 1).int) ((ixZ p_value.items 2).int) ((ixZ p_value.items 3).int) ((ixZ p_value.items 4).int))) else (bif ((!(deq (eA (ixZ p_value.items 0)) (eS sx_not_alone_2))) || (!decide ((p_value.items.length : Int) = 7))) then false else (P_hangsOnOthers p_table ((P_judgeArrow_v1 p_value).int) ((P_judgeArrow_v2 p_value).int) ((P_judgeArrow_v3 p_value).int) ((P_judgeArrow_v4 p_value).int) ((P_judgeArrow_v5 p_value).int) ((P_judgeArrow_v6 p_value).int))))))) (or_E (not_of (tru_of' (isi_tup rfl) tr_bl)) fun h1 => (or_E (tv_of (bin_of (len_A rfl (h.1 h1).1) (tup_of (cons_of rfl (cons_of rfl (cons_of rfl nil_of))) (Nat.le_of_ble_eq_true rfl)) (nin_E eqv_I rfl))) fun h2 => (not_of (tru_of' (isi_str (ix_A rfl rfl ((h.1 h1).2 h2).1 ((h.1 h1).2 h2).2)) tr_bl)))) (fun h3 => (pb_seq_ret rfl (fin_pure (d := eB false) (fit_B false)))) fun h4 => (pb_seq_skip (pb_seq_if (Q := (RQ .pure S (fun (z : Bool) => (eB z, S)))) (p := (decide ((p_value.items.length : Int) = 2) && ((P_areNumbers (cutZ p_value.items (some 1) none) 2) && (P_rulesAlone p_table ((ixZ p_value.items 1).int))))) (q := (bif (decide ((p_value.items.length : Int) < 5) || ((!(P_areNumbers (cutZ p_value.items (some 1) (some (-2))) 6)) || ((!(P_areNumbers (cutZ p_value.items (some (-2)) none) 3)) || (deq (eA (ixZ p_value.items (-1))) (eA (ixZ p_value.items (-2))))))) then false else (bif (deq (eA (ixZ p_value.items 0)) (eS sx_against_both_1)) then (decide ((p_value.items.length : Int) = 5) && (P_isAgainst p_table ((ixZ p_value.items 1).int) ((ixZ p_value.items 2).int) ((ixZ p_value.items 3).int) ((ixZ p_value.items 4).int))) else (bif ((!(deq (eA (ixZ p_value.items 0)) (eS sx_not_alone_2))) || (!decide ((p_value.items.length : Int) = 7))) then false else (P_hangsOnOthers p_table ((P_judgeArrow_v1 p_value).int) ((P_judgeArrow_v2 p_value).int) ((P_judgeArrow_v3 p_value).int) ((P_judgeArrow_v4 p_value).int) ((P_judgeArrow_v5 p_value).int) ((P_judgeArrow_v6 p_value).int)))))) (tv_of (bin_of (ix_A rfl rfl (h.2 h4).1 (h.2 h4).2.1) rfl (eq_D (k := 32) (l := 32) ((fit_up (fit_A (k := 0)) (by decide)) (ixZ p_value.items 0)) (fit_S sx_one_rules_0) (by decide) (by decide)))) (fun h5 => (pb_seq_ret (andv_E (bin_of (len_A rfl ((h.2 h4).2.2.1 h5).1) rfl (eq_E (en := eI) (p := (p_value.items.length : Int)) (q := 2) eqv_I)) fun h7 => (andv_E (call_of (cons_of (sl_T (coT rfl (((h.2 h4).2.2.1 h5).2 h7).1) (o1_of rfl) rfl) (cons_of rfl nil_of)) (P_areNumbers_eq (cutZ p_value.items (some 1) none) 2 (((h.2 h4).2.2.1 h5).2 h7).2.1 _)) fun h8 => (call_of (cons_of rfl (cons_of (coI (ix_A rfl rfl ((((h.2 h4).2.2.1 h5).2 h7).2.2 h8).1 ((((h.2 h4).2.2.1 h5).2 h7).2.2 h8).2.1) ((((h.2 h4).2.2.1 h5).2 h7).2.2 h8).2.2.1) nil_of)) (P_rulesAlone_eq p_table ((ixZ p_value.items 1).int) ((((h.2 h4).2.2.1 h5).2 h7).2.2 h8).2.2.2 _)))) (fin_pure (d := eB (decide ((p_value.items.length : Int) = 2) && ((P_areNumbers (cutZ p_value.items (some 1) none) 2) && (P_rulesAlone p_table ((ixZ p_value.items 1).int))))) (fit_B (decide ((p_value.items.length : Int) = 2) && ((P_areNumbers (cutZ p_value.items (some 1) none) 2) && (P_rulesAlone p_table ((ixZ p_value.items 1).int)))))))) fun h6 => (pb_seq_skip (pb_seq_if (Q := (RQ .pure S (fun (z : Bool) => (eB z, S)))) (p := false) (q := (bif (deq (eA (ixZ p_value.items 0)) (eS sx_against_both_1)) then (decide ((p_value.items.length : Int) = 5) && (P_isAgainst p_table ((ixZ p_value.items 1).int) ((ixZ p_value.items 2).int) ((ixZ p_value.items 3).int) ((ixZ p_value.items 4).int))) else (bif ((!(deq (eA (ixZ p_value.items 0)) (eS sx_not_alone_2))) || (!decide ((p_value.items.length : Int) = 7))) then false else (P_hangsOnOthers p_table ((P_judgeArrow_v1 p_value).int) ((P_judgeArrow_v2 p_value).int) ((P_judgeArrow_v3 p_value).int) ((P_judgeArrow_v4 p_value).int) ((P_judgeArrow_v5 p_value).int) ((P_judgeArrow_v6 p_value).int))))) (or_E (tv_of (bin_of (len_A rfl ((h.2 h4).2.2.2 h6).1) rfl rfl)) fun h9 => (or_E (not_of (tru_of' (call_of (cons_of (sl_T (coT rfl (((h.2 h4).2.2.2 h6).2.1 h9).1) (o1_of rfl) (o1_of rfl)) (cons_of rfl nil_of)) (P_areNumbers_eq (cutZ p_value.items (some 1) (some (-2))) 6 (((h.2 h4).2.2.2 h6).2.1 h9).2.1 _)) tr_bl)) fun h10 => (or_E (not_of (tru_of' (call_of (cons_of (sl_T (coT rfl ((((h.2 h4).2.2.2 h6).2.1 h9).2.2 h10).1) (o1_of rfl) rfl) (cons_of rfl nil_of)) (P_areNumbers_eq (cutZ p_value.items (some (-2)) none) 3 ((((h.2 h4).2.2.2 h6).2.1 h9).2.2 h10).2.1 _)) tr_bl)) fun h11 => (tv_of (bin_of (ix_A rfl rfl (((((h.2 h4).2.2.2 h6).2.1 h9).2.2 h10).2.2 h11).1 (((((h.2 h4).2.2.2 h6).2.1 h9).2.2 h10).2.2 h11).2.1) (ix_A rfl rfl (((((h.2 h4).2.2.2 h6).2.1 h9).2.2 h10).2.2 h11).1 (((((h.2 h4).2.2.2 h6).2.1 h9).2.2 h10).2.2 h11).2.2) (eq_D (k := 32) (l := 32) ((fit_up (fit_A (k := 0)) (by decide)) (ixZ p_value.items (-1))) ((fit_up (fit_A (k := 0)) (by decide)) (ixZ p_value.items (-2))) (by decide) (by decide))))))) (fun h12 => (pb_seq_ret rfl (fin_pure (d := eB false) (fit_B false)))) fun h13 => (pb_seq_skip (pb_seq_if (Q := (RQ .pure S (fun (z : Bool) => (eB z, S)))) (p := (decide ((p_value.items.length : Int) = 5) && (P_isAgainst p_table ((ixZ p_value.items 1).int) ((ixZ p_value.items 2).int) ((ixZ p_value.items 3).int) ((ixZ p_value.items 4).int)))) (q := (bif ((!(deq (eA (ixZ p_value.items 0)) (eS sx_not_alone_2))) || (!decide ((p_value.items.length : Int) = 7))) then false else (P_hangsOnOthers p_table ((P_judgeArrow_v1 p_value).int) ((P_judgeArrow_v2 p_value).int) ((P_judgeArrow_v3 p_value).int) ((P_judgeArrow_v4 p_value).int) ((P_judgeArrow_v5 p_value).int) ((P_judgeArrow_v6 p_value).int)))) (tv_of (bin_of (ix_A rfl rfl (((h.2 h4).2.2.2 h6).2.2 h13).1 (((h.2 h4).2.2.2 h6).2.2 h13).2.1) rfl (eq_D (k := 32) (l := 32) ((fit_up (fit_A (k := 0)) (by decide)) (ixZ p_value.items 0)) (fit_S sx_against_both_1) (by decide) (by decide)))) (fun h14 => (pb_seq_ret (andv_E (bin_of (len_A rfl ((((h.2 h4).2.2.2 h6).2.2 h13).2.2.1 h14).1) rfl (eq_E (en := eI) (p := (p_value.items.length : Int)) (q := 5) eqv_I)) fun h16 => (call_of (cons_of rfl (cons_of (coI (ix_A rfl rfl (((((h.2 h4).2.2.2 h6).2.2 h13).2.2.1 h14).2 h16).1 (((((h.2 h4).2.2.2 h6).2.2 h13).2.2.1 h14).2 h16).2.1) (((((h.2 h4).2.2.2 h6).2.2 h13).2.2.1 h14).2 h16).2.2.1) (cons_of (coI (ix_A rfl rfl (((((h.2 h4).2.2.2 h6).2.2 h13).2.2.1 h14).2 h16).1 (((((h.2 h4).2.2.2 h6).2.2 h13).2.2.1 h14).2 h16).2.2.2.1) (((((h.2 h4).2.2.2 h6).2.2 h13).2.2.1 h14).2 h16).2.2.2.2.1) (cons_of (coI (ix_A rfl rfl (((((h.2 h4).2.2.2 h6).2.2 h13).2.2.1 h14).2 h16).1 (((((h.2 h4).2.2.2 h6).2.2 h13).2.2.1 h14).2 h16).2.2.2.2.2.1) (((((h.2 h4).2.2.2 h6).2.2 h13).2.2.1 h14).2 h16).2.2.2.2.2.2.1) (cons_of (coI (ix_A rfl rfl (((((h.2 h4).2.2.2 h6).2.2 h13).2.2.1 h14).2 h16).1 (((((h.2 h4).2.2.2 h6).2.2 h13).2.2.1 h14).2 h16).2.2.2.2.2.2.2.1) (((((h.2 h4).2.2.2 h6).2.2 h13).2.2.1 h14).2 h16).2.2.2.2.2.2.2.2.1) nil_of))))) (P_isAgainst_eq p_table ((ixZ p_value.items 1).int) ((ixZ p_value.items 2).int) ((ixZ p_value.items 3).int) ((ixZ p_value.items 4).int) (((((h.2 h4).2.2.2 h6).2.2 h13).2.2.1 h14).2 h16).2.2.2.2.2.2.2.2.2 _))) (fin_pure (d := eB (decide ((p_value.items.length : Int) = 5) && (P_isAgainst p_table ((ixZ p_value.items 1).int) ((ixZ p_value.items 2).int) ((ixZ p_value.items 3).int) ((ixZ p_value.items 4).int)))) (fit_B (decide ((p_value.items.length : Int) = 5) && (P_isAgainst p_table ((ixZ p_value.items 1).int) ((ixZ p_value.items 2).int) ((ixZ p_value.items 3).int) ((ixZ p_value.items 4).int))))))) fun h15 => (pb_seq_skip (pb_seq_if (Q := (RQ .pure S (fun (z : Bool) => (eB z, S)))) (p := false) (q := (P_hangsOnOthers p_table ((P_judgeArrow_v1 p_value).int) ((P_judgeArrow_v2 p_value).int) ((P_judgeArrow_v3 p_value).int) ((P_judgeArrow_v4 p_value).int) ((P_judgeArrow_v5 p_value).int) ((P_judgeArrow_v6 p_value).int))) (or_E (tv_of (bin_of (ix_A rfl rfl ((((h.2 h4).2.2.2 h6).2.2 h13).2.2.2 h15).1 ((((h.2 h4).2.2.2 h6).2.2 h13).2.2.2 h15).2.1) rfl (ne_D (k := 32) (l := 32) ((fit_up (fit_A (k := 0)) (by decide)) (ixZ p_value.items 0)) (fit_S sx_not_alone_2) (by decide) (by decide)))) fun h17 => (tv_of (bin_of (len_A rfl (((((h.2 h4).2.2.2 h6).2.2 h13).2.2.2 h15).2.2.1 h17)) rfl (ne_E (en := eI) (p := (p_value.items.length : Int)) (q := 7) eqv_I)))) (fun h18 => (pb_seq_ret rfl (fin_pure (d := eB false) (fit_B false)))) fun h19 => (pb_seq_skip (pb_seq (e1 := [some ((eT eI) p_table), some (eA p_value), some (eA (P_judgeArrow_v1 p_value)), some (eA (P_judgeArrow_v2 p_value)), some (eA (P_judgeArrow_v3 p_value)), some (eA (P_judgeArrow_v4 p_value)), some (eA (P_judgeArrow_v5 p_value)), some (eA (P_judgeArrow_v6 p_value))]) (asg_tpT6 (sl_T (coT rfl (((((h.2 h4).2.2.2 h6).2.2 h13).2.2.2 h15).2.2.2 h19).1) (o1_of rfl) rfl) (((((h.2 h4).2.2.2 h6).2.2 h13).2.2.2 h15).2.2.2 h19).2.1) (pb_ret (call_of (cons_of rfl (cons_of (coI rfl (((((h.2 h4).2.2.2 h6).2.2 h13).2.2.2 h15).2.2.2 h19).2.2.1) (cons_of (coI rfl (((((h.2 h4).2.2.2 h6).2.2 h13).2.2.2 h15).2.2.2 h19).2.2.2.1) (cons_of (coI rfl (((((h.2 h4).2.2.2 h6).2.2 h13).2.2.2 h15).2.2.2 h19).2.2.2.2.1) (cons_of (coI rfl (((((h.2 h4).2.2.2 h6).2.2 h13).2.2.2 h15).2.2.2 h19).2.2.2.2.2.1) (cons_of (coI rfl (((((h.2 h4).2.2.2 h6).2.2 h13).2.2.2 h15).2.2.2 h19).2.2.2.2.2.2.1) (cons_of (coI rfl (((((h.2 h4).2.2.2 h6).2.2 h13).2.2.2 h15).2.2.2 h19).2.2.2.2.2.2.2.1) nil_of))))))) (P_hangsOnOthers_eq p_table ((P_judgeArrow_v1 p_value).int) ((P_judgeArrow_v2 p_value).int) ((P_judgeArrow_v3 p_value).int) ((P_judgeArrow_v4 p_value).int) ((P_judgeArrow_v5 p_value).int) ((P_judgeArrow_v6 p_value).int) (((((h.2 h4).2.2.2 h6).2.2 h13).2.2.2 h15).2.2.2 h19).2.2.2.2.2.2.2.2 _)) (fin_pure (d := eB (P_hangsOnOthers p_table ((P_judgeArrow_v1 p_value).int) ((P_judgeArrow_v2 p_value).int) ((P_judgeArrow_v3 p_value).int) ((P_judgeArrow_v4 p_value).int) ((P_judgeArrow_v5 p_value).int) ((P_judgeArrow_v6 p_value).int))) (fit_B (P_hangsOnOthers p_table ((P_judgeArrow_v1 p_value).int) ((P_judgeArrow_v2 p_value).int) ((P_judgeArrow_v3 p_value).int) ((P_judgeArrow_v4 p_value).int) ((P_judgeArrow_v5 p_value).int) ((P_judgeArrow_v6 p_value).int)))))))))))))))))
def P_choosesAlone (p_table : (List Int)) (p_v : Int) : Bool := ((((rngZ 0 6).filter fun x1 => true).flatMap fun x1 => ((rngZ 0 6).filter fun x4 => true).map fun x4 => decide ((ixZ p_table ((6 * x1) + x4)) = (ixZ (ixZ k_ORDERS (ixZ [(x1, x4).1, (x1, x4).2] p_v)) 0))).all id)
def Ok_choosesAlone (p_table : (List Int)) (p_v : Int) : Prop := (∀ x1 ∈ (rngZ 0 6), (∀ x4 ∈ (rngZ 0 6), (InR p_table ((6 * x1) + x4)) ∧ (InR [(x1, x4).1, (x1, x4).2] p_v) ∧ (InR k_ORDERS (ixZ [(x1, x4).1, (x1, x4).2] p_v)) ∧ (InR (ixZ k_ORDERS (ixZ [(x1, x4).1, (x1, x4).2] p_v)) 0))) ∧ ((((rngZ 0 6).filter fun x1 => true).flatMap fun x1 => ((rngZ 0 6).filter fun x4 => true).map fun x4 => decide ((ixZ p_table ((6 * x1) + x4)) = (ixZ (ixZ k_ORDERS (ixZ [(x1, x4).1, (x1, x4).2] p_v)) 0))).length ≤ LIM)
theorem P_choosesAlone_eq (p_table : (List Int)) (p_v : Int) (h : Ok_choosesAlone p_table p_v) (S : Store) : M_choosesAlone [(eT eI) p_table, eI p_v] S = some (eB (P_choosesAlone p_table p_v), S) := by
  unfold P_choosesAlone
  exact fn_P (ρ := (fun (z : Bool) => (eB z, S))) rfl ((pb_ret (all_E (val_E (lc2_E (en := eI) (en2 := eI) (en3 := eB) (xs := (rngZ 0 6)) (p := fun x1 => true) (ys := fun x1 => (rngZ 0 6)) (q := fun x1 x4 => true) (f := fun x1 x4 => decide ((ixZ p_table ((6 * x1) + x4)) = (ixZ (ixZ k_ORDERS (ixZ [(x1, x4).1, (x1, x4).2] p_v)) 0))) (src_rg1 rfl (by decide)) h.2 fun x1 h2 => ⟨_, rfl, rfl, fun h3 => ⟨(src_rg1 rfl (by decide)), fun x4 h5 => ⟨_, rfl, rfl, fun h6 => (bin_of (ix_T rfl (bin_of (bin_of rfl rfl (mul_of (.inl (by decide)))) rfl r_add) ((h.1 x1 h2) x4 h5).1) (ix_T (en := eI) (xs := (ixZ k_ORDERS (ixZ [(x1, x4).1, (x1, x4).2] p_v))) (ix_T rfl (ix_T (en := eI) (xs := [(x1, x4).1, (x1, x4).2]) (tup_of (cons_of rfl (cons_of rfl nil_of)) (Nat.le_of_ble_eq_true rfl)) rfl ((h.1 x1 h2) x4 h5).2.1) ((h.1 x1 h2) x4 h5).2.2.1) rfl ((h.1 x1 h2) x4 h5).2.2.2) (eq_E (en := eI) (p := (ixZ p_table ((6 * x1) + x4))) (q := (ixZ (ixZ k_ORDERS (ixZ [(x1, x4).1, (x1, x4).2] p_v)) 0)) eqv_I))⟩⟩⟩)) rfl) (fin_pure (d := eB ((((rngZ 0 6).filter fun x1 => true).flatMap fun x1 => ((rngZ 0 6).filter fun x4 => true).map fun x4 => decide ((ixZ p_table ((6 * x1) + x4)) = (ixZ (ixZ k_ORDERS (ixZ [(x1, x4).1, (x1, x4).2] p_v)) 0))).all id)) (fit_B ((((rngZ 0 6).filter fun x1 => true).flatMap fun x1 => ((rngZ 0 6).filter fun x4 => true).map fun x4 => decide ((ixZ p_table ((6 * x1) + x4)) = (ixZ (ixZ k_ORDERS (ixZ [(x1, x4).1, (x1, x4).2] p_v)) 0))).all id)))))
def P_doesGain_v1 (p_table : (List Int)) (p_v : Int) (p_p : Int) (p_q : Int) (p_r : Int) : Int := (bif decide (p_v = 0) then (ixZ p_table ((6 * p_r) + p_q)) else (ixZ p_table ((6 * p_p) + p_r)))
def P_doesGain (p_table : (List Int)) (p_v : Int) (p_p : Int) (p_q : Int) (p_r : Int) : Bool := ((!decide ((ixZ p_table ((6 * p_p) + p_q)) = (P_doesGain_v1 p_table p_v p_p p_q p_r))) && (P_isAhead (ixZ [(p_p, p_q).1, (p_p, p_q).2] p_v) (P_doesGain_v1 p_table p_v p_p p_q p_r) (ixZ p_table ((6 * p_p) + p_q))))
def Ok_doesGain (p_table : (List Int)) (p_v : Int) (p_p : Int) (p_q : Int) (p_r : Int) : Prop := (InR [(p_p, p_q).1, (p_p, p_q).2] p_v) ∧ (InR p_table ((6 * p_p) + p_q)) ∧ ((decide (p_v = 0)) = true → (InR p_table ((6 * p_r) + p_q))) ∧ ((decide (p_v = 0)) = false → (InR p_table ((6 * p_p) + p_r))) ∧ ((!decide ((ixZ p_table ((6 * p_p) + p_q)) = (P_doesGain_v1 p_table p_v p_p p_q p_r))) = true → (Ok_isAhead (ixZ [(p_p, p_q).1, (p_p, p_q).2] p_v) (P_doesGain_v1 p_table p_v p_p p_q p_r) (ixZ p_table ((6 * p_p) + p_q))))
theorem P_doesGain_eq (p_table : (List Int)) (p_v : Int) (p_p : Int) (p_q : Int) (p_r : Int) (h : Ok_doesGain p_table p_v p_p p_q p_r) (S : Store) : M_doesGain [(eT eI) p_table, eI p_v, eI p_p, eI p_q, eI p_r] S = some (eB (P_doesGain p_table p_v p_p p_q p_r), S) := by
  unfold P_doesGain
  exact fn_P (ρ := (fun (z : Bool) => (eB z, S))) rfl ((pb_seq (e1 := [some ((eT eI) p_table), some (eI p_v), some (eI p_p), some (eI p_q), some (eI p_r), some (eI (ixZ [(p_p, p_q).1, (p_p, p_q).2] p_v)), none, none]) (asg_of (ix_T (en := eI) (xs := [(p_p, p_q).1, (p_p, p_q).2]) (tup_of (cons_of rfl (cons_of rfl nil_of)) (Nat.le_of_ble_eq_true rfl)) rfl h.1)) (pb_seq (e1 := [some ((eT eI) p_table), some (eI p_v), some (eI p_p), some (eI p_q), some (eI p_r), some (eI (ixZ [(p_p, p_q).1, (p_p, p_q).2] p_v)), some (eI (ixZ p_table ((6 * p_p) + p_q))), none]) (asg_of (ix_T rfl (bin_of (bin_of rfl rfl (mul_of (.inl (by decide)))) rfl r_add) h.2.1)) (pb_seq (e1 := [some ((eT eI) p_table), some (eI p_v), some (eI p_p), some (eI p_q), some (eI p_r), some (eI (ixZ [(p_p, p_q).1, (p_p, p_q).2] p_v)), some (eI (ixZ p_table ((6 * p_p) + p_q))), some (eI (P_doesGain_v1 p_table p_v p_p p_q p_r))]) (asg_of (if_E (p := (ixZ p_table ((6 * p_r) + p_q))) (q := (ixZ p_table ((6 * p_p) + p_r))) (en := eI) (tv_of (bin_of rfl rfl (eq_E (en := eI) (p := p_v) (q := 0) eqv_I))) (fun h1 => (ix_T rfl (bin_of (bin_of rfl rfl (mul_of (.inl (by decide)))) rfl r_add) (h.2.2.1 h1))) fun h2 => (ix_T rfl (bin_of (bin_of rfl rfl (mul_of (.inl (by decide)))) rfl r_add) (h.2.2.2.1 h2)))) (pb_ret (andv_E (bin_of rfl rfl (ne_E (en := eI) (p := (ixZ p_table ((6 * p_p) + p_q))) (q := (P_doesGain_v1 p_table p_v p_p p_q p_r)) eqv_I)) fun h3 => (call_of (cons_of rfl (cons_of rfl (cons_of rfl nil_of))) (P_isAhead_eq (ixZ [(p_p, p_q).1, (p_p, p_q).2] p_v) (P_doesGain_v1 p_table p_v p_p p_q p_r) (ixZ p_table ((6 * p_p) + p_q)) (h.2.2.2.2 h3) _))) (fin_pure (d := eB ((!decide ((ixZ p_table ((6 * p_p) + p_q)) = (P_doesGain_v1 p_table p_v p_p p_q p_r))) && (P_isAhead (ixZ [(p_p, p_q).1, (p_p, p_q).2] p_v) (P_doesGain_v1 p_table p_v p_p p_q p_r) (ixZ p_table ((6 * p_p) + p_q))))) (fit_B ((!decide ((ixZ p_table ((6 * p_p) + p_q)) = (P_doesGain_v1 p_table p_v p_p p_q p_r))) && (P_isAhead (ixZ [(p_p, p_q).1, (p_p, p_q).2] p_v) (P_doesGain_v1 p_table p_v p_p p_q p_r) (ixZ p_table ((6 * p_p) + p_q)))))))))))
def P_choicePaper_s1 (p_table : (List Int)) (x3 : Int) : (Lo Unit AV) := (bif (P_choosesAlone p_table x3) then (.rt (mkA ((eP2 eS eI) (sx_one_chooses_3, x3)))) else (.nx ()))
def Ok_choicePaper_2 (p_table : (List Int)) (x3 : Int) : Prop := (Ok_choosesAlone p_table x3) ∧ ((P_choosesAlone p_table x3) = true → (D.av 9 ((eP2 eS eI) (sx_one_chooses_3, x3)) = true))
def P_choicePaper_l3 (p_table : (List Int)) : (Lo Unit AV) := (forP (fun (t1 : Unit) (x3 : Int) => ((P_choicePaper_s1 p_table x3) : (Lo Unit AV))) () (rngZ 0 2))
def P_choicePaper_s4 (p_table : (List Int)) (x12 : Int) : (Lo Unit AV) := (bif (!decide (x12 ∈ p_table)) then (.rt (mkA ((eP2 eS eI) (sx_never, x12)))) else (.nx ()))
def Ok_choicePaper_5 (p_table : (List Int)) (x12 : Int) : Prop := ((!decide (x12 ∈ p_table)) = true → (D.av 9 ((eP2 eS eI) (sx_never, x12)) = true))
def P_choicePaper_l6 (p_table : (List Int)) : (Lo Unit AV) := (forP (fun (t10 : Unit) (x12 : Int) => ((P_choicePaper_s4 p_table x12) : (Lo Unit AV))) () (rngZ 0 3))
def P_choicePaper_s7 (p_table : (List Int)) (x21 : Int) (x25 : Int) (x29 : Int) (x33 : Int) : (Lo Unit (Lo Unit (Lo Unit (Lo Unit AV)))) := (bif (P_doesGain p_table x21 x25 x29 x33) then (.rt (.rt (.rt (.rt (mkA ((eP5 eS eI eI eI eI) (sx_gains, x21, x25, x29, x33))))))) else (.nx ()))
def Ok_choicePaper_8 (p_table : (List Int)) (x21 : Int) (x25 : Int) (x29 : Int) (x33 : Int) : Prop := (Ok_doesGain p_table x21 x25 x29 x33) ∧ ((P_doesGain p_table x21 x25 x29 x33) = true → (D.av 9 ((eP5 eS eI eI eI eI) (sx_gains, x21, x25, x29, x33)) = true))
def P_choicePaper_l9 (p_table : (List Int)) (x21 : Int) (x25 : Int) (x29 : Int) : (Lo Unit (Lo Unit (Lo Unit (Lo Unit AV)))) := (forP (fun (t31 : Unit) (x33 : Int) => ((P_choicePaper_s7 p_table x21 x25 x29 x33) : (Lo Unit (Lo Unit (Lo Unit (Lo Unit AV)))))) () (rngZ 0 6))
def P_choicePaper_s10 (p_table : (List Int)) (x21 : Int) (x25 : Int) (x29 : Int) : (Lo Unit (Lo Unit (Lo Unit AV))) := ((P_choicePaper_l9 p_table x21 x25 x29).fin (fun (t37 : Unit) => (.nx ())))
def Ok_choicePaper_11 (p_table : (List Int)) (x21 : Int) (x25 : Int) (x29 : Int) : Prop := (okFor (fun (t31 : Unit) (x33 : Int) => (Ok_choicePaper_8 p_table x21 x25 x29 x33)) (fun (t31 : Unit) (x33 : Int) => ((P_choicePaper_s7 p_table x21 x25 x29 x33) : (Lo Unit (Lo Unit (Lo Unit (Lo Unit AV)))))) () (rngZ 0 6))
def P_choicePaper_l12 (p_table : (List Int)) (x21 : Int) (x25 : Int) : (Lo Unit (Lo Unit (Lo Unit AV))) := (forP (fun (t27 : Unit) (x29 : Int) => ((P_choicePaper_s10 p_table x21 x25 x29) : (Lo Unit (Lo Unit (Lo Unit AV))))) () (rngZ 0 6))
def P_choicePaper_s13 (p_table : (List Int)) (x21 : Int) (x25 : Int) : (Lo Unit (Lo Unit AV)) := ((P_choicePaper_l12 p_table x21 x25).fin (fun (t40 : Unit) => (.nx ())))
def Ok_choicePaper_14 (p_table : (List Int)) (x21 : Int) (x25 : Int) : Prop := (okFor (fun (t27 : Unit) (x29 : Int) => (Ok_choicePaper_11 p_table x21 x25 x29)) (fun (t27 : Unit) (x29 : Int) => ((P_choicePaper_s10 p_table x21 x25 x29) : (Lo Unit (Lo Unit (Lo Unit AV))))) () (rngZ 0 6))
def P_choicePaper_l15 (p_table : (List Int)) (x21 : Int) : (Lo Unit (Lo Unit AV)) := (forP (fun (t23 : Unit) (x25 : Int) => ((P_choicePaper_s13 p_table x21 x25) : (Lo Unit (Lo Unit AV)))) () (rngZ 0 6))
def P_choicePaper_s16 (p_table : (List Int)) (x21 : Int) : (Lo Unit AV) := ((P_choicePaper_l15 p_table x21).fin (fun (t43 : Unit) => (.nx ())))
def Ok_choicePaper_17 (p_table : (List Int)) (x21 : Int) : Prop := (okFor (fun (t23 : Unit) (x25 : Int) => (Ok_choicePaper_14 p_table x21 x25)) (fun (t23 : Unit) (x25 : Int) => ((P_choicePaper_s13 p_table x21 x25) : (Lo Unit (Lo Unit AV)))) () (rngZ 0 6))
def P_choicePaper_l18 (p_table : (List Int)) : (Lo Unit AV) := (forP (fun (t19 : Unit) (x21 : Int) => ((P_choicePaper_s16 p_table x21) : (Lo Unit AV))) () (rngZ 0 2))
def P_choicePaper_k19 (p_table : (List Int)) : AV := ((P_choicePaper_l18 p_table).fin (fun (t46 : Unit) => (mkA (eN ()))))
def P_choicePaper_k20 (p_table : (List Int)) : AV := ((P_choicePaper_l6 p_table).fin (fun (t16 : Unit) => (P_choicePaper_k19 p_table)))
def P_choicePaper (p_table : (List Int)) : AV := ((P_choicePaper_l3 p_table).fin (fun (t7 : Unit) => (P_choicePaper_k20 p_table)))
def Ok_choicePaper (p_table : (List Int)) : Prop := (okFor (fun (t1 : Unit) (x3 : Int) => (Ok_choicePaper_2 p_table x3)) (fun (t1 : Unit) (x3 : Int) => ((P_choicePaper_s1 p_table x3) : (Lo Unit AV))) () (rngZ 0 2)) ∧ (∀ (t7 : Unit), (P_choicePaper_l3 p_table) = .nx t7 → (okFor (fun (t10 : Unit) (x12 : Int) => (Ok_choicePaper_5 p_table x12)) (fun (t10 : Unit) (x12 : Int) => ((P_choicePaper_s4 p_table x12) : (Lo Unit AV))) () (rngZ 0 3)) ∧ (∀ (t16 : Unit), (P_choicePaper_l6 p_table) = .nx t16 → (okFor (fun (t19 : Unit) (x21 : Int) => (Ok_choicePaper_17 p_table x21)) (fun (t19 : Unit) (x21 : Int) => ((P_choicePaper_s16 p_table x21) : (Lo Unit AV))) () (rngZ 0 2)) ∧ (∀ (t46 : Unit), (P_choicePaper_l18 p_table) = .nx t46 → (D.av 9 (eN ()) = true))))
theorem P_choicePaper_eq (p_table : (List Int)) (h : Ok_choicePaper p_table) (S : Store) : M_choicePaper [(eT eI) p_table] S = some (eA (P_choicePaper p_table), S) := by
  unfold P_choicePaper
  exact fn_P (ρ := (fun (z : AV) => (eA z, S))) rfl ((pb_for_P (QR := (RQ .pure S (fun (z : AV) => (eA z, S)))) (E := (fun (t : Unit) (j : (Option D)) => [some ((eT eI) p_table), j, none, none, none, none])) (σ := (fun (t : Unit) (j : (Option D)) => S)) (step := (fun (t1 : Unit) (x3 : Int) => ((P_choicePaper_s1 p_table x3) : (Lo Unit AV)))) (ok := (fun (t1 : Unit) (x3 : Int) => (Ok_choicePaper_2 p_table x3))) (k := (fun (t7 : Unit) => (P_choicePaper_k20 p_table))) (t0 := ()) (j0 := none) (en := eI) (xs := (rngZ 0 2)) (src_rg1 rfl (by decide)) rfl rfl h.1 (fun t1 j2 x3 h4 => ⟨_, rfl, (pb_if (Q := (LQ (fun (t : Unit) (j : (Option D)) => [some ((eT eI) p_table), j, none, none, none, none]) (fun (t : Unit) (j : (Option D)) => S) (RQ .pure S (fun (z : AV) => (eA z, S))))) (p := (.rt (mkA ((eP2 eS eI) (sx_one_chooses_3, x3))))) (q := (.nx ())) (tru_of' (call_of (cons_of rfl (cons_of rfl nil_of)) (P_choosesAlone_eq p_table x3 h4.1 _)) tr_bl) (fun h5 => (pb_ret (coA (tup_of (cons_of rfl (cons_of rfl nil_of)) (Nat.le_of_ble_eq_true rfl)) (h4.2 h5)) ⟨⟨_, rfl⟩, (fin_pure (d := eA (mkA ((eP2 eS eI) (sx_one_chooses_3, x3)))) ((fit_up (fit_A (k := 0)) (by decide)) (mkA ((eP2 eS eI) (sx_one_chooses_3, x3)))))⟩)) fun h6 => (pb_skip ⟨some (eI x3), .inl rfl, rfl⟩))⟩) fun t7 j8 h9 => (pb_for_P (QR := (RQ .pure S (fun (z : AV) => (eA z, S)))) (E := (fun (t : Unit) (j : (Option D)) => [some ((eT eI) p_table), j8, j, none, none, none])) (σ := (fun (t : Unit) (j : (Option D)) => S)) (step := (fun (t10 : Unit) (x12 : Int) => ((P_choicePaper_s4 p_table x12) : (Lo Unit AV)))) (ok := (fun (t10 : Unit) (x12 : Int) => (Ok_choicePaper_5 p_table x12))) (k := (fun (t16 : Unit) => (P_choicePaper_k19 p_table))) (t0 := ()) (j0 := none) (en := eI) (xs := (rngZ 0 3)) (src_rg1 rfl (by decide)) rfl rfl (h.2 t7 h9).1 (fun t10 j11 x12 h13 => ⟨_, rfl, (pb_if (Q := (LQ (fun (t : Unit) (j : (Option D)) => [some ((eT eI) p_table), j8, j, none, none, none]) (fun (t : Unit) (j : (Option D)) => S) (RQ .pure S (fun (z : AV) => (eA z, S))))) (p := (.rt (mkA ((eP2 eS eI) (sx_never, x12))))) (q := (.nx ())) (tv_of (bin_of rfl rfl (nin_E eqv_I rfl))) (fun h14 => (pb_ret (coA (tup_of (cons_of rfl (cons_of rfl nil_of)) (Nat.le_of_ble_eq_true rfl)) (h13 h14)) ⟨⟨_, rfl⟩, (fin_pure (d := eA (mkA ((eP2 eS eI) (sx_never, x12)))) ((fit_up (fit_A (k := 0)) (by decide)) (mkA ((eP2 eS eI) (sx_never, x12)))))⟩)) fun h15 => (pb_skip ⟨some (eI x12), .inl rfl, rfl⟩))⟩) fun t16 j17 h18 => (pb_for_P (QR := (RQ .pure S (fun (z : AV) => (eA z, S)))) (E := (fun (t : Unit) (j : ((Option D) × (Option D) × (Option D) × (Option D))) => [some ((eT eI) p_table), j.1, j17, j.2.1, j.2.2.1, j.2.2.2])) (σ := (fun (t : Unit) (j : ((Option D) × (Option D) × (Option D) × (Option D))) => S)) (step := (fun (t19 : Unit) (x21 : Int) => ((P_choicePaper_s16 p_table x21) : (Lo Unit AV)))) (ok := (fun (t19 : Unit) (x21 : Int) => (Ok_choicePaper_17 p_table x21))) (k := (fun (t46 : Unit) => (mkA (eN ())))) (t0 := ()) (j0 := (j8, none, none, none)) (en := eI) (xs := (rngZ 0 2)) (src_rg1 rfl (by decide)) rfl rfl ((h.2 t7 h9).2 t16 h18).1 (fun t19 j20 x21 h22 => ⟨_, rfl, (pb_for_P_end (QR := (LQ (fun (t : Unit) (j : ((Option D) × (Option D) × (Option D) × (Option D))) => [some ((eT eI) p_table), j.1, j17, j.2.1, j.2.2.1, j.2.2.2]) (fun (t : Unit) (j : ((Option D) × (Option D) × (Option D) × (Option D))) => S) (RQ .pure S (fun (z : AV) => (eA z, S))))) (E := (fun (t : Unit) (j : ((Option D) × (Option D) × (Option D))) => [some ((eT eI) p_table), some (eI x21), j17, j.1, j.2.1, j.2.2])) (σ := (fun (t : Unit) (j : ((Option D) × (Option D) × (Option D))) => S)) (step := (fun (t23 : Unit) (x25 : Int) => ((P_choicePaper_s13 p_table x21 x25) : (Lo Unit (Lo Unit AV))))) (ok := (fun (t23 : Unit) (x25 : Int) => (Ok_choicePaper_14 p_table x21 x25))) (k := (fun (t43 : Unit) => (.nx ()))) (t0 := ()) (j0 := (j20.2.1, j20.2.2.1, j20.2.2.2)) (en := eI) (xs := (rngZ 0 6)) (src_rg1 rfl (by decide)) rfl rfl h22 (fun t23 j24 x25 h26 => ⟨_, rfl, (pb_for_P_end (QR := (LQ (fun (t : Unit) (j : ((Option D) × (Option D) × (Option D))) => [some ((eT eI) p_table), some (eI x21), j17, j.1, j.2.1, j.2.2]) (fun (t : Unit) (j : ((Option D) × (Option D) × (Option D))) => S) (LQ (fun (t : Unit) (j : ((Option D) × (Option D) × (Option D) × (Option D))) => [some ((eT eI) p_table), j.1, j17, j.2.1, j.2.2.1, j.2.2.2]) (fun (t : Unit) (j : ((Option D) × (Option D) × (Option D) × (Option D))) => S) (RQ .pure S (fun (z : AV) => (eA z, S)))))) (E := (fun (t : Unit) (j : ((Option D) × (Option D))) => [some ((eT eI) p_table), some (eI x21), j17, some (eI x25), j.1, j.2])) (σ := (fun (t : Unit) (j : ((Option D) × (Option D))) => S)) (step := (fun (t27 : Unit) (x29 : Int) => ((P_choicePaper_s10 p_table x21 x25 x29) : (Lo Unit (Lo Unit (Lo Unit AV)))))) (ok := (fun (t27 : Unit) (x29 : Int) => (Ok_choicePaper_11 p_table x21 x25 x29))) (k := (fun (t40 : Unit) => (.nx ()))) (t0 := ()) (j0 := (j24.2.1, j24.2.2)) (en := eI) (xs := (rngZ 0 6)) (src_rg1 rfl (by decide)) rfl rfl h26 (fun t27 j28 x29 h30 => ⟨_, rfl, (pb_for_P_end (QR := (LQ (fun (t : Unit) (j : ((Option D) × (Option D))) => [some ((eT eI) p_table), some (eI x21), j17, some (eI x25), j.1, j.2]) (fun (t : Unit) (j : ((Option D) × (Option D))) => S) (LQ (fun (t : Unit) (j : ((Option D) × (Option D) × (Option D))) => [some ((eT eI) p_table), some (eI x21), j17, j.1, j.2.1, j.2.2]) (fun (t : Unit) (j : ((Option D) × (Option D) × (Option D))) => S) (LQ (fun (t : Unit) (j : ((Option D) × (Option D) × (Option D) × (Option D))) => [some ((eT eI) p_table), j.1, j17, j.2.1, j.2.2.1, j.2.2.2]) (fun (t : Unit) (j : ((Option D) × (Option D) × (Option D) × (Option D))) => S) (RQ .pure S (fun (z : AV) => (eA z, S))))))) (E := (fun (t : Unit) (j : (Option D)) => [some ((eT eI) p_table), some (eI x21), j17, some (eI x25), some (eI x29), j])) (σ := (fun (t : Unit) (j : (Option D)) => S)) (step := (fun (t31 : Unit) (x33 : Int) => ((P_choicePaper_s7 p_table x21 x25 x29 x33) : (Lo Unit (Lo Unit (Lo Unit (Lo Unit AV))))))) (ok := (fun (t31 : Unit) (x33 : Int) => (Ok_choicePaper_8 p_table x21 x25 x29 x33))) (k := (fun (t37 : Unit) => (.nx ()))) (t0 := ()) (j0 := j28.2) (en := eI) (xs := (rngZ 0 6)) (src_rg1 rfl (by decide)) rfl rfl h30 (fun t31 j32 x33 h34 => ⟨_, rfl, (pb_if (Q := (LQ (fun (t : Unit) (j : (Option D)) => [some ((eT eI) p_table), some (eI x21), j17, some (eI x25), some (eI x29), j]) (fun (t : Unit) (j : (Option D)) => S) (LQ (fun (t : Unit) (j : ((Option D) × (Option D))) => [some ((eT eI) p_table), some (eI x21), j17, some (eI x25), j.1, j.2]) (fun (t : Unit) (j : ((Option D) × (Option D))) => S) (LQ (fun (t : Unit) (j : ((Option D) × (Option D) × (Option D))) => [some ((eT eI) p_table), some (eI x21), j17, j.1, j.2.1, j.2.2]) (fun (t : Unit) (j : ((Option D) × (Option D) × (Option D))) => S) (LQ (fun (t : Unit) (j : ((Option D) × (Option D) × (Option D) × (Option D))) => [some ((eT eI) p_table), j.1, j17, j.2.1, j.2.2.1, j.2.2.2]) (fun (t : Unit) (j : ((Option D) × (Option D) × (Option D) × (Option D))) => S) (RQ .pure S (fun (z : AV) => (eA z, S)))))))) (p := (.rt (.rt (.rt (.rt (mkA ((eP5 eS eI eI eI eI) (sx_gains, x21, x25, x29, x33)))))))) (q := (.nx ())) (tru_of' (call_of (cons_of rfl (cons_of rfl (cons_of rfl (cons_of rfl (cons_of rfl nil_of))))) (P_doesGain_eq p_table x21 x25 x29 x33 h34.1 _)) tr_bl) (fun h35 => (pb_ret (coA (tup_of (cons_of rfl (cons_of rfl (cons_of rfl (cons_of rfl (cons_of rfl nil_of))))) (Nat.le_of_ble_eq_true rfl)) (h34.2 h35)) ⟨⟨_, rfl⟩, ⟨⟨_, rfl⟩, ⟨⟨_, rfl⟩, ⟨⟨_, rfl⟩, (fin_pure (d := eA (mkA ((eP5 eS eI eI eI eI) (sx_gains, x21, x25, x29, x33)))) ((fit_up (fit_A (k := 0)) (by decide)) (mkA ((eP5 eS eI eI eI eI) (sx_gains, x21, x25, x29, x33)))))⟩⟩⟩⟩)) fun h36 => (pb_skip ⟨some (eI x33), .inl rfl, rfl⟩))⟩) fun t37 j38 h39 => ⟨(some (eI x29), j38), .inl rfl, rfl⟩)⟩) fun t40 j41 h42 => ⟨(some (eI x25), j41.1, j41.2), .inl rfl, rfl⟩)⟩) fun t43 j44 h45 => ⟨(some (eI x21), j44.1, j44.2.1, j44.2.2), .inl rfl, rfl⟩)⟩) fun t46 j47 h48 => (pb_ret (coA rfl (((h.2 t7 h9).2 t16 h18).2 t46 h48)) (fin_pure (d := eA (mkA (eN ()))) ((fit_up (fit_A (k := 0)) (by decide)) (mkA (eN ())))))))))
def P_judgeChoice (p_table : (List Int)) (p_value : AV) : Bool := (bif ((!p_value.isTup) || ((!decide ((p_value.items.length : Int) ∈ [(2, 5).1, (2, 5).2])) || (!((ixZ p_value.items 0).isStr)))) then false else (bif (deq (eA (ixZ p_value.items 0)) (eS sx_one_chooses_3)) then (decide ((p_value.items.length : Int) = 2) && ((P_areNumbers (cutZ p_value.items (some 1) none) 2) && (P_choosesAlone p_table ((ixZ p_value.items 1).int)))) else (bif (deq (eA (ixZ p_value.items 0)) (eS sx_never)) then (decide ((p_value.items.length : Int) = 2) && ((P_areNumbers (cutZ p_value.items (some 1) none) 3) && (!(p_table.any fun z => deq (eI z) (eA (ixZ p_value.items 1)))))) else (bif ((!(deq (eA (ixZ p_value.items 0)) (eS sx_gains))) || ((!decide ((p_value.items.length : Int) = 5)) || ((!(P_areNumbers (cutZ p_value.items (some 1) (some 2)) 2)) || (!(P_areNumbers (cutZ p_value.items (some 2) none) 6))))) then false else (P_doesGain p_table ((ixZ p_value.items 1).int) ((ixZ p_value.items 2).int) ((ixZ p_value.items 3).int) ((ixZ p_value.items 4).int))))))
def Ok_judgeChoice (p_table : (List Int)) (p_value : AV) : Prop := ((!p_value.isTup) = false → (p_value.isTup = true) ∧ ((!decide ((p_value.items.length : Int) ∈ [(2, 5).1, (2, 5).2])) = false → (p_value.isTup = true) ∧ (InR p_value.items 0))) ∧ (((!p_value.isTup) || ((!decide ((p_value.items.length : Int) ∈ [(2, 5).1, (2, 5).2])) || (!((ixZ p_value.items 0).isStr)))) = false → (p_value.isTup = true) ∧ (InR p_value.items 0) ∧ ((deq (eA (ixZ p_value.items 0)) (eS sx_one_chooses_3)) = true → (p_value.isTup = true) ∧ ((decide ((p_value.items.length : Int) = 2)) = true → (p_value.isTup = true) ∧ (Ok_areNumbers (cutZ p_value.items (some 1) none) 2) ∧ ((P_areNumbers (cutZ p_value.items (some 1) none) 2) = true → (p_value.isTup = true) ∧ (InR p_value.items 1) ∧ ((ixZ p_value.items 1).isI = true) ∧ (Ok_choosesAlone p_table ((ixZ p_value.items 1).int))))) ∧ ((deq (eA (ixZ p_value.items 0)) (eS sx_one_chooses_3)) = false → (p_value.isTup = true) ∧ (InR p_value.items 0) ∧ ((deq (eA (ixZ p_value.items 0)) (eS sx_never)) = true → (p_value.isTup = true) ∧ ((decide ((p_value.items.length : Int) = 2)) = true → (p_value.isTup = true) ∧ (Ok_areNumbers (cutZ p_value.items (some 1) none) 3) ∧ ((P_areNumbers (cutZ p_value.items (some 1) none) 3) = true → (p_value.isTup = true) ∧ (InR p_value.items 1)))) ∧ ((deq (eA (ixZ p_value.items 0)) (eS sx_never)) = false → (p_value.isTup = true) ∧ (InR p_value.items 0) ∧ ((!(deq (eA (ixZ p_value.items 0)) (eS sx_gains))) = false → (p_value.isTup = true) ∧ ((!decide ((p_value.items.length : Int) = 5)) = false → (p_value.isTup = true) ∧ (Ok_areNumbers (cutZ p_value.items (some 1) (some 2)) 2) ∧ ((!(P_areNumbers (cutZ p_value.items (some 1) (some 2)) 2)) = false → (p_value.isTup = true) ∧ (Ok_areNumbers (cutZ p_value.items (some 2) none) 6)))) ∧ (((!(deq (eA (ixZ p_value.items 0)) (eS sx_gains))) || ((!decide ((p_value.items.length : Int) = 5)) || ((!(P_areNumbers (cutZ p_value.items (some 1) (some 2)) 2)) || (!(P_areNumbers (cutZ p_value.items (some 2) none) 6))))) = false → (p_value.isTup = true) ∧ (InR p_value.items 1) ∧ ((ixZ p_value.items 1).isI = true) ∧ (InR p_value.items 2) ∧ ((ixZ p_value.items 2).isI = true) ∧ (InR p_value.items 3) ∧ ((ixZ p_value.items 3).isI = true) ∧ (InR p_value.items 4) ∧ ((ixZ p_value.items 4).isI = true) ∧ (Ok_doesGain p_table ((ixZ p_value.items 1).int) ((ixZ p_value.items 2).int) ((ixZ p_value.items 3).int) ((ixZ p_value.items 4).int))))))
theorem P_judgeChoice_eq (p_table : (List Int)) (p_value : AV) (h : Ok_judgeChoice p_table p_value) (S : Store) : M_judgeChoice [(eT eI) p_table, eA p_value] S = some (eB (P_judgeChoice p_table p_value), S) := by
  unfold P_judgeChoice
  exact fn_P (ρ := (fun (z : Bool) => (eB z, S))) rfl ((pb_seq_if (Q := (RQ .pure S (fun (z : Bool) => (eB z, S)))) (p := false) (q := (bif (deq (eA (ixZ p_value.items 0)) (eS sx_one_chooses_3)) then (decide ((p_value.items.length : Int) = 2) && ((P_areNumbers (cutZ p_value.items (some 1) none) 2) && (P_choosesAlone p_table ((ixZ p_value.items 1).int)))) else (bif (deq (eA (ixZ p_value.items 0)) (eS sx_never)) then (decide ((p_value.items.length : Int) = 2) && ((P_areNumbers (cutZ p_value.items (some 1) none) 3) && (!(p_table.any fun z => deq (eI z) (eA (ixZ p_value.items 1)))))) else (bif ((!(deq (eA (ixZ p_value.items 0)) (eS sx_gains))) || ((!decide ((p_value.items.length : Int) = 5)) || ((!(P_areNumbers (cutZ p_value.items (some 1) (some 2)) 2)) || (!(P_areNumbers (cutZ p_value.items (some 2) none) 6))))) then false else (P_doesGain p_table ((ixZ p_value.items 1).int) ((ixZ p_value.items 2).int) ((ixZ p_value.items 3).int) ((ixZ p_value.items 4).int)))))) (or_E (not_of (tru_of' (isi_tup rfl) tr_bl)) fun h1 => (or_E (tv_of (bin_of (len_A rfl (h.1 h1).1) (tup_of (cons_of rfl (cons_of rfl nil_of)) (Nat.le_of_ble_eq_true rfl)) (nin_E eqv_I rfl))) fun h2 => (not_of (tru_of' (isi_str (ix_A rfl rfl ((h.1 h1).2 h2).1 ((h.1 h1).2 h2).2)) tr_bl)))) (fun h3 => (pb_seq_ret rfl (fin_pure (d := eB false) (fit_B false)))) fun h4 => (pb_seq_skip (pb_seq_if (Q := (RQ .pure S (fun (z : Bool) => (eB z, S)))) (p := (decide ((p_value.items.length : Int) = 2) && ((P_areNumbers (cutZ p_value.items (some 1) none) 2) && (P_choosesAlone p_table ((ixZ p_value.items 1).int))))) (q := (bif (deq (eA (ixZ p_value.items 0)) (eS sx_never)) then (decide ((p_value.items.length : Int) = 2) && ((P_areNumbers (cutZ p_value.items (some 1) none) 3) && (!(p_table.any fun z => deq (eI z) (eA (ixZ p_value.items 1)))))) else (bif ((!(deq (eA (ixZ p_value.items 0)) (eS sx_gains))) || ((!decide ((p_value.items.length : Int) = 5)) || ((!(P_areNumbers (cutZ p_value.items (some 1) (some 2)) 2)) || (!(P_areNumbers (cutZ p_value.items (some 2) none) 6))))) then false else (P_doesGain p_table ((ixZ p_value.items 1).int) ((ixZ p_value.items 2).int) ((ixZ p_value.items 3).int) ((ixZ p_value.items 4).int))))) (tv_of (bin_of (ix_A rfl rfl (h.2 h4).1 (h.2 h4).2.1) rfl (eq_D (k := 32) (l := 32) ((fit_up (fit_A (k := 0)) (by decide)) (ixZ p_value.items 0)) (fit_S sx_one_chooses_3) (by decide) (by decide)))) (fun h5 => (pb_seq_ret (andv_E (bin_of (len_A rfl ((h.2 h4).2.2.1 h5).1) rfl (eq_E (en := eI) (p := (p_value.items.length : Int)) (q := 2) eqv_I)) fun h7 => (andv_E (call_of (cons_of (sl_T (coT rfl (((h.2 h4).2.2.1 h5).2 h7).1) (o1_of rfl) rfl) (cons_of rfl nil_of)) (P_areNumbers_eq (cutZ p_value.items (some 1) none) 2 (((h.2 h4).2.2.1 h5).2 h7).2.1 _)) fun h8 => (call_of (cons_of rfl (cons_of (coI (ix_A rfl rfl ((((h.2 h4).2.2.1 h5).2 h7).2.2 h8).1 ((((h.2 h4).2.2.1 h5).2 h7).2.2 h8).2.1) ((((h.2 h4).2.2.1 h5).2 h7).2.2 h8).2.2.1) nil_of)) (P_choosesAlone_eq p_table ((ixZ p_value.items 1).int) ((((h.2 h4).2.2.1 h5).2 h7).2.2 h8).2.2.2 _)))) (fin_pure (d := eB (decide ((p_value.items.length : Int) = 2) && ((P_areNumbers (cutZ p_value.items (some 1) none) 2) && (P_choosesAlone p_table ((ixZ p_value.items 1).int))))) (fit_B (decide ((p_value.items.length : Int) = 2) && ((P_areNumbers (cutZ p_value.items (some 1) none) 2) && (P_choosesAlone p_table ((ixZ p_value.items 1).int)))))))) fun h6 => (pb_seq_skip (pb_seq_if (Q := (RQ .pure S (fun (z : Bool) => (eB z, S)))) (p := (decide ((p_value.items.length : Int) = 2) && ((P_areNumbers (cutZ p_value.items (some 1) none) 3) && (!(p_table.any fun z => deq (eI z) (eA (ixZ p_value.items 1))))))) (q := (bif ((!(deq (eA (ixZ p_value.items 0)) (eS sx_gains))) || ((!decide ((p_value.items.length : Int) = 5)) || ((!(P_areNumbers (cutZ p_value.items (some 1) (some 2)) 2)) || (!(P_areNumbers (cutZ p_value.items (some 2) none) 6))))) then false else (P_doesGain p_table ((ixZ p_value.items 1).int) ((ixZ p_value.items 2).int) ((ixZ p_value.items 3).int) ((ixZ p_value.items 4).int)))) (tv_of (bin_of (ix_A rfl rfl ((h.2 h4).2.2.2 h6).1 ((h.2 h4).2.2.2 h6).2.1) rfl (eq_D (k := 32) (l := 32) ((fit_up (fit_A (k := 0)) (by decide)) (ixZ p_value.items 0)) (fit_S sx_never) (by decide) (by decide)))) (fun h9 => (pb_seq_ret (andv_E (bin_of (len_A rfl (((h.2 h4).2.2.2 h6).2.2.1 h9).1) rfl (eq_E (en := eI) (p := (p_value.items.length : Int)) (q := 2) eqv_I)) fun h11 => (andv_E (call_of (cons_of (sl_T (coT rfl ((((h.2 h4).2.2.2 h6).2.2.1 h9).2 h11).1) (o1_of rfl) rfl) (cons_of rfl nil_of)) (P_areNumbers_eq (cutZ p_value.items (some 1) none) 3 ((((h.2 h4).2.2.2 h6).2.2.1 h9).2 h11).2.1 _)) fun h12 => (bin_of (ix_A rfl rfl (((((h.2 h4).2.2.2 h6).2.2.1 h9).2 h11).2.2 h12).1 (((((h.2 h4).2.2.2 h6).2.2.1 h9).2 h11).2.2 h12).2) rfl (nin_D (k := 32) (en := eI) (fun z _ => fit_I z) ((fit_up (fit_A (k := 0)) (by decide)) (ixZ p_value.items 1)) (by decide) rfl)))) (fin_pure (d := eB (decide ((p_value.items.length : Int) = 2) && ((P_areNumbers (cutZ p_value.items (some 1) none) 3) && (!(p_table.any fun z => deq (eI z) (eA (ixZ p_value.items 1))))))) (fit_B (decide ((p_value.items.length : Int) = 2) && ((P_areNumbers (cutZ p_value.items (some 1) none) 3) && (!(p_table.any fun z => deq (eI z) (eA (ixZ p_value.items 1)))))))))) fun h10 => (pb_seq_skip (pb_seq_if (Q := (RQ .pure S (fun (z : Bool) => (eB z, S)))) (p := false) (q := (P_doesGain p_table ((ixZ p_value.items 1).int) ((ixZ p_value.items 2).int) ((ixZ p_value.items 3).int) ((ixZ p_value.items 4).int))) (or_E (tv_of (bin_of (ix_A rfl rfl (((h.2 h4).2.2.2 h6).2.2.2 h10).1 (((h.2 h4).2.2.2 h6).2.2.2 h10).2.1) rfl (ne_D (k := 32) (l := 32) ((fit_up (fit_A (k := 0)) (by decide)) (ixZ p_value.items 0)) (fit_S sx_gains) (by decide) (by decide)))) fun h13 => (or_E (tv_of (bin_of (len_A rfl ((((h.2 h4).2.2.2 h6).2.2.2 h10).2.2.1 h13).1) rfl (ne_E (en := eI) (p := (p_value.items.length : Int)) (q := 5) eqv_I))) fun h14 => (or_E (not_of (tru_of' (call_of (cons_of (sl_T (coT rfl (((((h.2 h4).2.2.2 h6).2.2.2 h10).2.2.1 h13).2 h14).1) (o1_of rfl) (o1_of rfl)) (cons_of rfl nil_of)) (P_areNumbers_eq (cutZ p_value.items (some 1) (some 2)) 2 (((((h.2 h4).2.2.2 h6).2.2.2 h10).2.2.1 h13).2 h14).2.1 _)) tr_bl)) fun h15 => (not_of (tru_of' (call_of (cons_of (sl_T (coT rfl ((((((h.2 h4).2.2.2 h6).2.2.2 h10).2.2.1 h13).2 h14).2.2 h15).1) (o1_of rfl) rfl) (cons_of rfl nil_of)) (P_areNumbers_eq (cutZ p_value.items (some 2) none) 6 ((((((h.2 h4).2.2.2 h6).2.2.2 h10).2.2.1 h13).2 h14).2.2 h15).2 _)) tr_bl))))) (fun h16 => (pb_seq_ret rfl (fin_pure (d := eB false) (fit_B false)))) fun h17 => (pb_seq_skip (pb_ret (call_of (cons_of rfl (cons_of (coI (ix_A rfl rfl ((((h.2 h4).2.2.2 h6).2.2.2 h10).2.2.2 h17).1 ((((h.2 h4).2.2.2 h6).2.2.2 h10).2.2.2 h17).2.1) ((((h.2 h4).2.2.2 h6).2.2.2 h10).2.2.2 h17).2.2.1) (cons_of (coI (ix_A rfl rfl ((((h.2 h4).2.2.2 h6).2.2.2 h10).2.2.2 h17).1 ((((h.2 h4).2.2.2 h6).2.2.2 h10).2.2.2 h17).2.2.2.1) ((((h.2 h4).2.2.2 h6).2.2.2 h10).2.2.2 h17).2.2.2.2.1) (cons_of (coI (ix_A rfl rfl ((((h.2 h4).2.2.2 h6).2.2.2 h10).2.2.2 h17).1 ((((h.2 h4).2.2.2 h6).2.2.2 h10).2.2.2 h17).2.2.2.2.2.1) ((((h.2 h4).2.2.2 h6).2.2.2 h10).2.2.2 h17).2.2.2.2.2.2.1) (cons_of (coI (ix_A rfl rfl ((((h.2 h4).2.2.2 h6).2.2.2 h10).2.2.2 h17).1 ((((h.2 h4).2.2.2 h6).2.2.2 h10).2.2.2 h17).2.2.2.2.2.2.2.1) ((((h.2 h4).2.2.2 h6).2.2.2 h10).2.2.2 h17).2.2.2.2.2.2.2.2.1) nil_of))))) (P_doesGain_eq p_table ((ixZ p_value.items 1).int) ((ixZ p_value.items 2).int) ((ixZ p_value.items 3).int) ((ixZ p_value.items 4).int) ((((h.2 h4).2.2.2 h6).2.2.2 h10).2.2.2 h17).2.2.2.2.2.2.2.2.2 _)) (fin_pure (d := eB (P_doesGain p_table ((ixZ p_value.items 1).int) ((ixZ p_value.items 2).int) ((ixZ p_value.items 3).int) ((ixZ p_value.items 4).int))) (fit_B (P_doesGain p_table ((ixZ p_value.items 1).int) ((ixZ p_value.items 2).int) ((ixZ p_value.items 3).int) ((ixZ p_value.items 4).int))))))))))))))
--@ LStart
--@ LFill
noncomputable def P_LTake (c : Cu) (m : Int) : Int × Cu := takeG M_LTake c m
def Ok_LTake (c : Cu) (m : Int) : Prop := 0 < m ∧ m < 1073741824
theorem LTake_ok : TakeOk M_LTake := take_ok fillA_ok
theorem P_LTake_eq (c : Cu) (m : Int) (h : Ok_LTake c m) (L : Store) : M_LTake [.ref 0, eI m] (c.ob :: L) = some (eI (P_LTake c m).1, (P_LTake c m).2.ob :: L) := (takeG_ok LTake_ok h).2.2 L
theorem P_LTake_lt {c : Cu} {m : Int} (h : Ok_LTake c m) : 0 ≤ (P_LTake c m).1 ∧ (P_LTake c m).1 < m := ⟨(takeG_ok LTake_ok h).1, (takeG_ok LTake_ok h).2.1⟩
--@ LSpoilt
theorem MR_LSpoilt_e : ∀ n, MR_LSpoilt n = spoiltR M_LTake n := by
  intro n
  induction n with
  | zero => rfl
  | succ n ih => show fnM 3 2 .keep (B_LSpoilt (MR_LSpoilt n)) = fnM 3 2 .keep (spoiltT M_LTake (spoiltR M_LTake n)); rw [ih]; rfl
theorem LBent_ok : BentOk M_LBent := by
  have := bent_ok LTake_ok
  rw [← MR_LSpoilt_e] at this
  exact this
noncomputable def P_LBent (c : Cu) (v : AV) (t : Int) : AV × Cu := bentG M_LBent c v t
def Ok_LBent (c : Cu) (v : AV) (t : Int) : Prop := Sm 1000 8 v.1
theorem P_LBent_eq (c : Cu) (v : AV) (t : Int) (h : Ok_LBent c v t) (L : Store) : M_LBent [.ref 0, eA v, eI t] (c.ob :: L) = some (eA (P_LBent c v t).1, (P_LBent c v t).2.ob :: L) := bentG_ok LBent_ok h L
def P_LOrders : (List (List Int)) := [[0, 1, 2], [0, 2, 1], [1, 0, 2], [1, 2, 0], [2, 0, 1], [2, 1, 0]]
theorem P_LOrders_eq (S : Store) : M_LOrders [] S = some ((eL (eT eI)) (P_LOrders ), S) := by
  unfold P_LOrders
  exact fn_P (ρ := (fun (z : (List (List Int))) => ((eL (eT eI)) z, S))) rfl ((pb_ret (val_E (lst_E (cons_of (tup_of (cons_of rfl (cons_of rfl (cons_of rfl nil_of))) (Nat.le_of_ble_eq_true rfl)) (cons_of (tup_of (cons_of rfl (cons_of rfl (cons_of rfl nil_of))) (Nat.le_of_ble_eq_true rfl)) (cons_of (tup_of (cons_of rfl (cons_of rfl (cons_of rfl nil_of))) (Nat.le_of_ble_eq_true rfl)) (cons_of (tup_of (cons_of rfl (cons_of rfl (cons_of rfl nil_of))) (Nat.le_of_ble_eq_true rfl)) (cons_of (tup_of (cons_of rfl (cons_of rfl (cons_of rfl nil_of))) (Nat.le_of_ble_eq_true rfl)) (cons_of (tup_of (cons_of rfl (cons_of rfl (cons_of rfl nil_of))) (Nat.le_of_ble_eq_true rfl)) nil_of)))))) (Nat.le_of_ble_eq_true rfl))) (fin_pure (d := (eL (eT eI)) [[0, 1, 2], [0, 2, 1], [1, 0, 2], [1, 2, 0], [2, 0, 1], [2, 1, 0]]) ((fit_L (fit_T fit_I)) [[0, 1, 2], [0, 2, 1], [1, 0, 2], [1, 2, 0], [2, 0, 1], [2, 1, 0]]))))
noncomputable def P_LTable_v1 (p_c : Cu) (x3 : Int) (x7 : Int) : Int := (ixZ [x3, x7, x3, 0, 0] ((P_LTake p_c 5).1))
noncomputable def P_LTable_v2 (x3 : Int) (x7 : Int) : Int := (bif decide ((ixZ (ixZ P_LOrders x3) 0) = 0) then x7 else x3)
noncomputable def P_LTable_v3 (p_c : Cu) (x3 : Int) (x7 : Int) : Int := (bif decide ((P_LTake p_c 5).1 = 2) then (P_LTable_v2 x3 x7) else (P_LTable_v1 p_c x3 x7))
noncomputable def P_LTable_v4 (x3 : Int) (x7 : Int) : (List (Int × Int)) := (sortZ (eP2 eI eI) ((rngZ 0 3).map fun (x15 : Int) => (((idxZ x15 (ixZ P_LOrders x3)) + (idxZ x15 (ixZ P_LOrders x7))), x15)))
noncomputable def P_LTable_v5 (x3 : Int) (x7 : Int) : Int := (idxZ ((P_LTable_v4 x3 x7).map fun (x17 : (Int × Int)) => x17.2) P_LOrders)
noncomputable def P_LTable_v6 (p_c : Cu) (x3 : Int) (t5 : ((List Int) × Cu)) (x7 : Int) : Int := (bif decide ((P_LTake p_c 5).1 = 4) then (P_LTake t5.2 6).1 else (P_LTable_v5 x3 x7))
noncomputable def P_LTable_c7 (p_c : Cu) (t5 : ((List Int) × Cu)) : Cu := (bif decide ((P_LTake p_c 5).1 = 4) then (P_LTake t5.2 6).2 else t5.2)
noncomputable def P_LTable_v8 (p_c : Cu) (p_most : Int) (x3 : Int) (t5 : ((List Int) × Cu)) (x7 : Int) : (List Int) := (t5.1 ++ [(bif decide (p_most = 6) then (P_LTable_v6 p_c x3 t5 x7) else (ixZ (ixZ P_LOrders (P_LTable_v6 p_c x3 t5 x7)) 0))])
noncomputable def P_LTable_v9 (p_c : Cu) (x3 : Int) (t5 : ((List Int) × Cu)) (x7 : Int) : Int := (bif decide ((P_LTake p_c 5).1 = 4) then (P_LTake t5.2 6).1 else (P_LTable_v3 p_c x3 x7))
noncomputable def P_LTable_c10 (p_c : Cu) (t5 : ((List Int) × Cu)) : Cu := (bif decide ((P_LTake p_c 5).1 = 4) then (P_LTake t5.2 6).2 else t5.2)
noncomputable def P_LTable_v11 (p_c : Cu) (p_most : Int) (x3 : Int) (t5 : ((List Int) × Cu)) (x7 : Int) : (List Int) := (t5.1 ++ [(bif decide (p_most = 6) then (P_LTable_v9 p_c x3 t5 x7) else (ixZ (ixZ P_LOrders (P_LTable_v9 p_c x3 t5 x7)) 0))])
noncomputable def P_LTable_s12 (p_c : Cu) (p_most : Int) (x3 : Int) (t5 : ((List Int) × Cu)) (x7 : Int) : ((List Int) × Cu) := (bif decide ((P_LTake p_c 5).1 = 3) then ((P_LTable_v8 p_c p_most x3 t5 x7), (P_LTable_c7 p_c t5)) else ((P_LTable_v11 p_c p_most x3 t5 x7), (P_LTable_c10 p_c t5)))
def Ok_LTable_13 (p_c : Cu) (p_most : Int) (x3 : Int) (t5 : ((List Int) × Cu)) (x7 : Int) : Prop := (InR [x3, x7, x3, 0, 0] ((P_LTake p_c 5).1)) ∧ ((decide ((P_LTake p_c 5).1 = 2)) = true → (InR P_LOrders x3) ∧ (InR (ixZ P_LOrders x3) 0)) ∧ ((decide ((P_LTake p_c 5).1 = 3)) = true → (∀ x15 ∈ (rngZ 0 3), (InR P_LOrders x3) ∧ (x15 ∈ (ixZ P_LOrders x3)) ∧ (InR P_LOrders x7) ∧ (x15 ∈ (ixZ P_LOrders x7))) ∧ ((rngZ 0 3).length ≤ LIM) ∧ (D.fitL 31 (((rngZ 0 3).map fun (x15 : Int) => (((idxZ x15 (ixZ P_LOrders x3)) + (idxZ x15 (ixZ P_LOrders x7))), x15)).map (eP2 eI eI)) = true ∧ alikeB (((rngZ 0 3).map fun (x15 : Int) => (((idxZ x15 (ixZ P_LOrders x3)) + (idxZ x15 (ixZ P_LOrders x7))), x15)).map (eP2 eI eI)) = true ∧ sortableB (((rngZ 0 3).map fun (x15 : Int) => (((idxZ x15 (ixZ P_LOrders x3)) + (idxZ x15 (ixZ P_LOrders x7))), x15)).map (eP2 eI eI)) = true) ∧ ((P_LTable_v4 x3 x7).length ≤ LIM) ∧ (((P_LTable_v4 x3 x7).map fun (x17 : (Int × Int)) => x17.2) ∈ P_LOrders) ∧ ((decide ((P_LTake p_c 5).1 = 4)) = true → (Ok_LTake t5.2 6)) ∧ ((decide (p_most = 6)) = false → (InR P_LOrders (P_LTable_v6 p_c x3 t5 x7)) ∧ (InR (ixZ P_LOrders (P_LTable_v6 p_c x3 t5 x7)) 0)) ∧ (t5.1.length < LIM)) ∧ ((decide ((P_LTake p_c 5).1 = 3)) = false → ((decide ((P_LTake p_c 5).1 = 4)) = true → (Ok_LTake t5.2 6)) ∧ ((decide (p_most = 6)) = false → (InR P_LOrders (P_LTable_v9 p_c x3 t5 x7)) ∧ (InR (ixZ P_LOrders (P_LTable_v9 p_c x3 t5 x7)) 0)) ∧ (t5.1.length < LIM))
noncomputable def P_LTable_l14 (p_c : Cu) (p_most : Int) (t1 : ((List Int) × Cu)) (x3 : Int) : ((List Int) × Cu) := ((rngZ 0 6).foldl (fun (t5 : ((List Int) × Cu)) (x7 : Int) => (P_LTable_s12 p_c p_most x3 t5 x7)) (t1.1, t1.2))
noncomputable def P_LTable_s15 (p_c : Cu) (p_most : Int) (t1 : ((List Int) × Cu)) (x3 : Int) : ((List Int) × Cu) := ((P_LTable_l14 p_c p_most t1 x3).1, (P_LTable_l14 p_c p_most t1 x3).2)
def Ok_LTable_16 (p_c : Cu) (p_most : Int) (t1 : ((List Int) × Cu)) (x3 : Int) : Prop := (okFold (fun (t5 : ((List Int) × Cu)) (x7 : Int) => (Ok_LTable_13 p_c p_most x3 t5 x7)) (fun (t5 : ((List Int) × Cu)) (x7 : Int) => (P_LTable_s12 p_c p_most x3 t5 x7)) (t1.1, t1.2) (rngZ 0 6))
noncomputable def P_LTable_l17 (p_c : Cu) (p_most : Int) : ((List Int) × Cu) := ((rngZ 0 6).foldl (fun (t1 : ((List Int) × Cu)) (x3 : Int) => (P_LTable_s15 p_c p_most t1 x3)) ([], (P_LTake p_c 5).2))
noncomputable def P_LTable_c18 (p_c : Cu) (p_most : Int) : Cu := (P_LTake ((P_LTable_l17 p_c p_most).2) 3).2
noncomputable def P_LTable_c19 (p_most : Int) (t29 : ((List Int) × Cu)) : Cu := (P_LTake ((P_LTake t29.2 p_most).2) 36).2
noncomputable def P_LTable_v20 (p_most : Int) (t29 : ((List Int) × Cu)) : (List Int) := (setZ t29.1 ((P_LTake ((P_LTake t29.2 p_most).2) 36).1) ((P_LTake t29.2 p_most).1))
noncomputable def P_LTable_s21 (p_most : Int) (t29 : ((List Int) × Cu)) : ((List Int) × Cu) := ((P_LTable_v20 p_most t29), (P_LTable_c19 p_most t29))
def Ok_LTable_22 (p_most : Int) (t29 : ((List Int) × Cu)) : Prop := (Ok_LTake t29.2 p_most) ∧ (Ok_LTake ((P_LTake t29.2 p_most).2) 36) ∧ (InR t29.1 ((P_LTake ((P_LTake t29.2 p_most).2) 36).1))
noncomputable def P_LTable_l23 (p_c : Cu) (p_most : Int) : ((List Int) × Cu) := ((rngZ 0 ((P_LTake ((P_LTable_l17 p_c p_most).2) 3).1)).foldl (fun (t29 : ((List Int) × Cu)) (x31 : Int) => (P_LTable_s21 p_most t29)) ((P_LTable_l17 p_c p_most).1, (P_LTable_c18 p_c p_most)))
noncomputable def P_LTable (p_c : Cu) (p_most : Int) : ((List Int) × Cu) := ((P_LTable_l23 p_c p_most).1, (P_LTable_l23 p_c p_most).2)
def Ok_LTable (p_c : Cu) (p_most : Int) : Prop := (Ok_LTake p_c 5) ∧ (okFold (fun (t1 : ((List Int) × Cu)) (x3 : Int) => (Ok_LTable_16 p_c p_most t1 x3)) (fun (t1 : ((List Int) × Cu)) (x3 : Int) => (P_LTable_s15 p_c p_most t1 x3)) ([], (P_LTake p_c 5).2) (rngZ 0 6)) ∧ (Ok_LTake ((P_LTable_l17 p_c p_most).2) 3) ∧ (I62 ((P_LTake ((P_LTable_l17 p_c p_most).2) 3).1)) ∧ (okFold (fun (t29 : ((List Int) × Cu)) (x31 : Int) => (Ok_LTable_22 p_most t29)) (fun (t29 : ((List Int) × Cu)) (x31 : Int) => (P_LTable_s21 p_most t29)) ((P_LTable_l17 p_c p_most).1, (P_LTable_c18 p_c p_most)) (rngZ 0 ((P_LTake ((P_LTable_l17 p_c p_most).2) 3).1)))
theorem P_LTable_eq (p_c : Cu) (p_most : Int) (h : Ok_LTable p_c p_most) (L : Store) : M_LTable [.ref 0, eI p_most] (p_c.ob :: L) = some ((eT eI) (P_LTable p_c p_most).1, (P_LTable p_c p_most).2.ob :: L) := by
  unfold P_LTable
  exact fn_P (ρ := (fun (z : (List Int) × Cu) => ((eT eI) z.1, z.2.ob :: L))) rfl ((pb_seq (e1 := [some (.ref 0), some (eI p_most), some ((eL (eT eI)) P_LOrders), none, none, none, none, none, none, none, none, none]) (asg_of (call_of nil_of (P_LOrders_eq   _))) (pb_seq (e1 := [some (.ref 0), some (eI p_most), some ((eL (eT eI)) P_LOrders), none, none, some (eI ((P_LTake p_c 5).1)), some (.ref (1 + (L.length + 0))), none, none, none, none, none]) (par_E (cons_of (call_of (cons_of rfl (cons_of rfl nil_of)) (P_LTake_eq p_c 5 h.1 _)) (cons_of (stoG_E (n := (1 + (L.length + 0))) (S2 := (((P_LTake p_c 5).2).ob :: (L ++ [DV.Ob.lst ([].map eI)]))) (lst_E nil_of (Nat.le_of_ble_eq_true rfl)) (by first | rfl | (simp <;> omega)) (by first | rfl | (simp only [List.append_assoc, List.cons_append, List.nil_append]; done) | (simp only [List.append_assoc, List.cons_append, List.nil_append]; rfl))) nil_of))) (pb_for_F (E := (fun (t : ((List Int) × Cu)) (j : ((Option D) × (Option D) × (Option D) × (Option D))) => [some (.ref 0), some (eI p_most), some ((eL (eT eI)) P_LOrders), j.1, none, some (eI ((P_LTake p_c 5).1)), some (.ref (1 + (L.length + 0))), j.2.1, j.2.2.1, j.2.2.2, none, none])) (σ := (fun (t : ((List Int) × Cu)) (j : ((Option D) × (Option D) × (Option D) × (Option D))) => (t.2.ob :: (L ++ [DV.Ob.lst (t.1.map eI)])))) (step := (fun (t1 : ((List Int) × Cu)) (x3 : Int) => (P_LTable_s15 p_c p_most t1 x3))) (ok := (fun (t1 : ((List Int) × Cu)) (x3 : Int) => (Ok_LTable_16 p_c p_most t1 x3))) (t0 := ([], (P_LTake p_c 5).2)) (j0 := (none, none, none, none)) (en := eI) (xs := (rngZ 0 6)) (src_rg1 rfl (by decide)) rfl rfl h.2.1 (fun t1 j2 x3 h4 => ⟨_, rfl, (pb_for_F_end (E := (fun (t : ((List Int) × Cu)) (j : ((Option D) × (Option D) × (Option D))) => [some (.ref 0), some (eI p_most), some ((eL (eT eI)) P_LOrders), some (eI x3), none, some (eI ((P_LTake p_c 5).1)), some (.ref (1 + (L.length + 0))), j.1, j.2.1, j.2.2, none, none])) (σ := (fun (t : ((List Int) × Cu)) (j : ((Option D) × (Option D) × (Option D))) => (t.2.ob :: (L ++ [DV.Ob.lst (t.1.map eI)])))) (step := (fun (t5 : ((List Int) × Cu)) (x7 : Int) => (P_LTable_s12 p_c p_most x3 t5 x7))) (ok := (fun (t5 : ((List Int) × Cu)) (x7 : Int) => (Ok_LTable_13 p_c p_most x3 t5 x7))) (t0 := (t1.1, t1.2)) (j0 := (j2.2.1, j2.2.2.1, j2.2.2.2)) (en := eI) (xs := (rngZ 0 6)) (src_rg1 rfl (by decide)) rfl rfl h4 (fun t5 j6 x7 h8 => ⟨_, rfl, (pb_seq (e1 := [some (.ref 0), some (eI p_most), some ((eL (eT eI)) P_LOrders), some (eI x3), none, some (eI ((P_LTake p_c 5).1)), some (.ref (1 + (L.length + 0))), some (eI x7), some (eI (P_LTable_v1 p_c x3 x7)), j6.2.2, none, none]) (asg_of (ix_L (en := eI) (xs := [x3, x7, x3, 0, 0]) (val_E (lst_E (cons_of rfl (cons_of rfl (cons_of rfl (cons_of rfl (cons_of rfl nil_of))))) (Nat.le_of_ble_eq_true rfl))) rfl h8.1)) (pb_seq (e1 := [some (.ref 0), some (eI p_most), some ((eL (eT eI)) P_LOrders), some (eI x3), none, some (eI ((P_LTake p_c 5).1)), some (.ref (1 + (L.length + 0))), some (eI x7), some (eI (P_LTable_v3 p_c x3 x7)), j6.2.2, none, none]) (ifs_join (E := fun b => [some (.ref 0), some (eI p_most), some ((eL (eT eI)) P_LOrders), some (eI x3), none, some (eI ((P_LTake p_c 5).1)), some (.ref (1 + (L.length + 0))), some (eI x7), some (eI (bif b then (P_LTable_v2 x3 x7) else (P_LTable_v1 p_c x3 x7))), j6.2.2, none, none]) (σ := fun b => (t5.2.ob :: (L ++ [DV.Ob.lst (t5.1.map eI)]))) (tv_of (bin_of rfl rfl (eq_E (en := eI) (p := (P_LTake p_c 5).1) (q := 2) eqv_I))) (fun h9 => (asg_of (if_E (p := x7) (q := x3) (en := eI) (tv_of (bin_of (ix_T (en := eI) (xs := (ixZ P_LOrders x3)) (ix_L rfl rfl (h8.2.1 h9).1) rfl (h8.2.1 h9).2) rfl (eq_E (en := eI) (p := (ixZ (ixZ P_LOrders x3) 0)) (q := 0) eqv_I))) (fun h11 => rfl) fun h12 => rfl))) fun h10 => rfl) (pb_seq_if (Q := (fun t => LQ (fun (t : ((List Int) × Cu)) (j : ((Option D) × (Option D) × (Option D))) => [some (.ref 0), some (eI p_most), some ((eL (eT eI)) P_LOrders), some (eI x3), none, some (eI ((P_LTake p_c 5).1)), some (.ref (1 + (L.length + 0))), j.1, j.2.1, j.2.2, none, none]) (fun (t : ((List Int) × Cu)) (j : ((Option D) × (Option D) × (Option D))) => (t.2.ob :: (L ++ [DV.Ob.lst (t.1.map eI)]))) (fun (_ : Empty) _ _ => False) (.nx t))) (p := ((P_LTable_v8 p_c p_most x3 t5 x7), (P_LTable_c7 p_c t5))) (q := ((P_LTable_v11 p_c p_most x3 t5 x7), (P_LTable_c10 p_c t5))) (tv_of (bin_of rfl rfl (eq_E (en := eI) (p := (P_LTake p_c 5).1) (q := 3) eqv_I))) (fun h13 => (pb_assoc (pb_seq (e1 := [some (.ref 0), some (eI p_most), some ((eL (eT eI)) P_LOrders), some (eI x3), none, some (eI ((P_LTake p_c 5).1)), some (.ref (1 + (L.length + 0))), some (eI x7), some (eI (P_LTable_v3 p_c x3 x7)), some ((eL (eP2 eI eI)) (P_LTable_v4 x3 x7)), none, none]) (asg_of (val_E (sorted_E (en := (eP2 eI eI)) (xs := ((rngZ 0 3).map fun (x15 : Int) => (((idxZ x15 (ixZ P_LOrders x3)) + (idxZ x15 (ixZ P_LOrders x7))), x15))) (val_E (lcm_E (en := eI) (en2 := (eP2 eI eI)) (xs := (rngZ 0 3)) (f := fun (x15 : Int) => (((idxZ x15 (ixZ P_LOrders x3)) + (idxZ x15 (ixZ P_LOrders x7))), x15)) (src_rg1 rfl (by decide)) (h8.2.2.1 h13).2.1 fun x15 h16 => ⟨_, rfl, (tup_of (cons_of (bin_of (ixT_E (en := eI) (xs := (ixZ P_LOrders x3)) (y := x15) eqv_I (ix_L rfl rfl ((h8.2.2.1 h13).1 x15 h16).1) (cons_of rfl nil_of) ((h8.2.2.1 h13).1 x15 h16).2.1) (ixT_E (en := eI) (xs := (ixZ P_LOrders x7)) (y := x15) eqv_I (ix_L rfl rfl ((h8.2.2.1 h13).1 x15 h16).2.2.1) (cons_of rfl nil_of) ((h8.2.2.1 h13).1 x15 h16).2.2.2) r_add) (cons_of rfl nil_of)) (Nat.le_of_ble_eq_true rfl))⟩)) rfl (h8.2.2.1 h13).2.2.1))) (pb_seq (e1 := [some (.ref 0), some (eI p_most), some ((eL (eT eI)) P_LOrders), some (eI x3), none, some (eI ((P_LTake p_c 5).1)), some (.ref (1 + (L.length + 0))), some (eI x7), some (eI (P_LTable_v5 x3 x7)), some ((eL (eP2 eI eI)) (P_LTable_v4 x3 x7)), none, none]) (asg_of (ixL_E (en := (eT eI)) (xs := P_LOrders) (y := ((P_LTable_v4 x3 x7).map fun (x17 : (Int × Int)) => x17.2)) (eqv_T eqv_I) rfl rfl (cons_of (tuple_E (en := eI) (xs := ((P_LTable_v4 x3 x7).map fun (x17 : (Int × Int)) => x17.2)) (val_E (lcm_E (en := (eP2 eI eI)) (en2 := eI) (xs := (P_LTable_v4 x3 x7)) (f := fun (x17 : (Int × Int)) => x17.2) (src_L rfl) (h8.2.2.1 h13).2.2.2.1 fun x17 h18 => ⟨_, tgP2, rfl⟩)) rfl) nil_of) (h8.2.2.1 h13).2.2.2.2.1)) (pb_seq (e1 := [some (.ref 0), some (eI p_most), some ((eL (eT eI)) P_LOrders), some (eI x3), none, some (eI ((P_LTake p_c 5).1)), some (.ref (1 + (L.length + 0))), some (eI x7), some (eI (P_LTable_v6 p_c x3 t5 x7)), some ((eL (eP2 eI eI)) (P_LTable_v4 x3 x7)), none, none]) (ifs_join (E := fun b => [some (.ref 0), some (eI p_most), some ((eL (eT eI)) P_LOrders), some (eI x3), none, some (eI ((P_LTake p_c 5).1)), some (.ref (1 + (L.length + 0))), some (eI x7), some (eI (bif b then (P_LTake t5.2 6).1 else (P_LTable_v5 x3 x7))), some ((eL (eP2 eI eI)) (P_LTable_v4 x3 x7)), none, none]) (σ := fun b => ((bif b then (P_LTake t5.2 6).2 else t5.2).ob :: (L ++ [DV.Ob.lst (t5.1.map eI)]))) (tv_of (bin_of rfl rfl (eq_E (en := eI) (p := (P_LTake p_c 5).1) (q := 4) eqv_I))) (fun h19 => (asg_of (call_of (cons_of rfl (cons_of rfl nil_of)) (P_LTake_eq t5.2 6 ((h8.2.2.1 h13).2.2.2.2.2.1 h19) _)))) fun h20 => rfl) (pb_end (e1 := [some (.ref 0), some (eI p_most), some ((eL (eT eI)) P_LOrders), some (eI x3), none, some (eI ((P_LTake p_c 5).1)), some (.ref (1 + (L.length + 0))), some (eI x7), some (eI (P_LTable_v6 p_c x3 t5 x7)), some ((eL (eP2 eI eI)) (P_LTable_v4 x3 x7)), none, none]) (appG_E (en := eI) (xs := t5.1) (y := (bif decide (p_most = 6) then (P_LTable_v6 p_c x3 t5 x7) else (ixZ (ixZ P_LOrders (P_LTable_v6 p_c x3 t5 x7)) 0))) rfl (if_E (p := (P_LTable_v6 p_c x3 t5 x7)) (q := (ixZ (ixZ P_LOrders (P_LTable_v6 p_c x3 t5 x7)) 0)) (en := eI) (tv_of (bin_of rfl rfl (eq_E (en := eI) (p := p_most) (q := 6) eqv_I))) (fun h21 => rfl) fun h22 => (ix_T (en := eI) (xs := (ixZ P_LOrders (P_LTable_v6 p_c x3 t5 x7))) (ix_L rfl rfl ((h8.2.2.1 h13).2.2.2.2.2.2.1 h22).1) rfl ((h8.2.2.1 h13).2.2.2.2.2.2.1 h22).2)) (getJ (A := [(P_LTable_c7 p_c t5).ob]) (n := 1) rfl (getJ (A := L) (n := L.length) rfl rfl)) (h8.2.2.1 h13).2.2.2.2.2.2.2 (setJ (A := [(P_LTable_c7 p_c t5).ob]) (n := 1) rfl (setJ (A := L) (n := L.length) rfl rfl))) ⟨(some (eI x7), some (eI (P_LTable_v6 p_c x3 t5 x7)), some ((eL (eP2 eI eI)) (P_LTable_v4 x3 x7))), .inl rfl, rfl⟩)))))) fun h14 => (pb_seq_skip (pb_seq (e1 := [some (.ref 0), some (eI p_most), some ((eL (eT eI)) P_LOrders), some (eI x3), none, some (eI ((P_LTake p_c 5).1)), some (.ref (1 + (L.length + 0))), some (eI x7), some (eI (P_LTable_v9 p_c x3 t5 x7)), j6.2.2, none, none]) (ifs_join (E := fun b => [some (.ref 0), some (eI p_most), some ((eL (eT eI)) P_LOrders), some (eI x3), none, some (eI ((P_LTake p_c 5).1)), some (.ref (1 + (L.length + 0))), some (eI x7), some (eI (bif b then (P_LTake t5.2 6).1 else (P_LTable_v3 p_c x3 x7))), j6.2.2, none, none]) (σ := fun b => ((bif b then (P_LTake t5.2 6).2 else t5.2).ob :: (L ++ [DV.Ob.lst (t5.1.map eI)]))) (tv_of (bin_of rfl rfl (eq_E (en := eI) (p := (P_LTake p_c 5).1) (q := 4) eqv_I))) (fun h23 => (asg_of (call_of (cons_of rfl (cons_of rfl nil_of)) (P_LTake_eq t5.2 6 ((h8.2.2.2 h14).1 h23) _)))) fun h24 => rfl) (pb_end (e1 := [some (.ref 0), some (eI p_most), some ((eL (eT eI)) P_LOrders), some (eI x3), none, some (eI ((P_LTake p_c 5).1)), some (.ref (1 + (L.length + 0))), some (eI x7), some (eI (P_LTable_v9 p_c x3 t5 x7)), j6.2.2, none, none]) (appG_E (en := eI) (xs := t5.1) (y := (bif decide (p_most = 6) then (P_LTable_v9 p_c x3 t5 x7) else (ixZ (ixZ P_LOrders (P_LTable_v9 p_c x3 t5 x7)) 0))) rfl (if_E (p := (P_LTable_v9 p_c x3 t5 x7)) (q := (ixZ (ixZ P_LOrders (P_LTable_v9 p_c x3 t5 x7)) 0)) (en := eI) (tv_of (bin_of rfl rfl (eq_E (en := eI) (p := p_most) (q := 6) eqv_I))) (fun h25 => rfl) fun h26 => (ix_T (en := eI) (xs := (ixZ P_LOrders (P_LTable_v9 p_c x3 t5 x7))) (ix_L rfl rfl ((h8.2.2.2 h14).2.1 h26).1) rfl ((h8.2.2.2 h14).2.1 h26).2)) (getJ (A := [(P_LTable_c10 p_c t5).ob]) (n := 1) rfl (getJ (A := L) (n := L.length) rfl rfl)) (h8.2.2.2 h14).2.2 (setJ (A := [(P_LTable_c10 p_c t5).ob]) (n := 1) rfl (setJ (A := L) (n := L.length) rfl rfl))) ⟨(some (eI x7), some (eI (P_LTable_v9 p_c x3 t5 x7)), j6.2.2), .inl rfl, rfl⟩))))))⟩) fun j27 => ⟨(some (eI x3), j27.1, j27.2.1, j27.2.2), .inl rfl, rfl⟩)⟩) fun j28 => (pb_for_F (E := (fun (t : ((List Int) × Cu)) (j : (Option D)) => [some (.ref 0), some (eI p_most), some ((eL (eT eI)) P_LOrders), j28.1, j, some (eI ((P_LTake p_c 5).1)), some (.ref (1 + (L.length + 0))), j28.2.1, j28.2.2.1, j28.2.2.2, none, none])) (σ := (fun (t : ((List Int) × Cu)) (j : (Option D)) => (t.2.ob :: (L ++ [DV.Ob.lst (t.1.map eI)])))) (step := (fun (t29 : ((List Int) × Cu)) (x31 : Int) => (P_LTable_s21 p_most t29))) (ok := (fun (t29 : ((List Int) × Cu)) (x31 : Int) => (Ok_LTable_22 p_most t29))) (t0 := ((P_LTable_l17 p_c p_most).1, (P_LTable_c18 p_c p_most))) (j0 := none) (en := eI) (xs := (rngZ 0 ((P_LTake ((P_LTable_l17 p_c p_most).2) 3).1))) (src_rg1 (call_of (cons_of rfl (cons_of rfl nil_of)) (P_LTake_eq ((P_LTable_l17 p_c p_most).2) 3 h.2.2.1 _)) h.2.2.2.1) rfl rfl h.2.2.2.2 (fun t29 j30 x31 h32 => ⟨_, rfl, (pb_end (e1 := [some (.ref 0), some (eI p_most), some ((eL (eT eI)) P_LOrders), j28.1, some (eI x31), some (eI ((P_LTake p_c 5).1)), some (.ref (1 + (L.length + 0))), j28.2.1, j28.2.2.1, j28.2.2.2, none, none]) (setGd_E (en := eI) (xs := t29.1) (y := (P_LTake t29.2 p_most).1) (call_of (cons_of rfl (cons_of rfl nil_of)) (P_LTake_eq t29.2 p_most h32.1 _)) rfl (call_of (cons_of rfl (cons_of rfl nil_of)) (P_LTake_eq ((P_LTake t29.2 p_most).2) 36 h32.2.1 _)) (getJ (A := [(P_LTable_c19 p_most t29).ob]) (n := 1) rfl (getJ (A := L) (n := L.length) rfl rfl)) h32.2.2 (setJ (A := [(P_LTable_c19 p_most t29).ob]) (n := 1) rfl (setJ (A := L) (n := L.length) rfl rfl))) ⟨some (eI x31), .inl rfl, rfl⟩)⟩) fun j33 => (pb_ret (tuple_E (en := eI) (xs := (P_LTable_l23 p_c p_most).1) rfl (seqR_of (getJ (A := [((P_LTable_l23 p_c p_most).2).ob]) (n := 1) rfl (getJ (A := L) (n := L.length) rfl rfl)))) (fin_cutC (d := (eT eI) ((P_LTable_l23 p_c p_most).1)) ((fit_T fit_I) ((P_LTable_l23 p_c p_most).1)))))))))
def P_LOwn_s1 (p_table : (List Int)) (p_v : Int) (p_most : Int) (x3 : Int) (x7 : Int) : (Lo Unit (Lo Unit Bool)) := (bif (!decide ((ixZ p_table ((6 * x3) + x7)) = (bif decide (p_most = 6) then (ixZ [x3, x7] p_v) else (ixZ (ixZ P_LOrders (ixZ [x3, x7] p_v)) 0)))) then (.rt (.rt false)) else (.nx ()))
def Ok_LOwn_2 (p_table : (List Int)) (p_v : Int) (p_most : Int) (x3 : Int) (x7 : Int) : Prop := (InR [x3, x7] p_v) ∧ (InR p_table ((6 * x3) + x7)) ∧ ((decide (p_most = 6)) = false → (InR P_LOrders (ixZ [x3, x7] p_v)) ∧ (InR (ixZ P_LOrders (ixZ [x3, x7] p_v)) 0))
def P_LOwn_l3 (p_table : (List Int)) (p_v : Int) (p_most : Int) (x3 : Int) : (Lo Unit (Lo Unit Bool)) := (forP (fun (t5 : Unit) (x7 : Int) => ((P_LOwn_s1 p_table p_v p_most x3 x7) : (Lo Unit (Lo Unit Bool)))) () (rngZ 0 6))
def P_LOwn_s4 (p_table : (List Int)) (p_v : Int) (p_most : Int) (x3 : Int) : (Lo Unit Bool) := ((P_LOwn_l3 p_table p_v p_most x3).fin (fun (t13 : Unit) => (.nx ())))
def Ok_LOwn_5 (p_table : (List Int)) (p_v : Int) (p_most : Int) (x3 : Int) : Prop := (okFor (fun (t5 : Unit) (x7 : Int) => (Ok_LOwn_2 p_table p_v p_most x3 x7)) (fun (t5 : Unit) (x7 : Int) => ((P_LOwn_s1 p_table p_v p_most x3 x7) : (Lo Unit (Lo Unit Bool)))) () (rngZ 0 6))
def P_LOwn_l6 (p_table : (List Int)) (p_v : Int) (p_most : Int) : (Lo Unit Bool) := (forP (fun (t1 : Unit) (x3 : Int) => ((P_LOwn_s4 p_table p_v p_most x3) : (Lo Unit Bool))) () (rngZ 0 6))
def P_LOwn (p_table : (List Int)) (p_v : Int) (p_most : Int) : Bool := ((P_LOwn_l6 p_table p_v p_most).fin (fun (t16 : Unit) => true))
def Ok_LOwn (p_table : (List Int)) (p_v : Int) (p_most : Int) : Prop := (okFor (fun (t1 : Unit) (x3 : Int) => (Ok_LOwn_5 p_table p_v p_most x3)) (fun (t1 : Unit) (x3 : Int) => ((P_LOwn_s4 p_table p_v p_most x3) : (Lo Unit Bool))) () (rngZ 0 6))
theorem P_LOwn_eq (p_table : (List Int)) (p_v : Int) (p_most : Int) (h : Ok_LOwn p_table p_v p_most) (S : Store) : M_LOwn [(eT eI) p_table, eI p_v, eI p_most] S = some (eB (P_LOwn p_table p_v p_most), S) := by
  unfold P_LOwn
  exact fn_P (ρ := (fun (z : Bool) => (eB z, S))) rfl ((pb_seq (e1 := [some ((eT eI) p_table), some (eI p_v), some (eI p_most), some ((eL (eT eI)) P_LOrders), none, none, none]) (asg_of (call_of nil_of (P_LOrders_eq   _))) (pb_for_P (QR := (RQ .pure S (fun (z : Bool) => (eB z, S)))) (E := (fun (t : Unit) (j : ((Option D) × (Option D) × (Option D))) => [some ((eT eI) p_table), some (eI p_v), some (eI p_most), some ((eL (eT eI)) P_LOrders), j.1, j.2.1, j.2.2])) (σ := (fun (t : Unit) (j : ((Option D) × (Option D) × (Option D))) => S)) (step := (fun (t1 : Unit) (x3 : Int) => ((P_LOwn_s4 p_table p_v p_most x3) : (Lo Unit Bool)))) (ok := (fun (t1 : Unit) (x3 : Int) => (Ok_LOwn_5 p_table p_v p_most x3))) (k := (fun (t16 : Unit) => true)) (t0 := ()) (j0 := (none, none, none)) (en := eI) (xs := (rngZ 0 6)) (src_rg1 rfl (by decide)) rfl rfl h (fun t1 j2 x3 h4 => ⟨_, rfl, (pb_for_P_end (QR := (LQ (fun (t : Unit) (j : ((Option D) × (Option D) × (Option D))) => [some ((eT eI) p_table), some (eI p_v), some (eI p_most), some ((eL (eT eI)) P_LOrders), j.1, j.2.1, j.2.2]) (fun (t : Unit) (j : ((Option D) × (Option D) × (Option D))) => S) (RQ .pure S (fun (z : Bool) => (eB z, S))))) (E := (fun (t : Unit) (j : ((Option D) × (Option D))) => [some ((eT eI) p_table), some (eI p_v), some (eI p_most), some ((eL (eT eI)) P_LOrders), some (eI x3), j.1, j.2])) (σ := (fun (t : Unit) (j : ((Option D) × (Option D))) => S)) (step := (fun (t5 : Unit) (x7 : Int) => ((P_LOwn_s1 p_table p_v p_most x3 x7) : (Lo Unit (Lo Unit Bool))))) (ok := (fun (t5 : Unit) (x7 : Int) => (Ok_LOwn_2 p_table p_v p_most x3 x7))) (k := (fun (t13 : Unit) => (.nx ()))) (t0 := ()) (j0 := (j2.2.1, j2.2.2)) (en := eI) (xs := (rngZ 0 6)) (src_rg1 rfl (by decide)) rfl rfl h4 (fun t5 j6 x7 h8 => ⟨_, rfl, (pb_seq (e1 := [some ((eT eI) p_table), some (eI p_v), some (eI p_most), some ((eL (eT eI)) P_LOrders), some (eI x3), some (eI x7), some (eI (ixZ [x3, x7] p_v))]) (asg_of (ix_L (en := eI) (xs := [x3, x7]) (val_E (lst_E (cons_of rfl (cons_of rfl nil_of)) (Nat.le_of_ble_eq_true rfl))) rfl h8.1)) (pb_if (Q := (LQ (fun (t : Unit) (j : ((Option D) × (Option D))) => [some ((eT eI) p_table), some (eI p_v), some (eI p_most), some ((eL (eT eI)) P_LOrders), some (eI x3), j.1, j.2]) (fun (t : Unit) (j : ((Option D) × (Option D))) => S) (LQ (fun (t : Unit) (j : ((Option D) × (Option D) × (Option D))) => [some ((eT eI) p_table), some (eI p_v), some (eI p_most), some ((eL (eT eI)) P_LOrders), j.1, j.2.1, j.2.2]) (fun (t : Unit) (j : ((Option D) × (Option D) × (Option D))) => S) (RQ .pure S (fun (z : Bool) => (eB z, S)))))) (p := (.rt (.rt false))) (q := (.nx ())) (tv_of (bin_of (ix_T rfl (bin_of (bin_of rfl rfl (mul_of (.inl (by decide)))) rfl r_add) h8.2.1) (if_E (p := (ixZ [x3, x7] p_v)) (q := (ixZ (ixZ P_LOrders (ixZ [x3, x7] p_v)) 0)) (en := eI) (tv_of (bin_of rfl rfl (eq_E (en := eI) (p := p_most) (q := 6) eqv_I))) (fun h9 => rfl) fun h10 => (ix_T (en := eI) (xs := (ixZ P_LOrders (ixZ [x3, x7] p_v))) (ix_L rfl rfl (h8.2.2 h10).1) rfl (h8.2.2 h10).2)) (ne_E (en := eI) (p := (ixZ p_table ((6 * x3) + x7))) (q := (bif decide (p_most = 6) then (ixZ [x3, x7] p_v) else (ixZ (ixZ P_LOrders (ixZ [x3, x7] p_v)) 0))) eqv_I))) (fun h11 => (pb_ret rfl ⟨⟨_, rfl⟩, ⟨⟨_, rfl⟩, (fin_pure (d := eB false) (fit_B false))⟩⟩)) fun h12 => (pb_skip ⟨(some (eI x7), some (eI (ixZ [x3, x7] p_v))), .inl rfl, rfl⟩)))⟩) fun t13 j14 h15 => ⟨(some (eI x3), j14.1, j14.2), .inl rfl, rfl⟩)⟩) fun t16 j17 h18 => (pb_ret rfl (fin_pure (d := eB true) (fit_B true))))))
def P_LAhead (p_p : Int) (p_x : Int) (p_y : Int) : Bool := decide ((idxZ p_x (ixZ P_LOrders p_p)) < (idxZ p_y (ixZ P_LOrders p_p)))
def Ok_LAhead (p_p : Int) (p_x : Int) (p_y : Int) : Prop := (InR P_LOrders p_p) ∧ (p_x ∈ (ixZ P_LOrders p_p)) ∧ (p_y ∈ (ixZ P_LOrders p_p))
theorem P_LAhead_eq (p_p : Int) (p_x : Int) (p_y : Int) (h : Ok_LAhead p_p p_x p_y) (S : Store) : M_LAhead [eI p_p, eI p_x, eI p_y] S = some (eB (P_LAhead p_p p_x p_y), S) := by
  unfold P_LAhead
  exact fn_P (ρ := (fun (z : Bool) => (eB z, S))) rfl ((pb_seq (e1 := [some (eI p_p), some (eI p_x), some (eI p_y), some ((eT eI) (ixZ P_LOrders p_p))]) (asg_of (ix_L (en := (eT eI)) (xs := P_LOrders) (call_of nil_of (P_LOrders_eq   _)) rfl h.1)) (pb_ret (bin_of (ixT_E (en := eI) (xs := (ixZ P_LOrders p_p)) (y := p_x) eqv_I rfl (cons_of rfl nil_of) h.2.1) (ixT_E (en := eI) (xs := (ixZ P_LOrders p_p)) (y := p_y) eqv_I rfl (cons_of rfl nil_of) h.2.2) rfl) (fin_pure (d := eB (decide ((idxZ p_x (ixZ P_LOrders p_p)) < (idxZ p_y (ixZ P_LOrders p_p))))) (fit_B (decide ((idxZ p_x (ixZ P_LOrders p_p)) < (idxZ p_y (ixZ P_LOrders p_p)))))))))
def P_LIsInt (p_value : AV) : Bool := (p_value.isInt && (!p_value.isBl))
theorem P_LIsInt_eq (p_value : AV) (S : Store) : M_LIsInt [eA p_value] S = some (eB (P_LIsInt p_value), S) := by
  unfold P_LIsInt
  exact fn_P (ρ := (fun (z : Bool) => (eB z, S))) rfl ((pb_ret (andv_E (isi_int rfl) fun h1 => (notv_E (isi_bl rfl) tr_bl)) (fin_pure (d := eB (p_value.isInt && (!p_value.isBl))) (fit_B (p_value.isInt && (!p_value.isBl))))))
def P_LNumbers (p_value : AV) (p_sizes : (List Int)) : Bool := (bif (!decide ((p_value.items.length : Int) = (1 + (p_sizes.length : Int)))) then false else (((rngZ 0 (p_sizes.length : Int)).map fun (x3 : Int) => ((P_LIsInt (ixZ p_value.items (x3 + 1))) && (decide (0 ≤ (ixZ p_value.items (x3 + 1)).int) && decide ((ixZ p_value.items (x3 + 1)).int < (ixZ p_sizes x3))))).all id))
def Ok_LNumbers (p_value : AV) (p_sizes : (List Int)) : Prop := (p_value.isTup = true) ∧ ((!decide ((p_value.items.length : Int) = (1 + (p_sizes.length : Int)))) = false → (I62 (p_sizes.length : Int)) ∧ (∀ x3 ∈ (rngZ 0 (p_sizes.length : Int)), (p_value.isTup = true) ∧ (InR p_value.items (x3 + 1)) ∧ ((P_LIsInt (ixZ p_value.items (x3 + 1))) = true → (p_value.isTup = true) ∧ (InR p_value.items (x3 + 1)) ∧ ((ixZ p_value.items (x3 + 1)).isI = true) ∧ (decide (0 ≤ (ixZ p_value.items (x3 + 1)).int) = true → (InR p_sizes x3)))) ∧ ((rngZ 0 (p_sizes.length : Int)).length ≤ LIM))
theorem P_LNumbers_eq (p_value : AV) (p_sizes : (List Int)) (h : Ok_LNumbers p_value p_sizes) (S : Store) : M_LNumbers [eA p_value, (eL eI) p_sizes] S = some (eB (P_LNumbers p_value p_sizes), S) := by
  unfold P_LNumbers
  exact fn_P (ρ := (fun (z : Bool) => (eB z, S))) rfl ((pb_seq_if (Q := (RQ .pure S (fun (z : Bool) => (eB z, S)))) (p := false) (q := (((rngZ 0 (p_sizes.length : Int)).map fun (x3 : Int) => ((P_LIsInt (ixZ p_value.items (x3 + 1))) && (decide (0 ≤ (ixZ p_value.items (x3 + 1)).int) && decide ((ixZ p_value.items (x3 + 1)).int < (ixZ p_sizes x3))))).all id)) (tv_of (bin_of (len_A rfl h.1) (bin_of rfl (len_E (en := eI) (xs := p_sizes) rfl (fun _ h => nomatch h) rfl) r_add) (ne_E (en := eI) (p := (p_value.items.length : Int)) (q := (1 + (p_sizes.length : Int))) eqv_I))) (fun h1 => (pb_seq_ret rfl (fin_pure (d := eB false) (fit_B false)))) fun h2 => (pb_seq_skip (pb_ret (all_E (val_E (lcm_E (en := eI) (en2 := eB) (xs := (rngZ 0 (p_sizes.length : Int))) (f := fun (x3 : Int) => ((P_LIsInt (ixZ p_value.items (x3 + 1))) && (decide (0 ≤ (ixZ p_value.items (x3 + 1)).int) && decide ((ixZ p_value.items (x3 + 1)).int < (ixZ p_sizes x3))))) (src_rg1 (len_E (en := eI) (xs := p_sizes) rfl (fun _ h => nomatch h) rfl) (h.2 h2).1) (h.2 h2).2.2 fun x3 h4 => ⟨_, rfl, (andv_E (call_of (cons_of (ix_A rfl (bin_of rfl rfl r_add) ((h.2 h2).2.1 x3 h4).1 ((h.2 h2).2.1 x3 h4).2.1) nil_of) (P_LIsInt_eq (ixZ p_value.items (x3 + 1))  _)) fun h5 => (chain_of (x := decide (0 ≤ (ixZ p_value.items (x3 + 1)).int)) (y := decide ((ixZ p_value.items (x3 + 1)).int < (ixZ p_sizes x3))) rfl (coI (ix_A rfl (bin_of rfl rfl r_add) (((h.2 h2).2.1 x3 h4).2.2 h5).1 (((h.2 h2).2.1 x3 h4).2.2 h5).2.1) (((h.2 h2).2.1 x3 h4).2.2 h5).2.2.1) rfl (fun h6 => (ix_L rfl rfl ((((h.2 h2).2.1 x3 h4).2.2 h5).2.2.2 h6))) fun h6 => rfl))⟩)) rfl) (fin_pure (d := eB (((rngZ 0 (p_sizes.length : Int)).map fun (x3 : Int) => ((P_LIsInt (ixZ p_value.items (x3 + 1))) && (decide (0 ≤ (ixZ p_value.items (x3 + 1)).int) && decide ((ixZ p_value.items (x3 + 1)).int < (ixZ p_sizes x3))))).all id)) (fit_B (((rngZ 0 (p_sizes.length : Int)).map fun (x3 : Int) => ((P_LIsInt (ixZ p_value.items (x3 + 1))) && (decide (0 ≤ (ixZ p_value.items (x3 + 1)).int) && decide ((ixZ p_value.items (x3 + 1)).int < (ixZ p_sizes x3))))).all id)))))))
def P_LIsArrow_v1 (p_value : AV) : AV := (ixZ (cutZ p_value.items (some 1) none) 0)
def P_LIsArrow_v2 (p_value : AV) : AV := (ixZ (cutZ p_value.items (some 1) none) 1)
def P_LIsArrow_v3 (p_value : AV) : AV := (ixZ (cutZ p_value.items (some 1) none) 2)
def P_LIsArrow_v4 (p_value : AV) : AV := (ixZ (cutZ p_value.items (some 1) none) 3)
def P_LIsArrow_v5 (p_value : AV) : AV := (ixZ (cutZ p_value.items (some 1) none) 0)
def P_LIsArrow_v6 (p_value : AV) : AV := (ixZ (cutZ p_value.items (some 1) none) 1)
def P_LIsArrow_v7 (p_value : AV) : AV := (ixZ (cutZ p_value.items (some 1) none) 2)
def P_LIsArrow_v8 (p_value : AV) : AV := (ixZ (cutZ p_value.items (some 1) none) 3)
def P_LIsArrow_v9 (p_value : AV) : AV := (ixZ (cutZ p_value.items (some 1) none) 4)
def P_LIsArrow_v10 (p_value : AV) : AV := (ixZ (cutZ p_value.items (some 1) none) 5)
def P_LIsArrow (p_table : (List Int)) (p_value : AV) : Bool := (bif ((!p_value.isTup) || ((!p_value.tru) || (!((ixZ p_value.items 0).isStr)))) then false else (bif (deq (eA (ixZ p_value.items 0)) (eS sx_one_rules_0)) then ((P_LNumbers p_value [2]) && (P_LOwn p_table ((ixZ p_value.items 1).int) 6)) else (bif ((deq (eA (ixZ p_value.items 0)) (eS sx_against_both_1)) && (P_LNumbers p_value [6, 6, 3, 3])) then ((!(deq (eA (P_LIsArrow_v3 p_value)) (eA (P_LIsArrow_v4 p_value)))) && ((P_LAhead ((P_LIsArrow_v1 p_value).int) ((P_LIsArrow_v3 p_value).int) ((P_LIsArrow_v4 p_value).int)) && ((P_LAhead ((P_LIsArrow_v2 p_value).int) ((P_LIsArrow_v3 p_value).int) ((P_LIsArrow_v4 p_value).int)) && (!(P_LAhead (ixZ p_table ((6 * (P_LIsArrow_v1 p_value).int) + (P_LIsArrow_v2 p_value).int)) ((P_LIsArrow_v3 p_value).int) ((P_LIsArrow_v4 p_value).int)))))) else (bif ((!(deq (eA (ixZ p_value.items 0)) (eS sx_not_alone_2))) || (!(P_LNumbers p_value [6, 6, 6, 6, 3, 3]))) then false else (bif ((deq (eA (P_LIsArrow_v9 p_value)) (eA (P_LIsArrow_v10 p_value))) || ((!decide ((P_LAhead ((P_LIsArrow_v5 p_value).int) ((P_LIsArrow_v9 p_value).int) ((P_LIsArrow_v10 p_value).int)) = (P_LAhead ((P_LIsArrow_v7 p_value).int) ((P_LIsArrow_v9 p_value).int) ((P_LIsArrow_v10 p_value).int)))) || (!decide ((P_LAhead ((P_LIsArrow_v6 p_value).int) ((P_LIsArrow_v9 p_value).int) ((P_LIsArrow_v10 p_value).int)) = (P_LAhead ((P_LIsArrow_v8 p_value).int) ((P_LIsArrow_v9 p_value).int) ((P_LIsArrow_v10 p_value).int)))))) then false else (!decide ((P_LAhead (ixZ p_table ((6 * (P_LIsArrow_v5 p_value).int) + (P_LIsArrow_v6 p_value).int)) ((P_LIsArrow_v9 p_value).int) ((P_LIsArrow_v10 p_value).int)) = (P_LAhead (ixZ p_table ((6 * (P_LIsArrow_v7 p_value).int) + (P_LIsArrow_v8 p_value).int)) ((P_LIsArrow_v9 p_value).int) ((P_LIsArrow_v10 p_value).int)))))))))
def Ok_LIsArrow (p_table : (List Int)) (p_value : AV) : Prop := ((!p_value.isTup) = false → ((!p_value.tru) = false → (p_value.isTup = true) ∧ (InR p_value.items 0))) ∧ (((!p_value.isTup) || ((!p_value.tru) || (!((ixZ p_value.items 0).isStr)))) = false → (p_value.isTup = true) ∧ (InR p_value.items 0) ∧ ((deq (eA (ixZ p_value.items 0)) (eS sx_one_rules_0)) = true → (Ok_LNumbers p_value [2]) ∧ ((P_LNumbers p_value [2]) = true → (p_value.isTup = true) ∧ (InR p_value.items 1) ∧ ((ixZ p_value.items 1).isI = true) ∧ (Ok_LOwn p_table ((ixZ p_value.items 1).int) 6))) ∧ ((deq (eA (ixZ p_value.items 0)) (eS sx_one_rules_0)) = false → (p_value.isTup = true) ∧ (InR p_value.items 0) ∧ ((deq (eA (ixZ p_value.items 0)) (eS sx_against_both_1)) = true → (Ok_LNumbers p_value [6, 6, 3, 3])) ∧ (((deq (eA (ixZ p_value.items 0)) (eS sx_against_both_1)) && (P_LNumbers p_value [6, 6, 3, 3])) = true → (p_value.isTup = true) ∧ ((cutZ p_value.items (some 1) none).length = 4) ∧ ((!(deq (eA (P_LIsArrow_v3 p_value)) (eA (P_LIsArrow_v4 p_value)))) = true → ((P_LIsArrow_v1 p_value).isI = true) ∧ ((P_LIsArrow_v3 p_value).isI = true) ∧ ((P_LIsArrow_v4 p_value).isI = true) ∧ (Ok_LAhead ((P_LIsArrow_v1 p_value).int) ((P_LIsArrow_v3 p_value).int) ((P_LIsArrow_v4 p_value).int)) ∧ ((P_LAhead ((P_LIsArrow_v1 p_value).int) ((P_LIsArrow_v3 p_value).int) ((P_LIsArrow_v4 p_value).int)) = true → ((P_LIsArrow_v2 p_value).isI = true) ∧ ((P_LIsArrow_v3 p_value).isI = true) ∧ ((P_LIsArrow_v4 p_value).isI = true) ∧ (Ok_LAhead ((P_LIsArrow_v2 p_value).int) ((P_LIsArrow_v3 p_value).int) ((P_LIsArrow_v4 p_value).int)) ∧ ((P_LAhead ((P_LIsArrow_v2 p_value).int) ((P_LIsArrow_v3 p_value).int) ((P_LIsArrow_v4 p_value).int)) = true → ((P_LIsArrow_v1 p_value).isI = true) ∧ ((P_LIsArrow_v2 p_value).isI = true) ∧ (InR p_table ((6 * (P_LIsArrow_v1 p_value).int) + (P_LIsArrow_v2 p_value).int)) ∧ ((P_LIsArrow_v3 p_value).isI = true) ∧ ((P_LIsArrow_v4 p_value).isI = true) ∧ (Ok_LAhead (ixZ p_table ((6 * (P_LIsArrow_v1 p_value).int) + (P_LIsArrow_v2 p_value).int)) ((P_LIsArrow_v3 p_value).int) ((P_LIsArrow_v4 p_value).int)))))) ∧ (((deq (eA (ixZ p_value.items 0)) (eS sx_against_both_1)) && (P_LNumbers p_value [6, 6, 3, 3])) = false → (p_value.isTup = true) ∧ (InR p_value.items 0) ∧ ((!(deq (eA (ixZ p_value.items 0)) (eS sx_not_alone_2))) = false → (Ok_LNumbers p_value [6, 6, 6, 6, 3, 3])) ∧ (((!(deq (eA (ixZ p_value.items 0)) (eS sx_not_alone_2))) || (!(P_LNumbers p_value [6, 6, 6, 6, 3, 3]))) = false → (p_value.isTup = true) ∧ ((cutZ p_value.items (some 1) none).length = 6) ∧ ((deq (eA (P_LIsArrow_v9 p_value)) (eA (P_LIsArrow_v10 p_value))) = false → ((P_LIsArrow_v5 p_value).isI = true) ∧ ((P_LIsArrow_v9 p_value).isI = true) ∧ ((P_LIsArrow_v10 p_value).isI = true) ∧ (Ok_LAhead ((P_LIsArrow_v5 p_value).int) ((P_LIsArrow_v9 p_value).int) ((P_LIsArrow_v10 p_value).int)) ∧ ((P_LIsArrow_v7 p_value).isI = true) ∧ (Ok_LAhead ((P_LIsArrow_v7 p_value).int) ((P_LIsArrow_v9 p_value).int) ((P_LIsArrow_v10 p_value).int)) ∧ ((!decide ((P_LAhead ((P_LIsArrow_v5 p_value).int) ((P_LIsArrow_v9 p_value).int) ((P_LIsArrow_v10 p_value).int)) = (P_LAhead ((P_LIsArrow_v7 p_value).int) ((P_LIsArrow_v9 p_value).int) ((P_LIsArrow_v10 p_value).int)))) = false → ((P_LIsArrow_v6 p_value).isI = true) ∧ ((P_LIsArrow_v9 p_value).isI = true) ∧ ((P_LIsArrow_v10 p_value).isI = true) ∧ (Ok_LAhead ((P_LIsArrow_v6 p_value).int) ((P_LIsArrow_v9 p_value).int) ((P_LIsArrow_v10 p_value).int)) ∧ ((P_LIsArrow_v8 p_value).isI = true) ∧ (Ok_LAhead ((P_LIsArrow_v8 p_value).int) ((P_LIsArrow_v9 p_value).int) ((P_LIsArrow_v10 p_value).int)))) ∧ (((deq (eA (P_LIsArrow_v9 p_value)) (eA (P_LIsArrow_v10 p_value))) || ((!decide ((P_LAhead ((P_LIsArrow_v5 p_value).int) ((P_LIsArrow_v9 p_value).int) ((P_LIsArrow_v10 p_value).int)) = (P_LAhead ((P_LIsArrow_v7 p_value).int) ((P_LIsArrow_v9 p_value).int) ((P_LIsArrow_v10 p_value).int)))) || (!decide ((P_LAhead ((P_LIsArrow_v6 p_value).int) ((P_LIsArrow_v9 p_value).int) ((P_LIsArrow_v10 p_value).int)) = (P_LAhead ((P_LIsArrow_v8 p_value).int) ((P_LIsArrow_v9 p_value).int) ((P_LIsArrow_v10 p_value).int)))))) = false → ((P_LIsArrow_v5 p_value).isI = true) ∧ ((P_LIsArrow_v6 p_value).isI = true) ∧ (InR p_table ((6 * (P_LIsArrow_v5 p_value).int) + (P_LIsArrow_v6 p_value).int)) ∧ ((P_LIsArrow_v9 p_value).isI = true) ∧ ((P_LIsArrow_v10 p_value).isI = true) ∧ (Ok_LAhead (ixZ p_table ((6 * (P_LIsArrow_v5 p_value).int) + (P_LIsArrow_v6 p_value).int)) ((P_LIsArrow_v9 p_value).int) ((P_LIsArrow_v10 p_value).int)) ∧ ((P_LIsArrow_v7 p_value).isI = true) ∧ ((P_LIsArrow_v8 p_value).isI = true) ∧ (InR p_table ((6 * (P_LIsArrow_v7 p_value).int) + (P_LIsArrow_v8 p_value).int)) ∧ (Ok_LAhead (ixZ p_table ((6 * (P_LIsArrow_v7 p_value).int) + (P_LIsArrow_v8 p_value).int)) ((P_LIsArrow_v9 p_value).int) ((P_LIsArrow_v10 p_value).int)))))))
theorem P_LIsArrow_eq (p_table : (List Int)) (p_value : AV) (h : Ok_LIsArrow p_table p_value) (S : Store) : M_LIsArrow [(eT eI) p_table, eA p_value] S = some (eB (P_LIsArrow p_table p_value), S) := by
  unfold P_LIsArrow
  exact fn_P (ρ := (fun (z : Bool) => (eB z, S))) rfl ((pb_seq_if (Q := (RQ .pure S (fun (z : Bool) => (eB z, S)))) (p := false) (q := (bif (deq (eA (ixZ p_value.items 0)) (eS sx_one_rules_0)) then ((P_LNumbers p_value [2]) && (P_LOwn p_table ((ixZ p_value.items 1).int) 6)) else (bif ((deq (eA (ixZ p_value.items 0)) (eS sx_against_both_1)) && (P_LNumbers p_value [6, 6, 3, 3])) then ((!(deq (eA (P_LIsArrow_v3 p_value)) (eA (P_LIsArrow_v4 p_value)))) && ((P_LAhead ((P_LIsArrow_v1 p_value).int) ((P_LIsArrow_v3 p_value).int) ((P_LIsArrow_v4 p_value).int)) && ((P_LAhead ((P_LIsArrow_v2 p_value).int) ((P_LIsArrow_v3 p_value).int) ((P_LIsArrow_v4 p_value).int)) && (!(P_LAhead (ixZ p_table ((6 * (P_LIsArrow_v1 p_value).int) + (P_LIsArrow_v2 p_value).int)) ((P_LIsArrow_v3 p_value).int) ((P_LIsArrow_v4 p_value).int)))))) else (bif ((!(deq (eA (ixZ p_value.items 0)) (eS sx_not_alone_2))) || (!(P_LNumbers p_value [6, 6, 6, 6, 3, 3]))) then false else (bif ((deq (eA (P_LIsArrow_v9 p_value)) (eA (P_LIsArrow_v10 p_value))) || ((!decide ((P_LAhead ((P_LIsArrow_v5 p_value).int) ((P_LIsArrow_v9 p_value).int) ((P_LIsArrow_v10 p_value).int)) = (P_LAhead ((P_LIsArrow_v7 p_value).int) ((P_LIsArrow_v9 p_value).int) ((P_LIsArrow_v10 p_value).int)))) || (!decide ((P_LAhead ((P_LIsArrow_v6 p_value).int) ((P_LIsArrow_v9 p_value).int) ((P_LIsArrow_v10 p_value).int)) = (P_LAhead ((P_LIsArrow_v8 p_value).int) ((P_LIsArrow_v9 p_value).int) ((P_LIsArrow_v10 p_value).int)))))) then false else (!decide ((P_LAhead (ixZ p_table ((6 * (P_LIsArrow_v5 p_value).int) + (P_LIsArrow_v6 p_value).int)) ((P_LIsArrow_v9 p_value).int) ((P_LIsArrow_v10 p_value).int)) = (P_LAhead (ixZ p_table ((6 * (P_LIsArrow_v7 p_value).int) + (P_LIsArrow_v8 p_value).int)) ((P_LIsArrow_v9 p_value).int) ((P_LIsArrow_v10 p_value).int))))))))) (or_E (not_of (tru_of' (isi_tup rfl) tr_bl)) fun h1 => (or_E (not_of (tru_of' rfl tr_A)) fun h2 => (not_of (tru_of' (isi_str (ix_A rfl rfl ((h.1 h1) h2).1 ((h.1 h1) h2).2)) tr_bl)))) (fun h3 => (pb_seq_ret rfl (fin_pure (d := eB false) (fit_B false)))) fun h4 => (pb_seq_skip (pb_seq_if (Q := (RQ .pure S (fun (z : Bool) => (eB z, S)))) (p := ((P_LNumbers p_value [2]) && (P_LOwn p_table ((ixZ p_value.items 1).int) 6))) (q := (bif ((deq (eA (ixZ p_value.items 0)) (eS sx_against_both_1)) && (P_LNumbers p_value [6, 6, 3, 3])) then ((!(deq (eA (P_LIsArrow_v3 p_value)) (eA (P_LIsArrow_v4 p_value)))) && ((P_LAhead ((P_LIsArrow_v1 p_value).int) ((P_LIsArrow_v3 p_value).int) ((P_LIsArrow_v4 p_value).int)) && ((P_LAhead ((P_LIsArrow_v2 p_value).int) ((P_LIsArrow_v3 p_value).int) ((P_LIsArrow_v4 p_value).int)) && (!(P_LAhead (ixZ p_table ((6 * (P_LIsArrow_v1 p_value).int) + (P_LIsArrow_v2 p_value).int)) ((P_LIsArrow_v3 p_value).int) ((P_LIsArrow_v4 p_value).int)))))) else (bif ((!(deq (eA (ixZ p_value.items 0)) (eS sx_not_alone_2))) || (!(P_LNumbers p_value [6, 6, 6, 6, 3, 3]))) then false else (bif ((deq (eA (P_LIsArrow_v9 p_value)) (eA (P_LIsArrow_v10 p_value))) || ((!decide ((P_LAhead ((P_LIsArrow_v5 p_value).int) ((P_LIsArrow_v9 p_value).int) ((P_LIsArrow_v10 p_value).int)) = (P_LAhead ((P_LIsArrow_v7 p_value).int) ((P_LIsArrow_v9 p_value).int) ((P_LIsArrow_v10 p_value).int)))) || (!decide ((P_LAhead ((P_LIsArrow_v6 p_value).int) ((P_LIsArrow_v9 p_value).int) ((P_LIsArrow_v10 p_value).int)) = (P_LAhead ((P_LIsArrow_v8 p_value).int) ((P_LIsArrow_v9 p_value).int) ((P_LIsArrow_v10 p_value).int)))))) then false else (!decide ((P_LAhead (ixZ p_table ((6 * (P_LIsArrow_v5 p_value).int) + (P_LIsArrow_v6 p_value).int)) ((P_LIsArrow_v9 p_value).int) ((P_LIsArrow_v10 p_value).int)) = (P_LAhead (ixZ p_table ((6 * (P_LIsArrow_v7 p_value).int) + (P_LIsArrow_v8 p_value).int)) ((P_LIsArrow_v9 p_value).int) ((P_LIsArrow_v10 p_value).int)))))))) (tv_of (bin_of (ix_A rfl rfl (h.2 h4).1 (h.2 h4).2.1) rfl (eq_D (k := 32) (l := 32) ((fit_up (fit_A (k := 0)) (by decide)) (ixZ p_value.items 0)) (fit_S sx_one_rules_0) (by decide) (by decide)))) (fun h5 => (pb_seq_ret (andv_E (call_of (cons_of rfl (cons_of (val_E (lst_E (cons_of rfl nil_of) (Nat.le_of_ble_eq_true rfl))) nil_of)) (P_LNumbers_eq p_value [2] ((h.2 h4).2.2.1 h5).1 _)) fun h7 => (call_of (cons_of rfl (cons_of (coI (ix_A rfl rfl (((h.2 h4).2.2.1 h5).2 h7).1 (((h.2 h4).2.2.1 h5).2 h7).2.1) (((h.2 h4).2.2.1 h5).2 h7).2.2.1) (cons_of rfl nil_of))) (P_LOwn_eq p_table ((ixZ p_value.items 1).int) 6 (((h.2 h4).2.2.1 h5).2 h7).2.2.2 _))) (fin_pure (d := eB ((P_LNumbers p_value [2]) && (P_LOwn p_table ((ixZ p_value.items 1).int) 6))) (fit_B ((P_LNumbers p_value [2]) && (P_LOwn p_table ((ixZ p_value.items 1).int) 6)))))) fun h6 => (pb_seq_skip (pb_seq_if (Q := (RQ .pure S (fun (z : Bool) => (eB z, S)))) (p := ((!(deq (eA (P_LIsArrow_v3 p_value)) (eA (P_LIsArrow_v4 p_value)))) && ((P_LAhead ((P_LIsArrow_v1 p_value).int) ((P_LIsArrow_v3 p_value).int) ((P_LIsArrow_v4 p_value).int)) && ((P_LAhead ((P_LIsArrow_v2 p_value).int) ((P_LIsArrow_v3 p_value).int) ((P_LIsArrow_v4 p_value).int)) && (!(P_LAhead (ixZ p_table ((6 * (P_LIsArrow_v1 p_value).int) + (P_LIsArrow_v2 p_value).int)) ((P_LIsArrow_v3 p_value).int) ((P_LIsArrow_v4 p_value).int))))))) (q := (bif ((!(deq (eA (ixZ p_value.items 0)) (eS sx_not_alone_2))) || (!(P_LNumbers p_value [6, 6, 6, 6, 3, 3]))) then false else (bif ((deq (eA (P_LIsArrow_v9 p_value)) (eA (P_LIsArrow_v10 p_value))) || ((!decide ((P_LAhead ((P_LIsArrow_v5 p_value).int) ((P_LIsArrow_v9 p_value).int) ((P_LIsArrow_v10 p_value).int)) = (P_LAhead ((P_LIsArrow_v7 p_value).int) ((P_LIsArrow_v9 p_value).int) ((P_LIsArrow_v10 p_value).int)))) || (!decide ((P_LAhead ((P_LIsArrow_v6 p_value).int) ((P_LIsArrow_v9 p_value).int) ((P_LIsArrow_v10 p_value).int)) = (P_LAhead ((P_LIsArrow_v8 p_value).int) ((P_LIsArrow_v9 p_value).int) ((P_LIsArrow_v10 p_value).int)))))) then false else (!decide ((P_LAhead (ixZ p_table ((6 * (P_LIsArrow_v5 p_value).int) + (P_LIsArrow_v6 p_value).int)) ((P_LIsArrow_v9 p_value).int) ((P_LIsArrow_v10 p_value).int)) = (P_LAhead (ixZ p_table ((6 * (P_LIsArrow_v7 p_value).int) + (P_LIsArrow_v8 p_value).int)) ((P_LIsArrow_v9 p_value).int) ((P_LIsArrow_v10 p_value).int))))))) (and_E (tv_of (bin_of (ix_A rfl rfl ((h.2 h4).2.2.2 h6).1 ((h.2 h4).2.2.2 h6).2.1) rfl (eq_D (k := 32) (l := 32) ((fit_up (fit_A (k := 0)) (by decide)) (ixZ p_value.items 0)) (fit_S sx_against_both_1) (by decide) (by decide)))) fun h8 => (tru_of' (call_of (cons_of rfl (cons_of (val_E (lst_E (cons_of rfl (cons_of rfl (cons_of rfl (cons_of rfl nil_of)))) (Nat.le_of_ble_eq_true rfl))) nil_of)) (P_LNumbers_eq p_value [6, 6, 3, 3] (((h.2 h4).2.2.2 h6).2.2.1 h8) _)) tr_bl)) (fun h9 => (pb_assoc (pb_seq (e1 := [some ((eT eI) p_table), some (eA p_value), some (eA (P_LIsArrow_v1 p_value)), some (eA (P_LIsArrow_v2 p_value)), none, none, some (eA (P_LIsArrow_v3 p_value)), some (eA (P_LIsArrow_v4 p_value))]) (asg_tpT4 (sl_T (coT rfl (((h.2 h4).2.2.2 h6).2.2.2.1 h9).1) (o1_of rfl) rfl) (((h.2 h4).2.2.2 h6).2.2.2.1 h9).2.1) (pb_seq_ret (andv_E (bin_of rfl rfl (ne_D (k := 32) (l := 32) ((fit_up (fit_A (k := 0)) (by decide)) (P_LIsArrow_v3 p_value)) ((fit_up (fit_A (k := 0)) (by decide)) (P_LIsArrow_v4 p_value)) (by decide) (by decide))) fun h11 => (andv_E (call_of (cons_of (coI rfl ((((h.2 h4).2.2.2 h6).2.2.2.1 h9).2.2 h11).1) (cons_of (coI rfl ((((h.2 h4).2.2.2 h6).2.2.2.1 h9).2.2 h11).2.1) (cons_of (coI rfl ((((h.2 h4).2.2.2 h6).2.2.2.1 h9).2.2 h11).2.2.1) nil_of))) (P_LAhead_eq ((P_LIsArrow_v1 p_value).int) ((P_LIsArrow_v3 p_value).int) ((P_LIsArrow_v4 p_value).int) ((((h.2 h4).2.2.2 h6).2.2.2.1 h9).2.2 h11).2.2.2.1 _)) fun h12 => (andv_E (call_of (cons_of (coI rfl (((((h.2 h4).2.2.2 h6).2.2.2.1 h9).2.2 h11).2.2.2.2 h12).1) (cons_of (coI rfl (((((h.2 h4).2.2.2 h6).2.2.2.1 h9).2.2 h11).2.2.2.2 h12).2.1) (cons_of (coI rfl (((((h.2 h4).2.2.2 h6).2.2.2.1 h9).2.2 h11).2.2.2.2 h12).2.2.1) nil_of))) (P_LAhead_eq ((P_LIsArrow_v2 p_value).int) ((P_LIsArrow_v3 p_value).int) ((P_LIsArrow_v4 p_value).int) (((((h.2 h4).2.2.2 h6).2.2.2.1 h9).2.2 h11).2.2.2.2 h12).2.2.2.1 _)) fun h13 => (notv_E (call_of (cons_of (ix_T rfl (bin_of (bin_of rfl (coI rfl ((((((h.2 h4).2.2.2 h6).2.2.2.1 h9).2.2 h11).2.2.2.2 h12).2.2.2.2 h13).1) (mul_of (.inl (by decide)))) (coI rfl ((((((h.2 h4).2.2.2 h6).2.2.2.1 h9).2.2 h11).2.2.2.2 h12).2.2.2.2 h13).2.1) r_add) ((((((h.2 h4).2.2.2 h6).2.2.2.1 h9).2.2 h11).2.2.2.2 h12).2.2.2.2 h13).2.2.1) (cons_of (coI rfl ((((((h.2 h4).2.2.2 h6).2.2.2.1 h9).2.2 h11).2.2.2.2 h12).2.2.2.2 h13).2.2.2.1) (cons_of (coI rfl ((((((h.2 h4).2.2.2 h6).2.2.2.1 h9).2.2 h11).2.2.2.2 h12).2.2.2.2 h13).2.2.2.2.1) nil_of))) (P_LAhead_eq (ixZ p_table ((6 * (P_LIsArrow_v1 p_value).int) + (P_LIsArrow_v2 p_value).int)) ((P_LIsArrow_v3 p_value).int) ((P_LIsArrow_v4 p_value).int) ((((((h.2 h4).2.2.2 h6).2.2.2.1 h9).2.2 h11).2.2.2.2 h12).2.2.2.2 h13).2.2.2.2.2 _)) tr_bl)))) (fin_pure (d := eB ((!(deq (eA (P_LIsArrow_v3 p_value)) (eA (P_LIsArrow_v4 p_value)))) && ((P_LAhead ((P_LIsArrow_v1 p_value).int) ((P_LIsArrow_v3 p_value).int) ((P_LIsArrow_v4 p_value).int)) && ((P_LAhead ((P_LIsArrow_v2 p_value).int) ((P_LIsArrow_v3 p_value).int) ((P_LIsArrow_v4 p_value).int)) && (!(P_LAhead (ixZ p_table ((6 * (P_LIsArrow_v1 p_value).int) + (P_LIsArrow_v2 p_value).int)) ((P_LIsArrow_v3 p_value).int) ((P_LIsArrow_v4 p_value).int))))))) (fit_B ((!(deq (eA (P_LIsArrow_v3 p_value)) (eA (P_LIsArrow_v4 p_value)))) && ((P_LAhead ((P_LIsArrow_v1 p_value).int) ((P_LIsArrow_v3 p_value).int) ((P_LIsArrow_v4 p_value).int)) && ((P_LAhead ((P_LIsArrow_v2 p_value).int) ((P_LIsArrow_v3 p_value).int) ((P_LIsArrow_v4 p_value).int)) && (!(P_LAhead (ixZ p_table ((6 * (P_LIsArrow_v1 p_value).int) + (P_LIsArrow_v2 p_value).int)) ((P_LIsArrow_v3 p_value).int) ((P_LIsArrow_v4 p_value).int)))))))))))) fun h10 => (pb_seq_skip (pb_seq_if (Q := (RQ .pure S (fun (z : Bool) => (eB z, S)))) (p := false) (q := (bif ((deq (eA (P_LIsArrow_v9 p_value)) (eA (P_LIsArrow_v10 p_value))) || ((!decide ((P_LAhead ((P_LIsArrow_v5 p_value).int) ((P_LIsArrow_v9 p_value).int) ((P_LIsArrow_v10 p_value).int)) = (P_LAhead ((P_LIsArrow_v7 p_value).int) ((P_LIsArrow_v9 p_value).int) ((P_LIsArrow_v10 p_value).int)))) || (!decide ((P_LAhead ((P_LIsArrow_v6 p_value).int) ((P_LIsArrow_v9 p_value).int) ((P_LIsArrow_v10 p_value).int)) = (P_LAhead ((P_LIsArrow_v8 p_value).int) ((P_LIsArrow_v9 p_value).int) ((P_LIsArrow_v10 p_value).int)))))) then false else (!decide ((P_LAhead (ixZ p_table ((6 * (P_LIsArrow_v5 p_value).int) + (P_LIsArrow_v6 p_value).int)) ((P_LIsArrow_v9 p_value).int) ((P_LIsArrow_v10 p_value).int)) = (P_LAhead (ixZ p_table ((6 * (P_LIsArrow_v7 p_value).int) + (P_LIsArrow_v8 p_value).int)) ((P_LIsArrow_v9 p_value).int) ((P_LIsArrow_v10 p_value).int)))))) (or_E (tv_of (bin_of (ix_A rfl rfl (((h.2 h4).2.2.2 h6).2.2.2.2 h10).1 (((h.2 h4).2.2.2 h6).2.2.2.2 h10).2.1) rfl (ne_D (k := 32) (l := 32) ((fit_up (fit_A (k := 0)) (by decide)) (ixZ p_value.items 0)) (fit_S sx_not_alone_2) (by decide) (by decide)))) fun h14 => (not_of (tru_of' (call_of (cons_of rfl (cons_of (val_E (lst_E (cons_of rfl (cons_of rfl (cons_of rfl (cons_of rfl (cons_of rfl (cons_of rfl nil_of)))))) (Nat.le_of_ble_eq_true rfl))) nil_of)) (P_LNumbers_eq p_value [6, 6, 6, 6, 3, 3] ((((h.2 h4).2.2.2 h6).2.2.2.2 h10).2.2.1 h14) _)) tr_bl))) (fun h15 => (pb_seq_ret rfl (fin_pure (d := eB false) (fit_B false)))) fun h16 => (pb_seq_skip (pb_seq (e1 := [some ((eT eI) p_table), some (eA p_value), some (eA (P_LIsArrow_v5 p_value)), some (eA (P_LIsArrow_v6 p_value)), some (eA (P_LIsArrow_v7 p_value)), some (eA (P_LIsArrow_v8 p_value)), some (eA (P_LIsArrow_v9 p_value)), some (eA (P_LIsArrow_v10 p_value))]) (asg_tpT6 (sl_T (coT rfl ((((h.2 h4).2.2.2 h6).2.2.2.2 h10).2.2.2 h16).1) (o1_of rfl) rfl) ((((h.2 h4).2.2.2 h6).2.2.2.2 h10).2.2.2 h16).2.1) (pb_seq_if (Q := (RQ .pure S (fun (z : Bool) => (eB z, S)))) (p := false) (q := (!decide ((P_LAhead (ixZ p_table ((6 * (P_LIsArrow_v5 p_value).int) + (P_LIsArrow_v6 p_value).int)) ((P_LIsArrow_v9 p_value).int) ((P_LIsArrow_v10 p_value).int)) = (P_LAhead (ixZ p_table ((6 * (P_LIsArrow_v7 p_value).int) + (P_LIsArrow_v8 p_value).int)) ((P_LIsArrow_v9 p_value).int) ((P_LIsArrow_v10 p_value).int))))) (or_E (tv_of (bin_of rfl rfl (eq_D (k := 32) (l := 32) ((fit_up (fit_A (k := 0)) (by decide)) (P_LIsArrow_v9 p_value)) ((fit_up (fit_A (k := 0)) (by decide)) (P_LIsArrow_v10 p_value)) (by decide) (by decide)))) fun h17 => (or_E (tv_of (bin_of (call_of (cons_of (coI rfl (((((h.2 h4).2.2.2 h6).2.2.2.2 h10).2.2.2 h16).2.2.1 h17).1) (cons_of (coI rfl (((((h.2 h4).2.2.2 h6).2.2.2.2 h10).2.2.2 h16).2.2.1 h17).2.1) (cons_of (coI rfl (((((h.2 h4).2.2.2 h6).2.2.2.2 h10).2.2.2 h16).2.2.1 h17).2.2.1) nil_of))) (P_LAhead_eq ((P_LIsArrow_v5 p_value).int) ((P_LIsArrow_v9 p_value).int) ((P_LIsArrow_v10 p_value).int) (((((h.2 h4).2.2.2 h6).2.2.2.2 h10).2.2.2 h16).2.2.1 h17).2.2.2.1 _)) (call_of (cons_of (coI rfl (((((h.2 h4).2.2.2 h6).2.2.2.2 h10).2.2.2 h16).2.2.1 h17).2.2.2.2.1) (cons_of (coI rfl (((((h.2 h4).2.2.2 h6).2.2.2.2 h10).2.2.2 h16).2.2.1 h17).2.1) (cons_of (coI rfl (((((h.2 h4).2.2.2 h6).2.2.2.2 h10).2.2.2 h16).2.2.1 h17).2.2.1) nil_of))) (P_LAhead_eq ((P_LIsArrow_v7 p_value).int) ((P_LIsArrow_v9 p_value).int) ((P_LIsArrow_v10 p_value).int) (((((h.2 h4).2.2.2 h6).2.2.2.2 h10).2.2.2 h16).2.2.1 h17).2.2.2.2.2.1 _)) (ne_E (en := eB) (p := (P_LAhead ((P_LIsArrow_v5 p_value).int) ((P_LIsArrow_v9 p_value).int) ((P_LIsArrow_v10 p_value).int))) (q := (P_LAhead ((P_LIsArrow_v7 p_value).int) ((P_LIsArrow_v9 p_value).int) ((P_LIsArrow_v10 p_value).int))) eqv_B))) fun h18 => (tv_of (bin_of (call_of (cons_of (coI rfl ((((((h.2 h4).2.2.2 h6).2.2.2.2 h10).2.2.2 h16).2.2.1 h17).2.2.2.2.2.2 h18).1) (cons_of (coI rfl ((((((h.2 h4).2.2.2 h6).2.2.2.2 h10).2.2.2 h16).2.2.1 h17).2.2.2.2.2.2 h18).2.1) (cons_of (coI rfl ((((((h.2 h4).2.2.2 h6).2.2.2.2 h10).2.2.2 h16).2.2.1 h17).2.2.2.2.2.2 h18).2.2.1) nil_of))) (P_LAhead_eq ((P_LIsArrow_v6 p_value).int) ((P_LIsArrow_v9 p_value).int) ((P_LIsArrow_v10 p_value).int) ((((((h.2 h4).2.2.2 h6).2.2.2.2 h10).2.2.2 h16).2.2.1 h17).2.2.2.2.2.2 h18).2.2.2.1 _)) (call_of (cons_of (coI rfl ((((((h.2 h4).2.2.2 h6).2.2.2.2 h10).2.2.2 h16).2.2.1 h17).2.2.2.2.2.2 h18).2.2.2.2.1) (cons_of (coI rfl ((((((h.2 h4).2.2.2 h6).2.2.2.2 h10).2.2.2 h16).2.2.1 h17).2.2.2.2.2.2 h18).2.1) (cons_of (coI rfl ((((((h.2 h4).2.2.2 h6).2.2.2.2 h10).2.2.2 h16).2.2.1 h17).2.2.2.2.2.2 h18).2.2.1) nil_of))) (P_LAhead_eq ((P_LIsArrow_v8 p_value).int) ((P_LIsArrow_v9 p_value).int) ((P_LIsArrow_v10 p_value).int) ((((((h.2 h4).2.2.2 h6).2.2.2.2 h10).2.2.2 h16).2.2.1 h17).2.2.2.2.2.2 h18).2.2.2.2.2 _)) (ne_E (en := eB) (p := (P_LAhead ((P_LIsArrow_v6 p_value).int) ((P_LIsArrow_v9 p_value).int) ((P_LIsArrow_v10 p_value).int))) (q := (P_LAhead ((P_LIsArrow_v8 p_value).int) ((P_LIsArrow_v9 p_value).int) ((P_LIsArrow_v10 p_value).int))) eqv_B))))) (fun h19 => (pb_seq_ret rfl (fin_pure (d := eB false) (fit_B false)))) fun h20 => (pb_seq_skip (pb_ret (bin_of (call_of (cons_of (ix_T rfl (bin_of (bin_of rfl (coI rfl (((((h.2 h4).2.2.2 h6).2.2.2.2 h10).2.2.2 h16).2.2.2 h20).1) (mul_of (.inl (by decide)))) (coI rfl (((((h.2 h4).2.2.2 h6).2.2.2.2 h10).2.2.2 h16).2.2.2 h20).2.1) r_add) (((((h.2 h4).2.2.2 h6).2.2.2.2 h10).2.2.2 h16).2.2.2 h20).2.2.1) (cons_of (coI rfl (((((h.2 h4).2.2.2 h6).2.2.2.2 h10).2.2.2 h16).2.2.2 h20).2.2.2.1) (cons_of (coI rfl (((((h.2 h4).2.2.2 h6).2.2.2.2 h10).2.2.2 h16).2.2.2 h20).2.2.2.2.1) nil_of))) (P_LAhead_eq (ixZ p_table ((6 * (P_LIsArrow_v5 p_value).int) + (P_LIsArrow_v6 p_value).int)) ((P_LIsArrow_v9 p_value).int) ((P_LIsArrow_v10 p_value).int) (((((h.2 h4).2.2.2 h6).2.2.2.2 h10).2.2.2 h16).2.2.2 h20).2.2.2.2.2.1 _)) (call_of (cons_of (ix_T rfl (bin_of (bin_of rfl (coI rfl (((((h.2 h4).2.2.2 h6).2.2.2.2 h10).2.2.2 h16).2.2.2 h20).2.2.2.2.2.2.1) (mul_of (.inl (by decide)))) (coI rfl (((((h.2 h4).2.2.2 h6).2.2.2.2 h10).2.2.2 h16).2.2.2 h20).2.2.2.2.2.2.2.1) r_add) (((((h.2 h4).2.2.2 h6).2.2.2.2 h10).2.2.2 h16).2.2.2 h20).2.2.2.2.2.2.2.2.1) (cons_of (coI rfl (((((h.2 h4).2.2.2 h6).2.2.2.2 h10).2.2.2 h16).2.2.2 h20).2.2.2.1) (cons_of (coI rfl (((((h.2 h4).2.2.2 h6).2.2.2.2 h10).2.2.2 h16).2.2.2 h20).2.2.2.2.1) nil_of))) (P_LAhead_eq (ixZ p_table ((6 * (P_LIsArrow_v7 p_value).int) + (P_LIsArrow_v8 p_value).int)) ((P_LIsArrow_v9 p_value).int) ((P_LIsArrow_v10 p_value).int) (((((h.2 h4).2.2.2 h6).2.2.2.2 h10).2.2.2 h16).2.2.2 h20).2.2.2.2.2.2.2.2.2 _)) (ne_E (en := eB) (p := (P_LAhead (ixZ p_table ((6 * (P_LIsArrow_v5 p_value).int) + (P_LIsArrow_v6 p_value).int)) ((P_LIsArrow_v9 p_value).int) ((P_LIsArrow_v10 p_value).int))) (q := (P_LAhead (ixZ p_table ((6 * (P_LIsArrow_v7 p_value).int) + (P_LIsArrow_v8 p_value).int)) ((P_LIsArrow_v9 p_value).int) ((P_LIsArrow_v10 p_value).int))) eqv_B)) (fin_pure (d := eB (!decide ((P_LAhead (ixZ p_table ((6 * (P_LIsArrow_v5 p_value).int) + (P_LIsArrow_v6 p_value).int)) ((P_LIsArrow_v9 p_value).int) ((P_LIsArrow_v10 p_value).int)) = (P_LAhead (ixZ p_table ((6 * (P_LIsArrow_v7 p_value).int) + (P_LIsArrow_v8 p_value).int)) ((P_LIsArrow_v9 p_value).int) ((P_LIsArrow_v10 p_value).int))))) (fit_B (!decide ((P_LAhead (ixZ p_table ((6 * (P_LIsArrow_v5 p_value).int) + (P_LIsArrow_v6 p_value).int)) ((P_LIsArrow_v9 p_value).int) ((P_LIsArrow_v10 p_value).int)) = (P_LAhead (ixZ p_table ((6 * (P_LIsArrow_v7 p_value).int) + (P_LIsArrow_v8 p_value).int)) ((P_LIsArrow_v9 p_value).int) ((P_LIsArrow_v10 p_value).int)))))))))))))))))))
def P_LIsChoice_v1 (p_value : AV) : AV := (ixZ (cutZ p_value.items (some 1) none) 0)
def P_LIsChoice_v2 (p_value : AV) : AV := (ixZ (cutZ p_value.items (some 1) none) 1)
def P_LIsChoice_v3 (p_value : AV) : AV := (ixZ (cutZ p_value.items (some 1) none) 2)
def P_LIsChoice_v4 (p_value : AV) : AV := (ixZ (cutZ p_value.items (some 1) none) 3)
def P_LIsChoice_v5 (p_table : (List Int)) (p_value : AV) : Int := (ixZ p_table ((6 * (P_LIsChoice_v2 p_value).int) + (P_LIsChoice_v3 p_value).int))
def P_LIsChoice_v6 (p_table : (List Int)) (p_value : AV) : Int := (bif (deq (eA (P_LIsChoice_v1 p_value)) (eI 0)) then (ixZ p_table ((6 * (P_LIsChoice_v4 p_value).int) + (P_LIsChoice_v3 p_value).int)) else (ixZ p_table ((6 * (P_LIsChoice_v2 p_value).int) + (P_LIsChoice_v4 p_value).int)))
def P_LIsChoice (p_table : (List Int)) (p_value : AV) : Bool := (bif ((!p_value.isTup) || ((!p_value.tru) || (!((ixZ p_value.items 0).isStr)))) then false else (bif (deq (eA (ixZ p_value.items 0)) (eS sx_one_chooses_3)) then ((P_LNumbers p_value [2]) && (P_LOwn p_table ((ixZ p_value.items 1).int) 3)) else (bif (deq (eA (ixZ p_value.items 0)) (eS sx_never)) then ((P_LNumbers p_value [3]) && (!(p_table.any fun z => deq (eI z) (eA (ixZ p_value.items 1))))) else (bif ((!(deq (eA (ixZ p_value.items 0)) (eS sx_gains))) || (!(P_LNumbers p_value [2, 6, 6, 6]))) then false else ((!decide ((P_LIsChoice_v5 p_table p_value) = (P_LIsChoice_v6 p_table p_value))) && (P_LAhead ((ixZ [(P_LIsChoice_v2 p_value), (P_LIsChoice_v3 p_value)] ((P_LIsChoice_v1 p_value).int)).int) (P_LIsChoice_v6 p_table p_value) (P_LIsChoice_v5 p_table p_value)))))))
def Ok_LIsChoice (p_table : (List Int)) (p_value : AV) : Prop := ((!p_value.isTup) = false → ((!p_value.tru) = false → (p_value.isTup = true) ∧ (InR p_value.items 0))) ∧ (((!p_value.isTup) || ((!p_value.tru) || (!((ixZ p_value.items 0).isStr)))) = false → (p_value.isTup = true) ∧ (InR p_value.items 0) ∧ ((deq (eA (ixZ p_value.items 0)) (eS sx_one_chooses_3)) = true → (Ok_LNumbers p_value [2]) ∧ ((P_LNumbers p_value [2]) = true → (p_value.isTup = true) ∧ (InR p_value.items 1) ∧ ((ixZ p_value.items 1).isI = true) ∧ (Ok_LOwn p_table ((ixZ p_value.items 1).int) 3))) ∧ ((deq (eA (ixZ p_value.items 0)) (eS sx_one_chooses_3)) = false → (p_value.isTup = true) ∧ (InR p_value.items 0) ∧ ((deq (eA (ixZ p_value.items 0)) (eS sx_never)) = true → (Ok_LNumbers p_value [3]) ∧ ((P_LNumbers p_value [3]) = true → (p_value.isTup = true) ∧ (InR p_value.items 1))) ∧ ((deq (eA (ixZ p_value.items 0)) (eS sx_never)) = false → (p_value.isTup = true) ∧ (InR p_value.items 0) ∧ ((!(deq (eA (ixZ p_value.items 0)) (eS sx_gains))) = false → (Ok_LNumbers p_value [2, 6, 6, 6])) ∧ (((!(deq (eA (ixZ p_value.items 0)) (eS sx_gains))) || (!(P_LNumbers p_value [2, 6, 6, 6]))) = false → (p_value.isTup = true) ∧ ((cutZ p_value.items (some 1) none).length = 4) ∧ ((P_LIsChoice_v2 p_value).isI = true) ∧ ((P_LIsChoice_v3 p_value).isI = true) ∧ (InR p_table ((6 * (P_LIsChoice_v2 p_value).int) + (P_LIsChoice_v3 p_value).int)) ∧ ((deq (eA (P_LIsChoice_v1 p_value)) (eI 0)) = true → ((P_LIsChoice_v4 p_value).isI = true) ∧ ((P_LIsChoice_v3 p_value).isI = true) ∧ (InR p_table ((6 * (P_LIsChoice_v4 p_value).int) + (P_LIsChoice_v3 p_value).int))) ∧ ((deq (eA (P_LIsChoice_v1 p_value)) (eI 0)) = false → ((P_LIsChoice_v2 p_value).isI = true) ∧ ((P_LIsChoice_v4 p_value).isI = true) ∧ (InR p_table ((6 * (P_LIsChoice_v2 p_value).int) + (P_LIsChoice_v4 p_value).int))) ∧ ((!decide ((P_LIsChoice_v5 p_table p_value) = (P_LIsChoice_v6 p_table p_value))) = true → ((P_LIsChoice_v1 p_value).isI = true) ∧ (InR [(P_LIsChoice_v2 p_value), (P_LIsChoice_v3 p_value)] ((P_LIsChoice_v1 p_value).int)) ∧ ((ixZ [(P_LIsChoice_v2 p_value), (P_LIsChoice_v3 p_value)] ((P_LIsChoice_v1 p_value).int)).isI = true) ∧ (Ok_LAhead ((ixZ [(P_LIsChoice_v2 p_value), (P_LIsChoice_v3 p_value)] ((P_LIsChoice_v1 p_value).int)).int) (P_LIsChoice_v6 p_table p_value) (P_LIsChoice_v5 p_table p_value)))))))
theorem P_LIsChoice_eq (p_table : (List Int)) (p_value : AV) (h : Ok_LIsChoice p_table p_value) (S : Store) : M_LIsChoice [(eT eI) p_table, eA p_value] S = some (eB (P_LIsChoice p_table p_value), S) := by
  unfold P_LIsChoice
  exact fn_P (ρ := (fun (z : Bool) => (eB z, S))) rfl ((pb_seq_if (Q := (RQ .pure S (fun (z : Bool) => (eB z, S)))) (p := false) (q := (bif (deq (eA (ixZ p_value.items 0)) (eS sx_one_chooses_3)) then ((P_LNumbers p_value [2]) && (P_LOwn p_table ((ixZ p_value.items 1).int) 3)) else (bif (deq (eA (ixZ p_value.items 0)) (eS sx_never)) then ((P_LNumbers p_value [3]) && (!(p_table.any fun z => deq (eI z) (eA (ixZ p_value.items 1))))) else (bif ((!(deq (eA (ixZ p_value.items 0)) (eS sx_gains))) || (!(P_LNumbers p_value [2, 6, 6, 6]))) then false else ((!decide ((P_LIsChoice_v5 p_table p_value) = (P_LIsChoice_v6 p_table p_value))) && (P_LAhead ((ixZ [(P_LIsChoice_v2 p_value), (P_LIsChoice_v3 p_value)] ((P_LIsChoice_v1 p_value).int)).int) (P_LIsChoice_v6 p_table p_value) (P_LIsChoice_v5 p_table p_value))))))) (or_E (not_of (tru_of' (isi_tup rfl) tr_bl)) fun h1 => (or_E (not_of (tru_of' rfl tr_A)) fun h2 => (not_of (tru_of' (isi_str (ix_A rfl rfl ((h.1 h1) h2).1 ((h.1 h1) h2).2)) tr_bl)))) (fun h3 => (pb_seq_ret rfl (fin_pure (d := eB false) (fit_B false)))) fun h4 => (pb_seq_skip (pb_seq_if (Q := (RQ .pure S (fun (z : Bool) => (eB z, S)))) (p := ((P_LNumbers p_value [2]) && (P_LOwn p_table ((ixZ p_value.items 1).int) 3))) (q := (bif (deq (eA (ixZ p_value.items 0)) (eS sx_never)) then ((P_LNumbers p_value [3]) && (!(p_table.any fun z => deq (eI z) (eA (ixZ p_value.items 1))))) else (bif ((!(deq (eA (ixZ p_value.items 0)) (eS sx_gains))) || (!(P_LNumbers p_value [2, 6, 6, 6]))) then false else ((!decide ((P_LIsChoice_v5 p_table p_value) = (P_LIsChoice_v6 p_table p_value))) && (P_LAhead ((ixZ [(P_LIsChoice_v2 p_value), (P_LIsChoice_v3 p_value)] ((P_LIsChoice_v1 p_value).int)).int) (P_LIsChoice_v6 p_table p_value) (P_LIsChoice_v5 p_table p_value)))))) (tv_of (bin_of (ix_A rfl rfl (h.2 h4).1 (h.2 h4).2.1) rfl (eq_D (k := 32) (l := 32) ((fit_up (fit_A (k := 0)) (by decide)) (ixZ p_value.items 0)) (fit_S sx_one_chooses_3) (by decide) (by decide)))) (fun h5 => (pb_seq_ret (andv_E (call_of (cons_of rfl (cons_of (val_E (lst_E (cons_of rfl nil_of) (Nat.le_of_ble_eq_true rfl))) nil_of)) (P_LNumbers_eq p_value [2] ((h.2 h4).2.2.1 h5).1 _)) fun h7 => (call_of (cons_of rfl (cons_of (coI (ix_A rfl rfl (((h.2 h4).2.2.1 h5).2 h7).1 (((h.2 h4).2.2.1 h5).2 h7).2.1) (((h.2 h4).2.2.1 h5).2 h7).2.2.1) (cons_of rfl nil_of))) (P_LOwn_eq p_table ((ixZ p_value.items 1).int) 3 (((h.2 h4).2.2.1 h5).2 h7).2.2.2 _))) (fin_pure (d := eB ((P_LNumbers p_value [2]) && (P_LOwn p_table ((ixZ p_value.items 1).int) 3))) (fit_B ((P_LNumbers p_value [2]) && (P_LOwn p_table ((ixZ p_value.items 1).int) 3)))))) fun h6 => (pb_seq_skip (pb_seq_if (Q := (RQ .pure S (fun (z : Bool) => (eB z, S)))) (p := ((P_LNumbers p_value [3]) && (!(p_table.any fun z => deq (eI z) (eA (ixZ p_value.items 1)))))) (q := (bif ((!(deq (eA (ixZ p_value.items 0)) (eS sx_gains))) || (!(P_LNumbers p_value [2, 6, 6, 6]))) then false else ((!decide ((P_LIsChoice_v5 p_table p_value) = (P_LIsChoice_v6 p_table p_value))) && (P_LAhead ((ixZ [(P_LIsChoice_v2 p_value), (P_LIsChoice_v3 p_value)] ((P_LIsChoice_v1 p_value).int)).int) (P_LIsChoice_v6 p_table p_value) (P_LIsChoice_v5 p_table p_value))))) (tv_of (bin_of (ix_A rfl rfl ((h.2 h4).2.2.2 h6).1 ((h.2 h4).2.2.2 h6).2.1) rfl (eq_D (k := 32) (l := 32) ((fit_up (fit_A (k := 0)) (by decide)) (ixZ p_value.items 0)) (fit_S sx_never) (by decide) (by decide)))) (fun h8 => (pb_seq_ret (andv_E (call_of (cons_of rfl (cons_of (val_E (lst_E (cons_of rfl nil_of) (Nat.le_of_ble_eq_true rfl))) nil_of)) (P_LNumbers_eq p_value [3] (((h.2 h4).2.2.2 h6).2.2.1 h8).1 _)) fun h10 => (bin_of (ix_A rfl rfl ((((h.2 h4).2.2.2 h6).2.2.1 h8).2 h10).1 ((((h.2 h4).2.2.2 h6).2.2.1 h8).2 h10).2) rfl (nin_D (k := 32) (en := eI) (fun z _ => fit_I z) ((fit_up (fit_A (k := 0)) (by decide)) (ixZ p_value.items 1)) (by decide) rfl))) (fin_pure (d := eB ((P_LNumbers p_value [3]) && (!(p_table.any fun z => deq (eI z) (eA (ixZ p_value.items 1)))))) (fit_B ((P_LNumbers p_value [3]) && (!(p_table.any fun z => deq (eI z) (eA (ixZ p_value.items 1))))))))) fun h9 => (pb_seq_skip (pb_seq_if (Q := (RQ .pure S (fun (z : Bool) => (eB z, S)))) (p := false) (q := ((!decide ((P_LIsChoice_v5 p_table p_value) = (P_LIsChoice_v6 p_table p_value))) && (P_LAhead ((ixZ [(P_LIsChoice_v2 p_value), (P_LIsChoice_v3 p_value)] ((P_LIsChoice_v1 p_value).int)).int) (P_LIsChoice_v6 p_table p_value) (P_LIsChoice_v5 p_table p_value)))) (or_E (tv_of (bin_of (ix_A rfl rfl (((h.2 h4).2.2.2 h6).2.2.2 h9).1 (((h.2 h4).2.2.2 h6).2.2.2 h9).2.1) rfl (ne_D (k := 32) (l := 32) ((fit_up (fit_A (k := 0)) (by decide)) (ixZ p_value.items 0)) (fit_S sx_gains) (by decide) (by decide)))) fun h11 => (not_of (tru_of' (call_of (cons_of rfl (cons_of (val_E (lst_E (cons_of rfl (cons_of rfl (cons_of rfl (cons_of rfl nil_of)))) (Nat.le_of_ble_eq_true rfl))) nil_of)) (P_LNumbers_eq p_value [2, 6, 6, 6] ((((h.2 h4).2.2.2 h6).2.2.2 h9).2.2.1 h11) _)) tr_bl))) (fun h12 => (pb_seq_ret rfl (fin_pure (d := eB false) (fit_B false)))) fun h13 => (pb_seq_skip (pb_seq (e1 := [some ((eT eI) p_table), some (eA p_value), some (eA (P_LIsChoice_v1 p_value)), some (eA (P_LIsChoice_v2 p_value)), some (eA (P_LIsChoice_v3 p_value)), some (eA (P_LIsChoice_v4 p_value)), none, none]) (asg_tpT4 (sl_T (coT rfl ((((h.2 h4).2.2.2 h6).2.2.2 h9).2.2.2 h13).1) (o1_of rfl) rfl) ((((h.2 h4).2.2.2 h6).2.2.2 h9).2.2.2 h13).2.1) (pb_seq (e1 := [some ((eT eI) p_table), some (eA p_value), some (eA (P_LIsChoice_v1 p_value)), some (eA (P_LIsChoice_v2 p_value)), some (eA (P_LIsChoice_v3 p_value)), some (eA (P_LIsChoice_v4 p_value)), some (eI (P_LIsChoice_v5 p_table p_value)), some (eI (P_LIsChoice_v6 p_table p_value))]) (par_E (cons_of (ix_T rfl (bin_of (bin_of rfl (coI rfl ((((h.2 h4).2.2.2 h6).2.2.2 h9).2.2.2 h13).2.2.1) (mul_of (.inl (by decide)))) (coI rfl ((((h.2 h4).2.2.2 h6).2.2.2 h9).2.2.2 h13).2.2.2.1) r_add) ((((h.2 h4).2.2.2 h6).2.2.2 h9).2.2.2 h13).2.2.2.2.1) (cons_of (if_E (p := (ixZ p_table ((6 * (P_LIsChoice_v4 p_value).int) + (P_LIsChoice_v3 p_value).int))) (q := (ixZ p_table ((6 * (P_LIsChoice_v2 p_value).int) + (P_LIsChoice_v4 p_value).int))) (en := eI) (tv_of (bin_of rfl rfl (eq_D (k := 32) (l := 32) ((fit_up (fit_A (k := 0)) (by decide)) (P_LIsChoice_v1 p_value)) (fit_I 0) (by decide) (by decide)))) (fun h14 => (ix_T rfl (bin_of (bin_of rfl (coI rfl (((((h.2 h4).2.2.2 h6).2.2.2 h9).2.2.2 h13).2.2.2.2.2.1 h14).1) (mul_of (.inl (by decide)))) (coI rfl (((((h.2 h4).2.2.2 h6).2.2.2 h9).2.2.2 h13).2.2.2.2.2.1 h14).2.1) r_add) (((((h.2 h4).2.2.2 h6).2.2.2 h9).2.2.2 h13).2.2.2.2.2.1 h14).2.2)) fun h15 => (ix_T rfl (bin_of (bin_of rfl (coI rfl (((((h.2 h4).2.2.2 h6).2.2.2 h9).2.2.2 h13).2.2.2.2.2.2.1 h15).1) (mul_of (.inl (by decide)))) (coI rfl (((((h.2 h4).2.2.2 h6).2.2.2 h9).2.2.2 h13).2.2.2.2.2.2.1 h15).2.1) r_add) (((((h.2 h4).2.2.2 h6).2.2.2 h9).2.2.2 h13).2.2.2.2.2.2.1 h15).2.2)) nil_of))) (pb_ret (andv_E (bin_of rfl rfl (ne_E (en := eI) (p := (P_LIsChoice_v5 p_table p_value)) (q := (P_LIsChoice_v6 p_table p_value)) eqv_I)) fun h16 => (call_of (cons_of (coI (ix_L (en := eA) (xs := [(P_LIsChoice_v2 p_value), (P_LIsChoice_v3 p_value)]) (val_E (lst_E (cons_of rfl (cons_of rfl nil_of)) (Nat.le_of_ble_eq_true rfl))) (coI rfl (((((h.2 h4).2.2.2 h6).2.2.2 h9).2.2.2 h13).2.2.2.2.2.2.2 h16).1) (((((h.2 h4).2.2.2 h6).2.2.2 h9).2.2.2 h13).2.2.2.2.2.2.2 h16).2.1) (((((h.2 h4).2.2.2 h6).2.2.2 h9).2.2.2 h13).2.2.2.2.2.2.2 h16).2.2.1) (cons_of rfl (cons_of rfl nil_of))) (P_LAhead_eq ((ixZ [(P_LIsChoice_v2 p_value), (P_LIsChoice_v3 p_value)] ((P_LIsChoice_v1 p_value).int)).int) (P_LIsChoice_v6 p_table p_value) (P_LIsChoice_v5 p_table p_value) (((((h.2 h4).2.2.2 h6).2.2.2 h9).2.2.2 h13).2.2.2.2.2.2.2 h16).2.2.2 _))) (fin_pure (d := eB ((!decide ((P_LIsChoice_v5 p_table p_value) = (P_LIsChoice_v6 p_table p_value))) && (P_LAhead ((ixZ [(P_LIsChoice_v2 p_value), (P_LIsChoice_v3 p_value)] ((P_LIsChoice_v1 p_value).int)).int) (P_LIsChoice_v6 p_table p_value) (P_LIsChoice_v5 p_table p_value)))) (fit_B ((!decide ((P_LIsChoice_v5 p_table p_value) = (P_LIsChoice_v6 p_table p_value))) && (P_LAhead ((ixZ [(P_LIsChoice_v2 p_value), (P_LIsChoice_v3 p_value)] ((P_LIsChoice_v1 p_value).int)).int) (P_LIsChoice_v6 p_table p_value) (P_LIsChoice_v5 p_table p_value)))))))))))))))))
noncomputable def P_LWords_v1 : (List Sx) := [sx_one_rules_0, sx_against_both_1, sx_not_alone_2, sx_one_chooses_3, sx_never, sx_gains]
noncomputable def P_LWords_v2 (p_c : Cu) : (List Int × Cu) := (mapA (fun (c3 : Cu) (x1 : Int) => ((P_LTake c3 6).1, (P_LTake c3 6).2)) ((P_LTake ((P_LTake p_c 6).2) 7).2) (rngZ 0 ((P_LTake ((P_LTake p_c 6).2) 7).1)))
noncomputable def P_LWords (p_c : Cu) (p_value : AV) : (AV × Cu) := ((mkA ((eT eA) ([mkA (eS (ixZ P_LWords_v1 ((P_LTake p_c 6).1)))] ++ (((P_LWords_v2 p_c).1).map fun x => mkA (eI x))))), (P_LWords_v2 p_c).2)
def Ok_LWords (p_c : Cu) (p_value : AV) : Prop := (Ok_LTake p_c 6) ∧ (InR P_LWords_v1 ((P_LTake p_c 6).1)) ∧ (Ok_LTake ((P_LTake p_c 6).2) 7) ∧ (I62 ((P_LTake ((P_LTake p_c 6).2) 7).1)) ∧ ((rngZ 0 ((P_LTake ((P_LTake p_c 6).2) 7).1)).length ≤ LIM) ∧ (okA (fun (c3 : Cu) (x1 : Int) => ((P_LTake c3 6).1, (P_LTake c3 6).2)) (fun (c3 : Cu) (x1 : Int) => (Ok_LTake c3 6)) ((P_LTake ((P_LTake p_c 6).2) 7).2) (rngZ 0 ((P_LTake ((P_LTake p_c 6).2) 7).1))) ∧ (D.av 9 (eS (ixZ P_LWords_v1 ((P_LTake p_c 6).1))) = true) ∧ (∀ x ∈ ((P_LWords_v2 p_c).1), D.av 9 (eI x) = true) ∧ ([mkA (eS (ixZ P_LWords_v1 ((P_LTake p_c 6).1)))].length + (((P_LWords_v2 p_c).1).map fun x => mkA (eI x)).length ≤ LIM) ∧ (D.av 9 ((eT eA) ([mkA (eS (ixZ P_LWords_v1 ((P_LTake p_c 6).1)))] ++ (((P_LWords_v2 p_c).1).map fun x => mkA (eI x)))) = true)
theorem P_LWords_eq (p_c : Cu) (p_value : AV) (h : Ok_LWords p_c p_value) (L : Store) : M_LWords [.ref 0, eA p_value] (p_c.ob :: L) = some (eA (P_LWords p_c p_value).1, (P_LWords p_c p_value).2.ob :: L) := by
  unfold P_LWords
  exact fn_P (ρ := (fun (z : AV × Cu) => (eA z.1, z.2.ob :: L))) rfl ((pb_seq (e1 := [some (.ref 0), some (eA p_value), some ((eL eS) P_LWords_v1), none]) (asg_of (val_E (lst_E (cons_of rfl (cons_of rfl (cons_of rfl (cons_of rfl (cons_of rfl (cons_of rfl nil_of)))))) (Nat.le_of_ble_eq_true rfl)))) (pb_ret (coA (bin_of (coPA1 (tup_of (cons_of (ix_L rfl (call_of (cons_of rfl (cons_of rfl nil_of)) (P_LTake_eq p_c 6 h.1 _)) h.2.1) nil_of) (Nat.le_of_ble_eq_true rfl)) h.2.2.2.2.2.2.1) (coTA (tuple_E (en := eI) (xs := (P_LWords_v2 p_c).1) (val_E (lcA_E (σ := (fun (z : Cu) => z.ob :: L)) (en := eI) (en2 := eI) (f := (fun (c3 : Cu) (x1 : Int) => ((P_LTake c3 6).1, (P_LTake c3 6).2))) (ok := (fun (c3 : Cu) (x1 : Int) => (Ok_LTake c3 6))) (c := (P_LTake ((P_LTake p_c 6).2) 7).2) (src_rg1 (call_of (cons_of rfl (cons_of rfl nil_of)) (P_LTake_eq ((P_LTake p_c 6).2) 7 h.2.2.1 _)) h.2.2.2.1) h.2.2.2.2.1 h.2.2.2.2.2.1 fun c3 x1 h2 => ⟨_, rfl, (call_of (cons_of rfl (cons_of rfl nil_of)) (P_LTake_eq c3 6 h2 _))⟩)) rfl) h.2.2.2.2.2.2.2.1) (add_T (en := eA) (xs := [mkA (eS (ixZ P_LWords_v1 ((P_LTake p_c 6).1)))]) (ys := (((P_LWords_v2 p_c).1).map fun x => mkA (eI x))) h.2.2.2.2.2.2.2.2.1)) h.2.2.2.2.2.2.2.2.2) rfl)))
noncomputable def P_LAW_v1 (p_c : Cu) : AV := (P_choicePaper ((P_LTable ((P_LTable p_c 6).2) 3).1))
noncomputable def P_LAW_v2 (p_c : Cu) (t12 : Cu) (x14 : Int) : (AV × Cu) := (P_LBent t12 (P_arrowPaper ((P_LTable p_c 6).1)) x14)
noncomputable def P_LAW_v3 (p_c : Cu) (t12 : Cu) : (AV × Cu) := (P_LWords t12 (P_arrowPaper ((P_LTable p_c 6).1)))
noncomputable def P_LAW_v4 (p_c : Cu) (t12 : Cu) (x14 : Int) : AV := (bif decide (x14 < 5) then (P_LAW_v2 p_c t12 x14).1 else (P_LAW_v3 p_c t12).1)
noncomputable def P_LAW_c5 (p_c : Cu) (t12 : Cu) (x14 : Int) : Cu := (bif decide (x14 < 5) then (P_LAW_v2 p_c t12 x14).2 else (P_LAW_v3 p_c t12).2)
noncomputable def P_LAW_v6 (p_c : Cu) (t12 : Cu) (x14 : Int) : (AV × Cu) := (P_LBent (P_LAW_c5 p_c t12 x14) (P_LAW_v1 p_c) x14)
noncomputable def P_LAW_v7 (p_c : Cu) (t12 : Cu) (x14 : Int) : (AV × Cu) := (P_LWords (P_LAW_c5 p_c t12 x14) (P_LAW_v1 p_c))
noncomputable def P_LAW_v8 (p_c : Cu) (t12 : Cu) (x14 : Int) : AV := (bif decide (x14 < 5) then (P_LAW_v6 p_c t12 x14).1 else (P_LAW_v7 p_c t12 x14).1)
noncomputable def P_LAW_c9 (p_c : Cu) (t12 : Cu) (x14 : Int) : Cu := (bif decide (x14 < 5) then (P_LAW_v6 p_c t12 x14).2 else (P_LAW_v7 p_c t12 x14).2)
noncomputable def P_LAW_v10 (p_c : Cu) (t12 : Cu) (x14 : Int) : (List Bool) := [(P_judgeArrow ((P_LTable p_c 6).1) (P_LAW_v4 p_c t12 x14)), (P_judgeChoice ((P_LTable ((P_LTable p_c 6).2) 3).1) (P_LAW_v8 p_c t12 x14))]
noncomputable def P_LAW_s11 (p_c : Cu) (t12 : Cu) (x14 : Int) : (Lo Cu Bool) := (bif ((!(((P_LAW_v10 p_c t12 x14).map fun (x20 : Bool) => (mkA (eB x20)).isBl).all id)) || (!decide ((P_LAW_v10 p_c t12 x14) = [(P_LIsArrow ((P_LTable p_c 6).1) (P_LAW_v4 p_c t12 x14)), (P_LIsChoice ((P_LTable ((P_LTable p_c 6).2) 3).1) (P_LAW_v8 p_c t12 x14))]))) then (.rt false) else (.nx (P_LAW_c9 p_c t12 x14)))
def Ok_LAW_12 (p_c : Cu) (t12 : Cu) (x14 : Int) : Prop := ((decide (x14 < 5)) = true → (Ok_LBent t12 (P_arrowPaper ((P_LTable p_c 6).1)) x14)) ∧ ((decide (x14 < 5)) = false → (Ok_LWords t12 (P_arrowPaper ((P_LTable p_c 6).1)))) ∧ ((decide (x14 < 5)) = true → (Ok_LBent (P_LAW_c5 p_c t12 x14) (P_LAW_v1 p_c) x14)) ∧ ((decide (x14 < 5)) = false → (Ok_LWords (P_LAW_c5 p_c t12 x14) (P_LAW_v1 p_c))) ∧ (Ok_judgeArrow ((P_LTable p_c 6).1) (P_LAW_v4 p_c t12 x14)) ∧ (Ok_judgeChoice ((P_LTable ((P_LTable p_c 6).2) 3).1) (P_LAW_v8 p_c t12 x14)) ∧ (∀ x20 ∈ (P_LAW_v10 p_c t12 x14), (D.av 9 (eB x20) = true)) ∧ ((P_LAW_v10 p_c t12 x14).length ≤ LIM) ∧ ((!(((P_LAW_v10 p_c t12 x14).map fun (x20 : Bool) => (mkA (eB x20)).isBl).all id)) = false → (Ok_LIsArrow ((P_LTable p_c 6).1) (P_LAW_v4 p_c t12 x14)) ∧ (Ok_LIsChoice ((P_LTable ((P_LTable p_c 6).2) 3).1) (P_LAW_v8 p_c t12 x14)))
noncomputable def P_LAW_l13 (p_c : Cu) : (Lo Cu Bool) := (forP (fun (t12 : Cu) (x14 : Int) => ((P_LAW_s11 p_c t12 x14) : (Lo Cu Bool))) ((P_LTable ((P_LTable p_c 6).2) 3).2) (rngZ 0 10))
noncomputable def P_LAW (p_c : Cu) : Bool := (bif ((!(P_LIsArrow ((P_LTable p_c 6).1) (P_arrowPaper ((P_LTable p_c 6).1)))) || (!(P_LIsChoice ((P_LTable ((P_LTable p_c 6).2) 3).1) (P_LAW_v1 p_c)))) then false else (bif (!decide ((deq (eA (ixZ (P_arrowPaper ((P_LTable p_c 6).1)).items 0)) (eS sx_one_rules_0)) = (((rngZ 0 2).map fun (x4 : Int) => (P_LOwn ((P_LTable p_c 6).1) x4 6)).any id))) then false else (bif (!decide ((deq (eA (ixZ (P_LAW_v1 p_c).items 0)) (eS sx_one_chooses_3)) = (((rngZ 0 2).map fun (x8 : Int) => (P_LOwn ((P_LTable ((P_LTable p_c 6).2) 3).1) x8 3)).any id))) then false else ((P_LAW_l13 p_c).fin (fun (t25 : Cu) => true)))))
def Ok_LAW (p_c : Cu) : Prop := (Ok_LTable p_c 6) ∧ (Ok_LTable ((P_LTable p_c 6).2) 3) ∧ (Ok_arrowPaper ((P_LTable p_c 6).1)) ∧ (Ok_choicePaper ((P_LTable ((P_LTable p_c 6).2) 3).1)) ∧ (Ok_LIsArrow ((P_LTable p_c 6).1) (P_arrowPaper ((P_LTable p_c 6).1))) ∧ ((!(P_LIsArrow ((P_LTable p_c 6).1) (P_arrowPaper ((P_LTable p_c 6).1)))) = false → (Ok_LIsChoice ((P_LTable ((P_LTable p_c 6).2) 3).1) (P_LAW_v1 p_c))) ∧ (((!(P_LIsArrow ((P_LTable p_c 6).1) (P_arrowPaper ((P_LTable p_c 6).1)))) || (!(P_LIsChoice ((P_LTable ((P_LTable p_c 6).2) 3).1) (P_LAW_v1 p_c)))) = false → ((P_arrowPaper ((P_LTable p_c 6).1)).isTup = true) ∧ (InR (P_arrowPaper ((P_LTable p_c 6).1)).items 0) ∧ (∀ x4 ∈ (rngZ 0 2), (Ok_LOwn ((P_LTable p_c 6).1) x4 6)) ∧ ((rngZ 0 2).length ≤ LIM) ∧ ((!decide ((deq (eA (ixZ (P_arrowPaper ((P_LTable p_c 6).1)).items 0)) (eS sx_one_rules_0)) = (((rngZ 0 2).map fun (x4 : Int) => (P_LOwn ((P_LTable p_c 6).1) x4 6)).any id))) = false → ((P_LAW_v1 p_c).isTup = true) ∧ (InR (P_LAW_v1 p_c).items 0) ∧ (∀ x8 ∈ (rngZ 0 2), (Ok_LOwn ((P_LTable ((P_LTable p_c 6).2) 3).1) x8 3)) ∧ ((rngZ 0 2).length ≤ LIM) ∧ ((!decide ((deq (eA (ixZ (P_LAW_v1 p_c).items 0)) (eS sx_one_chooses_3)) = (((rngZ 0 2).map fun (x8 : Int) => (P_LOwn ((P_LTable ((P_LTable p_c 6).2) 3).1) x8 3)).any id))) = false → (okFor (fun (t12 : Cu) (x14 : Int) => (Ok_LAW_12 p_c t12 x14)) (fun (t12 : Cu) (x14 : Int) => ((P_LAW_s11 p_c t12 x14) : (Lo Cu Bool))) ((P_LTable ((P_LTable p_c 6).2) 3).2) (rngZ 0 10)))))
theorem P_LAW_eq (p_c : Cu) (ns : List Int) (hstart : M_LStart [.fr (ns.map D.int)] [] = some (.ref 0, [p_c.ob])) (h : Ok_LAW p_c) : ∃ S', M_LAW [.fr (ns.map D.int)] [] = some (.bl (P_LAW p_c), S') := by
  unfold P_LAW
  exact fn_E rfl (pb_seq (e1 := [some (.fr (ns.map D.int)), some (.ref 0), none, none, none, none, none, none, none, none, none, none]) (asg_of (call_of rfl hstart)) (pb_seq (e1 := [some (.fr (ns.map D.int)), some (.ref 0), none, some ((eT eI) ((P_LTable p_c 6).1)), some ((eT eI) ((P_LTable ((P_LTable p_c 6).2) 3).1)), none, none, none, none, none, none, none]) (asg_tp (tup_of (cons_of (call_of (cons_of rfl (cons_of rfl nil_of)) (P_LTable_eq p_c 6 h.1 _)) (cons_of (call_of (cons_of rfl (cons_of rfl nil_of)) (P_LTable_eq ((P_LTable p_c 6).2) 3 h.2.1 _)) nil_of)) (Nat.le_of_ble_eq_true rfl)) rfl) (pb_seq (e1 := [some (.fr (ns.map D.int)), some (.ref 0), none, some ((eT eI) ((P_LTable p_c 6).1)), some ((eT eI) ((P_LTable ((P_LTable p_c 6).2) 3).1)), some (eA (P_arrowPaper ((P_LTable p_c 6).1))), some (eA (P_LAW_v1 p_c)), none, none, none, none, none]) (par_E (cons_of (call_of (cons_of rfl nil_of) (P_arrowPaper_eq ((P_LTable p_c 6).1) h.2.2.1 _)) (cons_of (call_of (cons_of rfl nil_of) (P_choicePaper_eq ((P_LTable ((P_LTable p_c 6).2) 3).1) h.2.2.2.1 _)) nil_of))) (pb_seq_if (Q := (RE eB)) (p := false) (q := (bif (!decide ((deq (eA (ixZ (P_arrowPaper ((P_LTable p_c 6).1)).items 0)) (eS sx_one_rules_0)) = (((rngZ 0 2).map fun (x4 : Int) => (P_LOwn ((P_LTable p_c 6).1) x4 6)).any id))) then false else (bif (!decide ((deq (eA (ixZ (P_LAW_v1 p_c).items 0)) (eS sx_one_chooses_3)) = (((rngZ 0 2).map fun (x8 : Int) => (P_LOwn ((P_LTable ((P_LTable p_c 6).2) 3).1) x8 3)).any id))) then false else ((P_LAW_l13 p_c).fin (fun (t25 : Cu) => true))))) (or_E (not_of (tru_of' (call_of (cons_of rfl (cons_of rfl nil_of)) (P_LIsArrow_eq ((P_LTable p_c 6).1) (P_arrowPaper ((P_LTable p_c 6).1)) h.2.2.2.2.1 _)) tr_bl)) fun h1 => (not_of (tru_of' (call_of (cons_of rfl (cons_of rfl nil_of)) (P_LIsChoice_eq ((P_LTable ((P_LTable p_c 6).2) 3).1) (P_LAW_v1 p_c) (h.2.2.2.2.2.1 h1) _)) tr_bl))) (fun h2 => (pb_seq_ret rfl rfl)) fun h3 => (pb_seq_skip (pb_seq_if (Q := (RE eB)) (p := false) (q := (bif (!decide ((deq (eA (ixZ (P_LAW_v1 p_c).items 0)) (eS sx_one_chooses_3)) = (((rngZ 0 2).map fun (x8 : Int) => (P_LOwn ((P_LTable ((P_LTable p_c 6).2) 3).1) x8 3)).any id))) then false else ((P_LAW_l13 p_c).fin (fun (t25 : Cu) => true)))) (tv_of (bin_of (bin_of (ix_A rfl rfl (h.2.2.2.2.2.2 h3).1 (h.2.2.2.2.2.2 h3).2.1) rfl (eq_D (k := 32) (l := 32) ((fit_up (fit_A (k := 0)) (by decide)) (ixZ (P_arrowPaper ((P_LTable p_c 6).1)).items 0)) (fit_S sx_one_rules_0) (by decide) (by decide))) (any_E (val_E (lcm_E (en := eI) (en2 := eB) (xs := (rngZ 0 2)) (f := fun (x4 : Int) => (P_LOwn ((P_LTable p_c 6).1) x4 6)) (src_rg1 rfl (by decide)) (h.2.2.2.2.2.2 h3).2.2.2.1 fun x4 h5 => ⟨_, rfl, (call_of (cons_of rfl (cons_of rfl (cons_of rfl nil_of))) (P_LOwn_eq ((P_LTable p_c 6).1) x4 6 ((h.2.2.2.2.2.2 h3).2.2.1 x4 h5) _))⟩)) rfl) (ne_E (en := eB) (p := (deq (eA (ixZ (P_arrowPaper ((P_LTable p_c 6).1)).items 0)) (eS sx_one_rules_0))) (q := (((rngZ 0 2).map fun (x4 : Int) => (P_LOwn ((P_LTable p_c 6).1) x4 6)).any id)) eqv_B))) (fun h6 => (pb_seq_ret rfl rfl)) fun h7 => (pb_seq_skip (pb_seq_if (Q := (RE eB)) (p := false) (q := ((P_LAW_l13 p_c).fin (fun (t25 : Cu) => true))) (tv_of (bin_of (bin_of (ix_A rfl rfl ((h.2.2.2.2.2.2 h3).2.2.2.2 h7).1 ((h.2.2.2.2.2.2 h3).2.2.2.2 h7).2.1) rfl (eq_D (k := 32) (l := 32) ((fit_up (fit_A (k := 0)) (by decide)) (ixZ (P_LAW_v1 p_c).items 0)) (fit_S sx_one_chooses_3) (by decide) (by decide))) (any_E (val_E (lcm_E (en := eI) (en2 := eB) (xs := (rngZ 0 2)) (f := fun (x8 : Int) => (P_LOwn ((P_LTable ((P_LTable p_c 6).2) 3).1) x8 3)) (src_rg1 rfl (by decide)) ((h.2.2.2.2.2.2 h3).2.2.2.2 h7).2.2.2.1 fun x8 h9 => ⟨_, rfl, (call_of (cons_of rfl (cons_of rfl (cons_of rfl nil_of))) (P_LOwn_eq ((P_LTable ((P_LTable p_c 6).2) 3).1) x8 3 (((h.2.2.2.2.2.2 h3).2.2.2.2 h7).2.2.1 x8 h9) _))⟩)) rfl) (ne_E (en := eB) (p := (deq (eA (ixZ (P_LAW_v1 p_c).items 0)) (eS sx_one_chooses_3))) (q := (((rngZ 0 2).map fun (x8 : Int) => (P_LOwn ((P_LTable ((P_LTable p_c 6).2) 3).1) x8 3)).any id)) eqv_B))) (fun h10 => (pb_seq_ret rfl rfl)) fun h11 => (pb_seq_skip (pb_for_P (QR := (RE eB)) (E := (fun (t : Cu) (j : ((Option D) × (Option D) × (Option D) × (Option D))) => [some (.fr (ns.map D.int)), some (.ref 0), j.1, some ((eT eI) ((P_LTable p_c 6).1)), some ((eT eI) ((P_LTable ((P_LTable p_c 6).2) 3).1)), some (eA (P_arrowPaper ((P_LTable p_c 6).1))), some (eA (P_LAW_v1 p_c)), j.2.1, j.2.2.1, j.2.2.2, none, none])) (σ := (fun (t : Cu) (j : ((Option D) × (Option D) × (Option D) × (Option D))) => (t.ob :: []))) (step := (fun (t12 : Cu) (x14 : Int) => ((P_LAW_s11 p_c t12 x14) : (Lo Cu Bool)))) (ok := (fun (t12 : Cu) (x14 : Int) => (Ok_LAW_12 p_c t12 x14))) (k := (fun (t25 : Cu) => true)) (t0 := (P_LTable ((P_LTable p_c 6).2) 3).2) (j0 := (none, none, none, none)) (en := eI) (xs := (rngZ 0 10)) (src_rg1 rfl (by decide)) rfl rfl (((h.2.2.2.2.2.2 h3).2.2.2.2 h7).2.2.2.2 h11) (fun t12 j13 x14 h15 => ⟨_, rfl, (pb_seq (e1 := [some (.fr (ns.map D.int)), some (.ref 0), some (eI x14), some ((eT eI) ((P_LTable p_c 6).1)), some ((eT eI) ((P_LTable ((P_LTable p_c 6).2) 3).1)), some (eA (P_arrowPaper ((P_LTable p_c 6).1))), some (eA (P_LAW_v1 p_c)), some (eA (P_LAW_v4 p_c t12 x14)), j13.2.2.1, j13.2.2.2, none, none]) (asg_of (if_C (p := (P_LAW_v2 p_c t12 x14).1) (q := (P_LAW_v3 p_c t12).1) (en := eA) (σ := (fun (z : Cu) => z.ob :: [])) (c1 := (P_LAW_v2 p_c t12 x14).2) (c2 := (P_LAW_v3 p_c t12).2) (tv_of (bin_of rfl rfl rfl)) (fun h16 => (call_of (cons_of rfl (cons_of rfl (cons_of rfl nil_of))) (P_LBent_eq t12 (P_arrowPaper ((P_LTable p_c 6).1)) x14 (h15.1 h16) _))) fun h17 => (call_of (cons_of rfl (cons_of rfl nil_of)) (P_LWords_eq t12 (P_arrowPaper ((P_LTable p_c 6).1)) (h15.2.1 h17) _)))) (pb_seq (e1 := [some (.fr (ns.map D.int)), some (.ref 0), some (eI x14), some ((eT eI) ((P_LTable p_c 6).1)), some ((eT eI) ((P_LTable ((P_LTable p_c 6).2) 3).1)), some (eA (P_arrowPaper ((P_LTable p_c 6).1))), some (eA (P_LAW_v1 p_c)), some (eA (P_LAW_v4 p_c t12 x14)), some (eA (P_LAW_v8 p_c t12 x14)), j13.2.2.2, none, none]) (asg_of (if_C (p := (P_LAW_v6 p_c t12 x14).1) (q := (P_LAW_v7 p_c t12 x14).1) (en := eA) (σ := (fun (z : Cu) => z.ob :: [])) (c1 := (P_LAW_v6 p_c t12 x14).2) (c2 := (P_LAW_v7 p_c t12 x14).2) (tv_of (bin_of rfl rfl rfl)) (fun h18 => (call_of (cons_of rfl (cons_of rfl (cons_of rfl nil_of))) (P_LBent_eq (P_LAW_c5 p_c t12 x14) (P_LAW_v1 p_c) x14 (h15.2.2.1 h18) _))) fun h19 => (call_of (cons_of rfl (cons_of rfl nil_of)) (P_LWords_eq (P_LAW_c5 p_c t12 x14) (P_LAW_v1 p_c) (h15.2.2.2.1 h19) _)))) (pb_seq (e1 := [some (.fr (ns.map D.int)), some (.ref 0), some (eI x14), some ((eT eI) ((P_LTable p_c 6).1)), some ((eT eI) ((P_LTable ((P_LTable p_c 6).2) 3).1)), some (eA (P_arrowPaper ((P_LTable p_c 6).1))), some (eA (P_LAW_v1 p_c)), some (eA (P_LAW_v4 p_c t12 x14)), some (eA (P_LAW_v8 p_c t12 x14)), some ((eL eB) (P_LAW_v10 p_c t12 x14)), none, none]) (asg_of (val_E (lst_E (cons_of (call_of (cons_of rfl (cons_of rfl nil_of)) (P_judgeArrow_eq ((P_LTable p_c 6).1) (P_LAW_v4 p_c t12 x14) h15.2.2.2.2.1 _)) (cons_of (call_of (cons_of rfl (cons_of rfl nil_of)) (P_judgeChoice_eq ((P_LTable ((P_LTable p_c 6).2) 3).1) (P_LAW_v8 p_c t12 x14) h15.2.2.2.2.2.1 _)) nil_of)) (Nat.le_of_ble_eq_true rfl)))) (pb_if (Q := (LQ (fun (t : Cu) (j : ((Option D) × (Option D) × (Option D) × (Option D))) => [some (.fr (ns.map D.int)), some (.ref 0), j.1, some ((eT eI) ((P_LTable p_c 6).1)), some ((eT eI) ((P_LTable ((P_LTable p_c 6).2) 3).1)), some (eA (P_arrowPaper ((P_LTable p_c 6).1))), some (eA (P_LAW_v1 p_c)), j.2.1, j.2.2.1, j.2.2.2, none, none]) (fun (t : Cu) (j : ((Option D) × (Option D) × (Option D) × (Option D))) => (t.ob :: [])) (RE eB))) (p := (.rt false)) (q := (.nx (P_LAW_c9 p_c t12 x14))) (or_E (not_of (tru_of' (all_E (val_E (lcm_E (en := eB) (en2 := eB) (xs := (P_LAW_v10 p_c t12 x14)) (f := fun (x20 : Bool) => (mkA (eB x20)).isBl) (src_L rfl) h15.2.2.2.2.2.2.2.1 fun x20 h21 => ⟨_, rfl, (isi_bl (coA rfl (h15.2.2.2.2.2.2.1 x20 h21)))⟩)) rfl) tr_bl)) fun h22 => (tv_of (bin_of rfl (val_E (lst_E (cons_of (call_of (cons_of rfl (cons_of rfl nil_of)) (P_LIsArrow_eq ((P_LTable p_c 6).1) (P_LAW_v4 p_c t12 x14) (h15.2.2.2.2.2.2.2.2 h22).1 _)) (cons_of (call_of (cons_of rfl (cons_of rfl nil_of)) (P_LIsChoice_eq ((P_LTable ((P_LTable p_c 6).2) 3).1) (P_LAW_v8 p_c t12 x14) (h15.2.2.2.2.2.2.2.2 h22).2 _)) nil_of)) (Nat.le_of_ble_eq_true rfl))) (ne_E (en := (eL eB)) (p := (P_LAW_v10 p_c t12 x14)) (q := [(P_LIsArrow ((P_LTable p_c 6).1) (P_LAW_v4 p_c t12 x14)), (P_LIsChoice ((P_LTable ((P_LTable p_c 6).2) 3).1) (P_LAW_v8 p_c t12 x14))]) (eqv_L eqv_B))))) (fun h23 => (pb_ret rfl ⟨⟨_, rfl⟩, rfl⟩)) fun h24 => (pb_skip ⟨(some (eI x14), some (eA (P_LAW_v4 p_c t12 x14)), some (eA (P_LAW_v8 p_c t12 x14)), some ((eL eB) (P_LAW_v10 p_c t12 x14))), .inl rfl, rfl⟩)))))⟩) fun t25 j26 h27 => (pb_ret rfl rfl)))))))))))
end K43

/-! K43c: two voters, three alternatives: common orders by pairs are one voter's (Arrow), choices without gain too (Gibbard, Satterthwaite). -/
namespace K43
def ordN : List (List Nat) := [[0, 1, 2], [0, 2, 1], [1, 0, 2], [1, 2, 0], [2, 0, 1], [2, 1, 0]]
def ahN (p x y : Nat) : Bool := decide ((ordN.getD p []).idxOf x < (ordN.getD p []).idxOf y)
def topN (p : Nat) : Nat := (ordN.getD p []).getD 0 0
/-- an order in which x is ahead of y, or isn't -/
def repN (x y : Nat) (a : Bool) : Nat := ((List.range 6).filter fun p => ahN p x y == a).headD 0
theorem rep_spec : ∀ x < 3, ∀ y < 3, x ≠ y → ∀ a : Bool, repN x y a < 6 ∧ ahN (repN x y a) x y = a := by decide +kernel
theorem ah_anti : ∀ p < 6, ∀ x < 3, ∀ y < 3, x ≠ y → ahN p y x = !ahN p x y := by decide +kernel
theorem ah_inj : ∀ p < 6, ∀ q < 6, ahN p 0 1 = ahN q 0 1 → ahN p 0 2 = ahN q 0 2 → ahN p 1 2 = ahN q 1 2 → p = q := by decide +kernel
theorem ah_tr : ∀ p < 6, (ahN p 0 1 = true → ahN p 1 2 = true → ahN p 0 2 = true) ∧ (ahN p 0 1 = false → ahN p 1 2 = false → ahN p 0 2 = false) := by decide +kernel
/-- a decision between two that unanimity binds -/
def gb (u w a b : Bool) : Bool := if a && b then true else if !a && !b then false else if a then u else w
def okT (a b c : Bool) : Bool := !(a && c && !b) && !(!a && !c && b)
theorem arrow_bits : ∀ u1 w1 u2 w2 u3 w3 : Bool, (∀ p < 6, ∀ q < 6, okT (gb u1 w1 (ahN p 0 1) (ahN q 0 1)) (gb u2 w2 (ahN p 0 2) (ahN q 0 2)) (gb u3 w3 (ahN p 1 2) (ahN q 1 2)) = true) →
    (∀ p < 6, ∀ q < 6, gb u1 w1 (ahN p 0 1) (ahN q 0 1) = ahN p 0 1 ∧ gb u2 w2 (ahN p 0 2) (ahN q 0 2) = ahN p 0 2 ∧ gb u3 w3 (ahN p 1 2) (ahN q 1 2) = ahN p 1 2) ∨
    (∀ p < 6, ∀ q < 6, gb u1 w1 (ahN p 0 1) (ahN q 0 1) = ahN q 0 1 ∧ gb u2 w2 (ahN p 0 2) (ahN q 0 2) = ahN q 0 2 ∧ gb u3 w3 (ahN p 1 2) (ahN q 1 2) = ahN q 1 2) := by decide +kernel
theorem arrow (f : Nat → Nat → Nat) (hf : ∀ p < 6, ∀ q < 6, f p q < 6) (U : ∀ p < 6, ∀ q < 6, ∀ x < 3, ∀ y < 3, x ≠ y → ahN p x y = true → ahN q x y = true → ahN (f p q) x y = true)
    (I : ∀ p < 6, ∀ q < 6, ∀ r < 6, ∀ s < 6, ∀ x < 3, ∀ y < 3, x ≠ y → ahN p x y = ahN r x y → ahN q x y = ahN s x y → ahN (f p q) x y = ahN (f r s) x y) :
    (∀ p < 6, ∀ q < 6, f p q = p) ∨ (∀ p < 6, ∀ q < 6, f p q = q) := by
  have key : ∀ x < 3, ∀ y < 3, x ≠ y → ∃ u w, ∀ p < 6, ∀ q < 6, ahN (f p q) x y = gb u w (ahN p x y) (ahN q x y) := fun x hx y hy hxy => by
    refine ⟨ahN (f (repN x y true) (repN x y false)) x y, ahN (f (repN x y false) (repN x y true)) x y, fun p hp q hq => ?_⟩
    obtain ⟨t1, t2⟩ := rep_spec x hx y hy hxy true
    obtain ⟨f1, f2⟩ := rep_spec x hx y hy hxy false
    cases ha : ahN p x y <;> cases hb : ahN q x y
    · show _ = false
      have h1 := ah_anti p hp x hx y hy hxy
      have h2 := ah_anti q hq x hx y hy hxy
      have h3 := U p hp q hq y hy x hx (Ne.symm hxy) (by rw [h1, ha]; rfl) (by rw [h2, hb]; rfl)
      have h4 := ah_anti (f p q) (hf p hp q hq) x hx y hy hxy
      rw [h3] at h4
      cases h5 : ahN (f p q) x y
      · rfl
      · rw [h5] at h4; cases h4
    · exact I p hp q hq _ f1 _ t1 x hx y hy hxy (ha.trans f2.symm) (hb.trans t2.symm)
    · exact I p hp q hq _ t1 _ f1 x hx y hy hxy (ha.trans t2.symm) (hb.trans f2.symm)
    · exact U p hp q hq x hx y hy hxy ha hb
  obtain ⟨u1, w1, k1⟩ := key 0 (by decide) 1 (by decide) (by decide)
  obtain ⟨u2, w2, k2⟩ := key 0 (by decide) 2 (by decide) (by decide)
  obtain ⟨u3, w3, k3⟩ := key 1 (by decide) 2 (by decide) (by decide)
  have := arrow_bits u1 w1 u2 w2 u3 w3 fun p hp q hq => by
    rw [← k1 p hp q hq, ← k2 p hp q hq, ← k3 p hp q hq]
    obtain ⟨h1, h2⟩ := ah_tr (f p q) (hf p hp q hq)
    unfold okT
    cases a : ahN (f p q) 0 1 <;> cases b : ahN (f p q) 1 2 <;> cases c : ahN (f p q) 0 2 <;> simp_all
  rcases this with h | h
  · exact .inl fun p hp q hq => by
      obtain ⟨h1, h2, h3⟩ := h p hp q hq
      exact ah_inj _ (hf p hp q hq) p hp ((k1 p hp q hq).trans h1) ((k2 p hp q hq).trans h2) ((k3 p hp q hq).trans h3)
  · exact .inr fun p hp q hq => by
      obtain ⟨h1, h2, h3⟩ := h p hp q hq
      exact ah_inj _ (hf p hp q hq) q hq ((k1 p hp q hq).trans h1) ((k2 p hp q hq).trans h2) ((k3 p hp q hq).trans h3)
/-! ### choices -/
/-- sets of alternatives as numbers; the best one of a set -/
def inM (m x : Nat) : Bool := (m / 2 ^ x) % 2 == 1
def bestN (p m : Nat) : Nat := ((ordN.getD p []).filter fun x => inM m x).headD 0
def compat (q m r n : Nat) : Bool := (List.range 6).all fun p => bestN p m == bestN p n || (ahN q (bestN p m) (bestN p n) && ahN r (bestN p n) (bestN p m))
def conc (ms : List Nat) : Bool :=
  ((List.range 6).all fun p => (List.range 6).all fun q => bestN p (ms.getD q 0) == topN p) || ((List.range 6).all fun p => (List.range 6).all fun q => bestN p (ms.getD q 0) == topN q) ||
    (List.range 3).any fun x => (List.range 6).all fun p => (List.range 6).all fun q => bestN p (ms.getD q 0) != x
def masks : List Nat := [1, 2, 3, 4, 5, 6, 7]
/-- all ways to go on -/
def search : Nat → List Nat → Bool
  | 0, ms => conc ms
  | n + 1, ms => masks.all fun m => !(((List.range ms.length).all fun q => compat q (ms.getD q 0) ms.length m)) || search n (ms ++ [m])
theorem search_all : search 6 [] = true := by decide +kernel
theorem search_go : ∀ (n : Nat) (ms ns : List Nat), search n ms = true → ns.length = n → (∀ m ∈ ns, m ∈ masks) → (∀ q r, q < r → r < (ms ++ ns).length → compat q ((ms ++ ns).getD q 0) r ((ms ++ ns).getD r 0) = true) → conc (ms ++ ns) = true
  | 0, ms, ns, h, hl, _, _ => by
    cases ns with
    | nil => rw [List.append_nil]; exact h
    | cons a b => simp at hl
  | n + 1, ms, ns, h, hl, hm, hc => by
    cases ns with
    | nil => simp at hl
    | cons m ns =>
      have e : ms ++ m :: ns = (ms ++ [m]) ++ ns := by simp
      rw [e] at hc ⊢
      refine search_go n (ms ++ [m]) ns ?_ (by simpa using hl) (fun x hx => hm x (by simp [hx])) hc
      simp only [search, List.all_eq_true] at h
      have h1 := h m (hm m (by simp))
      rw [Bool.or_eq_true] at h1
      rcases h1 with h1 | h1
      · exfalso
        have : ((List.range ms.length).all fun q => compat q (ms.getD q 0) ms.length m) = true := by
          rw [List.all_eq_true]
          intro q hq
          have hq := List.mem_range.mp hq
          have := hc q ms.length hq (by simp <;> omega)
          simpa [List.getD, List.getElem?_append, hq] using this
        rw [this] at h1; cases h1
      · exact h1
theorem best_spec1 : ∀ p < 6, ∀ m < 8, 0 < m → inM m (bestN p m) = true ∧ bestN p m < 3 := by decide +kernel
theorem best_spec2 : ∀ p < 6, ∀ m < 8, ∀ x < 3, inM m x = true → x ≠ bestN p m → ahN p (bestN p m) x = true := by decide +kernel
theorem best_spec (p : Nat) (hp : p < 6) (m : Nat) (hm : m < 8) (h : 0 < m) : inM m (bestN p m) = true ∧ bestN p m < 3 ∧ ∀ x < 3, inM m x = true → x ≠ bestN p m → ahN p (bestN p m) x = true :=
  ⟨(best_spec1 p hp m hm h).1, (best_spec1 p hp m hm h).2, best_spec2 p hp m hm⟩
def maskOf (b0 b1 b2 : Bool) : Nat := (if b0 then 1 else 0) + (if b1 then 2 else 0) + (if b2 then 4 else 0)
theorem mask_spec : ∀ b0 b1 b2 : Bool, maskOf b0 b1 b2 < 8 ∧ inM (maskOf b0 b1 b2) 0 = b0 ∧ inM (maskOf b0 b1 b2) 1 = b1 ∧ inM (maskOf b0 b1 b2) 2 = b2 ∧ ((b0 || b1 || b2) = true → 0 < maskOf b0 b1 b2 ∧ maskOf b0 b1 b2 ∈ masks) := by decide +kernel
theorem gibbard (f : Nat → Nat → Nat) (hf : ∀ p < 6, ∀ q < 6, f p q < 3) (onto : ∀ x < 3, ∃ p, p < 6 ∧ ∃ q, q < 6 ∧ f p q = x)
    (S1 : ∀ p < 6, ∀ q < 6, ∀ r < 6, f p q ≠ f r q → ahN p (f r q) (f p q) = false) (S2 : ∀ p < 6, ∀ q < 6, ∀ r < 6, f p q ≠ f p r → ahN q (f p r) (f p q) = false) :
    (∀ p < 6, ∀ q < 6, f p q = topN p) ∨ (∀ p < 6, ∀ q < 6, f p q = topN q) := by
  let has : Nat → Nat → Bool := fun q x => (List.range 6).any fun p => f p q == x
  let mk : Nat → Nat := fun q => maskOf (has q 0) (has q 1) (has q 2)
  have hhas : ∀ q x, has q x = true ↔ ∃ p, p < 6 ∧ f p q = x := fun q x => by
    simp only [has, List.any_eq_true, List.mem_range, beq_iff_eq]
  have hin : ∀ q < 6, ∀ x < 3, inM (mk q) x = has q x := fun q hq x hx => by
    obtain ⟨_, h0, h1, h2, _⟩ := mask_spec (has q 0) (has q 1) (has q 2)
    match x, hx with
    | 0, _ => exact h0
    | 1, _ => exact h1
    | 2, _ => exact h2
  have hpos : ∀ q < 6, 0 < mk q ∧ mk q ∈ masks := fun q hq => by
    obtain ⟨_, _, _, _, h⟩ := mask_spec (has q 0) (has q 1) (has q 2)
    apply h
    have h3 := hf 0 (by decide) q hq
    have h4 : has q (f 0 q) = true := (hhas q _).mpr ⟨0, by decide, rfl⟩
    have h5 : f 0 q = 0 ∨ f 0 q = 1 ∨ f 0 q = 2 := by omega
    rcases h5 with e | e | e <;> rw [e] at h4 <;> rw [h4] <;> simp
  have hb : ∀ p < 6, ∀ q < 6, bestN p (mk q) = f p q := fun p hp q hq => by
    have hlt : mk q < 8 := (mask_spec (has q 0) (has q 1) (has q 2)).1
    obtain ⟨b1, b2, b3⟩ := best_spec p hp (mk q) hlt (hpos q hq).1
    rw [hin q hq _ b2] at b1
    obtain ⟨r, hr, e⟩ := (hhas q _).mp b1
    by_cases he : f p q = bestN p (mk q)
    · exact he.symm
    · exfalso
      have h1 := S1 p hp q hq r hr (by rw [e]; exact he)
      have h2 := b3 (f p q) (hf p hp q hq) (by rw [hin q hq _ (hf p hp q hq)]; exact (hhas q _).mpr ⟨p, hp, rfl⟩) he
      rw [e, h2] at h1; cases h1
  have hms : ∀ q < 6, ([mk 0, mk 1, mk 2, mk 3, mk 4, mk 5] : List Nat).getD q 0 = mk q := fun q hq => by
    match q, hq with
    | 0, _ => rfl
    | 1, _ => rfl
    | 2, _ => rfl
    | 3, _ => rfl
    | 4, _ => rfl
    | 5, _ => rfl
  have hc := search_go 6 [] [mk 0, mk 1, mk 2, mk 3, mk 4, mk 5] search_all rfl (fun m hm => by
      simp only [List.mem_cons, List.not_mem_nil, or_false] at hm
      rcases hm with e | e | e | e | e | e <;> rw [e] <;> exact (hpos _ (by decide)).2) (fun q r hqr hr => by
      have hr : r < 6 := hr
      rw [List.nil_append, hms q (by omega), hms r hr]
      unfold compat
      rw [List.all_eq_true]
      intro p hp
      have hp := List.mem_range.mp hp
      rw [hb p hp q (by omega), hb p hp r hr]
      by_cases he : f p q = f p r
      · simp [he]
      · have h1 := S2 p hp q (by omega) r hr he
        have h2 := S2 p hp r hr q (by omega) (Ne.symm he)
        have h3 := hf p hp q (by omega)
        have h4 := hf p hp r hr
        have h5 := ah_anti q (by omega) (f p q) h3 (f p r) h4 he
        have h6 := ah_anti r hr (f p r) h4 (f p q) h3 (Ne.symm he)
        rw [h1] at h5
        rw [h2] at h6
        have h7 : ahN q (f p q) (f p r) = true := by cases h : ahN q (f p q) (f p r) <;> simp [h] at h5 ⊢
        have h8 : ahN r (f p r) (f p q) = true := by cases h : ahN r (f p r) (f p q) <;> simp [h] at h6 ⊢
        rw [h7, h8]; simp)
  rw [List.nil_append] at hc
  unfold conc at hc
  rw [Bool.or_eq_true, Bool.or_eq_true] at hc
  rcases hc with (h | h) | h
  · refine .inl fun p hp q hq => ?_
    have := List.all_eq_true.mp (List.all_eq_true.mp h p (List.mem_range.mpr hp)) q (List.mem_range.mpr hq)
    rw [hms q hq, hb p hp q hq] at this
    simpa using this
  · refine .inr fun p hp q hq => ?_
    have := List.all_eq_true.mp (List.all_eq_true.mp h p (List.mem_range.mpr hp)) q (List.mem_range.mpr hq)
    rw [hms q hq, hb p hp q hq] at this
    simpa using this
  · exfalso
    obtain ⟨x, hx, h⟩ := List.any_eq_true.mp h
    obtain ⟨p, hp, q, hq, e⟩ := onto x (List.mem_range.mp hx)
    have := List.all_eq_true.mp (List.all_eq_true.mp h p (List.mem_range.mpr hp)) q (List.mem_range.mpr hq)
    rw [hms q hq, hb p hp q hq, e] at this
    simp at this
end K43

set_option maxHeartbeats 400000
/-! K43d: the tables. -/
namespace K43
open PySem PySem.Spec PyProof.Rows L2 DV
def Bd (n x : Int) : Prop := 0 ≤ x ∧ x < n
theorem bd6 {x : Int} (h : Bd 6 x) : x = 0 ∨ x = 1 ∨ x = 2 ∨ x = 3 ∨ x = 4 ∨ x = 5 := by unfold Bd at h; omega
theorem bd3 {x : Int} (h : Bd 3 x) : x = 0 ∨ x = 1 ∨ x = 2 := by unfold Bd at h; omega
theorem bd2 {x : Int} (h : Bd 2 x) : x = 0 ∨ x = 1 := by unfold Bd at h; omega
theorem bdr {n x : Int} (h : x ∈ rngZ 0 n) : Bd n x := mem_rngZ.mp h
instance {α : Type} {xs : List α} {i : Int} : Decidable (InR xs i) := inferInstanceAs (Decidable (_ ∧ _))
instance {n x : Int} : Decidable (Bd n x) := inferInstanceAs (Decidable (_ ∧ _))
theorem ord_at {x : Int} (h : Bd 6 x) : InR P_LOrders x ∧ InR (ixZ P_LOrders x) 0 ∧ Bd 3 (ixZ (ixZ P_LOrders x) 0) := by
  rcases bd6 h with rfl | rfl | rfl | rfl | rfl | rfl <;> decide +kernel
theorem ord_mem {x y : Int} (h : Bd 6 x) (hy : Bd 3 y) : y ∈ ixZ P_LOrders x := by
  rcases bd6 h with rfl | rfl | rfl | rfl | rfl | rfl <;> rcases bd3 hy with rfl | rfl | rfl <;> decide +kernel
theorem idx_bd {y : List Int} (h : y ∈ P_LOrders) : Bd 6 (idxZ y P_LOrders) := by
  obtain ⟨j, h1, h2, _⟩ := idxZ_spec h
  have : j < 6 := h2
  unfold Bd; omega
theorem perm3 {xs : List Int} (h : xs.Perm [0, 1, 2]) : xs ∈ P_LOrders := by
  have hl : xs.length = 3 := h.length_eq
  match xs, hl with
  | [a, b, c], _ =>
    have hn : [a, b, c].Nodup := h.nodup_iff.mpr (by decide)
    have ha : a ∈ ([0, 1, 2] : List Int) := h.mem_iff.mp (by simp)
    have hb : b ∈ ([0, 1, 2] : List Int) := h.mem_iff.mp (by simp)
    have hc : c ∈ ([0, 1, 2] : List Int) := h.mem_iff.mp (by simp)
    simp only [List.mem_cons, List.not_mem_nil, or_false] at ha hb hc
    rcases ha with rfl | rfl | rfl <;> rcases hb with rfl | rfl | rfl <;> rcases hc with rfl | rfl | rfl <;> first | decide | (exfalso; revert hn; decide)
theorem places_mem (x3 x7 : Int) : ((P_LTable_v4 x3 x7).map fun (x17 : Int × Int) => x17.2) ∈ P_LOrders := by
  apply perm3
  unfold P_LTable_v4
  refine ((sortZ_perm _ _).map _).trans ?_
  rw [List.map_map]
  exact List.Perm.refl _
theorem take_bd {c : Cu} {m : Int} (h : Ok_LTake c m) : Bd m (P_LTake c m).1 := P_LTake_lt h
theorem ok_take (c : Cu) {m : Int} (h : 0 < m) (h2 : m < 1000) : Ok_LTake c m := ⟨h, by omega⟩
section
variable {c : Cu} {most : Int} (hm : most = 6 ∨ most = 3)
include hm
theorem most_of {x : Int} (hx : Bd 6 x) : Bd most (bif decide (most = 6) then x else ixZ (ixZ P_LOrders x) 0) := by
  rcases hm with rfl | rfl
  · exact hx
  · exact (ord_at hx).2.2
theorem v1_bd {x3 x7 : Int} (h3 : Bd 6 x3) (h7 : Bd 6 x7) : InR [x3, x7, x3, 0, 0] (P_LTake c 5).1 ∧ Bd 6 (P_LTable_v1 c x3 x7) := by
  have ht := take_bd (ok_take c (by decide : (0 : Int) < 5) (by decide))
  unfold P_LTable_v1
  unfold Bd at ht
  have : (P_LTake c 5).1 = 0 ∨ (P_LTake c 5).1 = 1 ∨ (P_LTake c 5).1 = 2 ∨ (P_LTake c 5).1 = 3 ∨ (P_LTake c 5).1 = 4 := by omega
  refine ⟨by unfold InR; simp; omega, ?_⟩
  rcases this with e | e | e | e | e <;> rw [e] <;> first | exact h3 | exact h7 | (show Bd 6 0; decide)
theorem v3_bd {x3 x7 : Int} (h3 : Bd 6 x3) (h7 : Bd 6 x7) : Bd 6 (P_LTable_v3 c x3 x7) := by
  unfold P_LTable_v3 P_LTable_v2
  have := (v1_bd (c := c) hm h3 h7).2
  cases decide ((P_LTake c 5).1 = 2) <;> cases decide ((ixZ (ixZ P_LOrders x3) 0) = 0) <;> simp <;> assumption
theorem step_spec {x3 x7 : Int} {t : List Int × Cu} {k : Nat} (h3 : Bd 6 x3) (h7 : Bd 6 x7) (hl : t.1.length = k) (hk : k < 1000) (hb : ∀ x ∈ t.1, Bd most x) :
    Ok_LTable_13 c most x3 t x7 ∧ (P_LTable_s12 c most x3 t x7).1.length = k + 1 ∧ ∀ x ∈ (P_LTable_s12 c most x3 t x7).1, Bd most x := by
  have b1 := v1_bd (c := c) hm h3 h7
  have b3 := v3_bd (c := c) hm h3 h7
  have t6 := take_bd (ok_take t.2 (by decide : (0 : Int) < 6) (by decide))
  have b5 : Bd 6 (P_LTable_v5 x3 x7) := idx_bd (places_mem x3 x7)
  have b6 : Bd 6 (P_LTable_v6 c x3 t x7) := by unfold P_LTable_v6; cases decide ((P_LTake c 5).1 = 4) <;> assumption
  have b9 : Bd 6 (P_LTable_v9 c x3 t x7) := by unfold P_LTable_v9; cases decide ((P_LTake c 5).1 = 4) <;> assumption
  have hL : t.1.length < LIM := by show _ < 16777216; omega
  refine ⟨⟨b1.1, fun _ => ⟨(ord_at h3).1, (ord_at h3).2.1⟩, fun _ => ⟨fun x15 hx => ⟨(ord_at h3).1, ord_mem h3 (bdr hx), (ord_at h7).1, ord_mem h7 (bdr hx)⟩, by decide, sortP_ok _, ?_, places_mem x3 x7, fun _ => ok_take _ (by decide) (by decide), fun _ => ⟨(ord_at b6).1, (ord_at b6).2.1⟩, hL⟩,
    fun _ => ⟨fun _ => ok_take _ (by decide) (by decide), fun _ => ⟨(ord_at b9).1, (ord_at b9).2.1⟩, hL⟩⟩, ?_⟩
  · unfold P_LTable_v4; rw [(sortZ_perm _ _).length_eq, List.length_map]; decide
  · have m6 := most_of hm b6
    have m9 := most_of hm b9
    unfold P_LTable_s12
    cases decide ((P_LTake c 5).1 = 3)
    · refine ⟨by simp [P_LTable_v11, hl], fun x hx => ?_⟩
      simp only [cond_false, P_LTable_v11, List.mem_append, List.mem_singleton] at hx
      rcases hx with hx | rfl
      · exact hb x hx
      · exact m9
    · refine ⟨by simp [P_LTable_v8, hl], fun x hx => ?_⟩
      simp only [cond_true, P_LTable_v8, List.mem_append, List.mem_singleton] at hx
      rcases hx with hx | rfl
      · exact hb x hx
      · exact m6
theorem row_spec {x3 : Int} {t : List Int × Cu} {k : Nat} (h3 : Bd 6 x3) (hl : t.1.length = k) (hk : k < 900) (hb : ∀ x ∈ t.1, Bd most x) :
    Ok_LTable_16 c most t x3 ∧ (P_LTable_s15 c most t x3).1.length = k + 6 ∧ ∀ x ∈ (P_LTable_s15 c most t x3).1, Bd most x := by
  have := okFold_ix (ok := fun (t5 : List Int × Cu) (x7 : Int) => Ok_LTable_13 c most x3 t5 x7) (step := fun (t5 : List Int × Cu) (x7 : Int) => P_LTable_s12 c most x3 t5 x7) (fun j t => t.1.length = j ∧ ∀ x ∈ t.1, Bd most x) (rngZ 0 6) (t.1, t.2) k ⟨hl, hb⟩ fun j t x hx h1 h2 h => by
    have hr : (rngZ 0 6).length = 6 := by decide
    obtain ⟨g1, g2, g3⟩ := step_spec (c := c) hm h3 (bdr hx) h.1 (by omega) h.2
    exact ⟨g1, g2, g3⟩
  exact ⟨this.1, this.2.1, this.2.2⟩
theorem rows_spec : okFold (fun (t1 : List Int × Cu) (x3 : Int) => Ok_LTable_16 c most t1 x3) (fun (t1 : List Int × Cu) (x3 : Int) => P_LTable_s15 c most t1 x3) ([], (P_LTake c 5).2) (rngZ 0 6) ∧ (P_LTable_l17 c most).1.length = 36 ∧ ∀ x ∈ (P_LTable_l17 c most).1, Bd most x := by
  have := okFold_ix (ok := fun (t1 : List Int × Cu) (x3 : Int) => Ok_LTable_16 c most t1 x3) (step := fun (t1 : List Int × Cu) (x3 : Int) => P_LTable_s15 c most t1 x3) (fun j t => t.1.length = 6 * j ∧ ∀ x ∈ t.1, Bd most x) (rngZ 0 6) ([], (P_LTake c 5).2) 0 ⟨rfl, by simp⟩ fun j t x hx h1 h2 h => by
    have hr : (rngZ 0 6).length = 6 := by decide
    obtain ⟨g1, g2, g3⟩ := row_spec (c := c) hm (bdr hx) h.1 (by omega) h.2
    exact ⟨g1, by rw [g2]; omega, g3⟩
  exact ⟨this.1, this.2.1, this.2.2⟩
theorem table_spec : Ok_LTable c most ∧ (P_LTable c most).1.length = 36 ∧ ∀ x ∈ (P_LTable c most).1, Bd most x := by
  obtain ⟨r1, r2, r3⟩ := rows_spec (c := c) hm
  have hm0 : 0 < most ∧ most < 1000 := by rcases hm with rfl | rfl <;> decide
  have t3 := take_bd (ok_take (P_LTable_l17 c most).2 (by decide : (0 : Int) < 3) (by decide))
  have := okFold_inv (ok := fun (t29 : List Int × Cu) (x31 : Int) => Ok_LTable_22 most t29) (step := fun (t29 : List Int × Cu) (x31 : Int) => P_LTable_s21 most t29) (fun t => t.1.length = 36 ∧ ∀ x ∈ t.1, Bd most x) (rngZ 0 (P_LTake (P_LTable_l17 c most).2 3).1) ((P_LTable_l17 c most).1, P_LTable_c18 c most) ⟨r2, r3⟩ fun t x hx h => by
    have q1 := take_bd (ok_take t.2 hm0.1 hm0.2)
    have q2 := take_bd (ok_take (P_LTake t.2 most).2 (by decide : (0 : Int) < 36) (by decide))
    have hin : InR t.1 (P_LTake (P_LTake t.2 most).2 36).1 := by unfold Bd at q2; unfold InR; rw [h.1]; omega
    refine ⟨⟨ok_take _ hm0.1 hm0.2, ok_take _ (by decide) (by decide), hin⟩, ?_⟩
    refine ⟨by simp [P_LTable_s21, P_LTable_v20, setZ, h.1], fun y hy => ?_⟩
    simp only [P_LTable_s21, P_LTable_v20, setZ] at hy
    rcases List.mem_or_eq_of_mem_set hy with hy | rfl
    · exact h.2 y hy
    · exact q1
  refine ⟨⟨ok_take _ (by decide) (by decide), r1, ok_take _ (by decide) (by decide), ?_, this.1⟩, this.2.1, this.2.2⟩
  unfold Bd at t3
  unfold I62; constructor <;> omega
end
end K43

set_option maxHeartbeats 1000000
/-! K43e: the pieces of papers; judges. -/
namespace K43
open PySem PySem.Spec PyProof.Rows L2 DV
/-! ### orders -/
theorem ahead_ok {p x y : Int} (h : Bd 6 p) (hx : Bd 3 x) (hy : Bd 3 y) : Ok_isAhead p x y := by
  have e : k_ORDERS = P_LOrders := rfl
  unfold Ok_isAhead
  rw [e]
  exact ⟨(ord_at h).1, ord_mem h hx, ord_mem h hy⟩
theorem lahead_ok {p x y : Int} (h : Bd 6 p) (hx : Bd 3 x) (hy : Bd 3 y) : Ok_LAhead p x y := ⟨(ord_at h).1, ord_mem h hx, ord_mem h hy⟩
theorem lahead_eq (p x y : Int) : P_LAhead p x y = P_isAhead p x y := rfl
theorem ahead_N {p x y : Int} (h : Bd 6 p) (hx : Bd 3 x) (hy : Bd 3 y) : P_isAhead p x y = ahN p.toNat x.toNat y.toNat := by
  rcases bd6 h with rfl | rfl | rfl | rfl | rfl | rfl <;> rcases bd3 hx with rfl | rfl | rfl <;> rcases bd3 hy with rfl | rfl | rfl <;> decide +kernel
/-! ### numbers in papers -/
def nb (n : Int) (x : AV) : Prop := x.isI = true ∧ Bd n x.int
theorem nb_iff {n : Int} {x : AV} : ((x.isInt && !x.isBl) && (decide (0 ≤ x.int) && decide (x.int < n))) = true ↔ nb n x := by
  rw [AV.isI_iff]; simp [nb, Bd]
theorem numb_iff {row : List AV} {n : Int} : P_areNumbers row n = true ↔ ∀ x ∈ row, nb n x := by
  unfold P_areNumbers P_isInteger
  simp only [List.all_map, List.all_eq_true]
  exact ⟨fun h x hx => nb_iff.mp (h x hx), fun h x hx => nb_iff.mpr (h x hx)⟩
theorem numb_ok {row : List AV} {n : Int} (h : row.length ≤ 1048576) : Ok_areNumbers row n := by
  refine ⟨fun x _ hx => ?_, by show _ ≤ 16777216; omega⟩
  unfold P_isInteger at hx
  rwa [AV.isI_iff] at hx
theorem lnum_iff {v : AV} {a : List AV} {w : AV} {sizes : List Int} (hx : v.items = w :: a) : P_LNumbers v sizes = true ↔ a.length = sizes.length ∧ ∀ i, i < sizes.length → nb (sizes.getD i 0) (a.getD i default) := by
  unfold P_LNumbers P_LIsInt
  rw [hx]
  by_cases hl : a.length = sizes.length
  · have e : decide (((w :: a).length : Int) = 1 + (sizes.length : Int)) = true := by simp; omega
    rw [e]
    simp only [Bool.not_true, cond_false, List.all_map, List.all_eq_true, hl, true_and]
    constructor
    · intro h i hi
      have := h (i : Int) (mem_rngN.mpr ⟨i, hi, rfl⟩)
      have e1 : ixZ (w :: a) ((i : Int) + 1) = a.getD i default := by
        rw [show (i : Int) + 1 = ((i + 1 : Nat) : Int) by omega, ixZ_nat]; simp
      simp only [Function.comp, e1, id] at this
      rw [show ixZ sizes (i : Int) = sizes.getD i 0 from ixZ_nat sizes i] at this
      exact nb_iff.mp this
    · intro h x hx
      obtain ⟨i, hi, rfl⟩ := mem_rngN.mp hx
      have e1 : ixZ (w :: a) ((i : Int) + 1) = a.getD i default := by
        rw [show (i : Int) + 1 = ((i + 1 : Nat) : Int) by omega, ixZ_nat]; simp
      simp only [Function.comp, e1, id]
      rw [show ixZ sizes (i : Int) = sizes.getD i 0 from ixZ_nat sizes i]
      exact nb_iff.mpr (h i hi)
  · have e : decide (((w :: a).length : Int) = 1 + (sizes.length : Int)) = false := by simp; omega
    rw [e]; simp [hl]
theorem lnum_ok {v : AV} {sizes : List Int} (h : v.isTup = true) (hs : sizes.length < 1000) : Ok_LNumbers v sizes := by
  refine ⟨h, fun hl => ?_⟩
  have hl : v.items.length = 1 + sizes.length := by
    have : (v.items.length : Int) = 1 + (sizes.length : Int) := by simpa using hl
    omega
  refine ⟨⟨by omega, by omega⟩, fun x hx => ?_, by rw [rngZ_len]; show _ ≤ 16777216; omega⟩
  obtain ⟨i, hi, rfl⟩ := mem_rngN.mp hx
  have hin : InR v.items ((i : Int) + 1) := by unfold InR; omega
  refine ⟨h, hin, fun hI => ⟨h, hin, ?_, fun _ => by unfold InR; omega⟩⟩
  unfold P_LIsInt at hI
  rwa [AV.isI_iff] at hI
/-! ### values of a known tuple -/
theorem items_mk {v : AV} {ds : List D} (h : v.1 = .tup ds) : v.items = ds.map mkA := by
  have e := AV.items_of h
  rw [← e, List.map_map]
  conv => lhs; rw [← List.map_id v.items]
  refine List.map_congr_left fun x _ => ?_
  exact (Subtype.ext (mkA_1 x.2)).symm
theorem int_mk {i : Int} (h : i.natAbs < 1099511627776) : (mkA (.int i)).isI = true ∧ (mkA (.int i)).int = i := AV.int_of (mkA_1 (by simpa [D.av] using h))
theorem nb_mk {n i : Int} (hn : n < 1000) (h : Bd n i) : nb n (mkA (.int i)) := by
  unfold Bd at h
  obtain ⟨h1, h2⟩ := int_mk (i := i) (by omega)
  exact ⟨h1, by rw [h2]; exact h⟩
theorem deq_i {a b : AV} (ha : a.isI = true) (hb : b.isI = true) : deq (eA a) (eA b) = decide (a.int = b.int) := by
  show deq a.1 b.1 = _
  rw [AV.i_eq ha, AV.i_eq hb, deq_int]; rfl
theorem deq_w (s t : Sx) : deq (eA (mkA (eS s))) (eS t) = decide (s = t) := by
  have : eA (mkA (eS s)) = eS s := mkA_1 (by simp [D.av, s.2.1, s.2.2])
  rw [this]
  exact (eqv_S (k := 0)).eq s t
theorem str_mk (s : Sx) : (mkA (eS s)).isStr = true := AV.str_of (s := s.1) (mkA_1 (by simp [D.av, s.2.1, s.2.2]))
/-! ### tables -/
section
variable {tb : List Int} (hl : tb.length = 36)
include hl
theorem tb_in {p q : Int} (hp : Bd 6 p) (hq : Bd 6 q) : InR tb (6 * p + q) := by unfold Bd at *; unfold InR; omega
theorem tb_at {n p q : Int} (hb : ∀ x ∈ tb, Bd n x) (hp : Bd 6 p) (hq : Bd 6 q) : Bd n (ixZ tb (6 * p + q)) := hb _ (ixZ_mem (tb_in hl hp hq))
theorem own_in {v x y : Int} (hv : Bd 2 v) : InR [x, y] v := by rcases bd2 hv with rfl | rfl <;> (unfold InR; simp)
theorem own_bd {v x y : Int} (hv : Bd 2 v) (hx : Bd 6 x) (hy : Bd 6 y) : Bd 6 (ixZ [x, y] v) := by rcases bd2 hv with rfl | rfl <;> assumption
/-- the table is that of one voter's own -/
def Rul (most : Int) (tb : List Int) (v : Int) : Prop := ∀ p, Bd 6 p → ∀ q, Bd 6 q → ixZ tb (6 * p + q) = bif decide (most = 6) then ixZ [p, q] v else ixZ (ixZ P_LOrders (ixZ [p, q] v)) 0
theorem own_iff (v most : Int) : P_LOwn tb v most = true ↔ Rul most tb v := by
  have e1 : ∀ x3, P_LOwn_s4 tb v most x3 = bif (rngZ 0 6).any (fun x7 => !decide (ixZ tb (6 * x3 + x7) = bif decide (most = 6) then ixZ [x3, x7] v else ixZ (ixZ P_LOrders (ixZ [x3, x7] v)) 0)) then .rt false else .nx () := fun x3 => by
    unfold P_LOwn_s4 P_LOwn_l3 P_LOwn_s1
    rw [forP_bool]
    cases (rngZ 0 6).any _ <;> rfl
  unfold P_LOwn P_LOwn_l6
  simp only [e1]
  rw [forP_bool]
  have e2 : ∀ b : Bool, ((bif b then Lo.rt false else .nx () : Lo Unit Bool).fin fun _ => true) = !b := fun b => by cases b <;> rfl
  rw [e2, Bool.not_eq_true', List.any_eq_false]
  unfold Rul
  constructor
  · intro h p hp q hq
    have := h p (mem_rngZ.mpr hp)
    rw [Bool.not_eq_true, List.any_eq_false] at this
    simpa using this q (mem_rngZ.mpr hq)
  · intro h p hp
    rw [Bool.not_eq_true, List.any_eq_false]
    intro q hq
    simpa using h p (bdr hp) q (bdr hq)
theorem own_ok {v : Int} (hv : Bd 2 v) (most : Int) : Ok_LOwn tb v most := by
  refine okFor_all _ _ fun _ p hp => okFor_all _ _ fun _ q hq => ⟨own_in hl hv, tb_in hl (bdr hp) (bdr hq), fun _ => ?_⟩
  have := ord_at (own_bd hl hv (bdr hp) (bdr hq))
  exact ⟨this.1, this.2.1⟩
theorem alone_iff (v : Int) : P_rulesAlone tb v = true ↔ Rul 6 tb v := by
  unfold P_rulesAlone Rul
  simp only [List.all_eq_true, List.mem_flatMap, List.mem_map, List.mem_filter, and_true]
  constructor
  · intro h p hp q hq
    have := h _ ⟨p, mem_rngZ.mpr hp, q, mem_rngZ.mpr hq, rfl⟩
    simpa using this
  · rintro h b ⟨p, hp, q, hq, rfl⟩
    simpa using h p (bdr hp) q (bdr hq)
theorem alone_ok {v : Int} (hv : Bd 2 v) : Ok_rulesAlone tb v := by
  refine ⟨fun p hp q hq => ⟨tb_in hl (bdr hp) (bdr hq), own_in hl hv⟩, ?_⟩
  rw [List.length_flatMap]
  simp [show (rngZ 0 6) = [0, 1, 2, 3, 4, 5] by decide]; decide
theorem choose_iff (v : Int) : P_choosesAlone tb v = true ↔ Rul 3 tb v := by
  have e : k_ORDERS = P_LOrders := rfl
  unfold P_choosesAlone Rul
  rw [e]
  simp only [List.all_eq_true, List.mem_flatMap, List.mem_map, List.mem_filter, and_true]
  constructor
  · intro h p hp q hq
    have := h _ ⟨p, mem_rngZ.mpr hp, q, mem_rngZ.mpr hq, rfl⟩
    simpa using this
  · rintro h b ⟨p, hp, q, hq, rfl⟩
    simpa using h p (bdr hp) q (bdr hq)
theorem choose_ok {v : Int} (hv : Bd 2 v) : Ok_choosesAlone tb v := by
  have e : k_ORDERS = P_LOrders := rfl
  unfold Ok_choosesAlone
  rw [e]
  refine ⟨fun p hp q hq => ?_, ?_⟩
  · have := ord_at (own_bd hl hv (bdr hp) (bdr hq))
    exact ⟨tb_in hl (bdr hp) (bdr hq), own_in hl hv, this.1, this.2.1⟩
  · rw [List.length_flatMap]
    simp [show (rngZ 0 6) = [0, 1, 2, 3, 4, 5] by decide]; decide
section
variable (hb : ∀ x ∈ tb, Bd 6 x)
include hb
theorem against_ok {p q x y : Int} (hp : Bd 6 p) (hq : Bd 6 q) (hx : Bd 3 x) (hy : Bd 3 y) : Ok_isAgainst tb p q x y :=
  ⟨ahead_ok hp hx hy, fun _ => ⟨ahead_ok hq hx hy, fun _ => ⟨tb_in hl hp hq, ahead_ok (tb_at hl hb hp hq) hx hy⟩⟩⟩
theorem hangs_ok {p q r s x y : Int} (hp : Bd 6 p) (hq : Bd 6 q) (hr : Bd 6 r) (hs : Bd 6 s) (hx : Bd 3 x) (hy : Bd 3 y) : Ok_hangsOnOthers tb p q r s x y :=
  ⟨ahead_ok hp hx hy, ahead_ok hr hx hy, fun _ => ⟨ahead_ok hq hx hy, ahead_ok hs hx hy⟩, fun _ => ⟨tb_in hl hp hq, ahead_ok (tb_at hl hb hp hq) hx hy, tb_in hl hr hs, ahead_ok (tb_at hl hb hr hs) hx hy⟩⟩
end
section
variable (hb : ∀ x ∈ tb, Bd 3 x)
include hb
theorem gain_bd {v p q r : Int} (hp : Bd 6 p) (hq : Bd 6 q) (hr : Bd 6 r) : Bd 3 (P_doesGain_v1 tb v p q r) := by
  unfold P_doesGain_v1
  cases decide (v = 0)
  · exact tb_at hl hb hp hr
  · exact tb_at hl hb hr hq
theorem gain_ok {v p q r : Int} (hv : Bd 2 v) (hp : Bd 6 p) (hq : Bd 6 q) (hr : Bd 6 r) : Ok_doesGain tb v p q r :=
  ⟨own_in hl hv, tb_in hl hp hq, fun _ => tb_in hl hr hq, fun _ => tb_in hl hp hr, fun _ => ahead_ok (own_bd hl hv hp hq) (gain_bd hl hb hp hq hr) (tb_at hl hb hp hq)⟩
end
end
end K43

set_option maxHeartbeats 1000000
/-! K43f: the judges say what the law says. -/
namespace K43
open PySem PySem.Spec PyProof.Rows L2 DV
theorem len_cases (v : AV) : (∃ w a, v.items = [w, a]) ∨ (∃ w a b c d, v.items = [w, a, b, c, d]) ∨ (∃ w a b c d e f, v.items = [w, a, b, c, d, e, f]) ∨ (v.items.length ≠ 2 ∧ v.items.length ≠ 5 ∧ v.items.length ≠ 7) := by
  match v.items with
  | [] => simp
  | [_] => simp
  | [_, _] => simp
  | [_, _, _] => simp
  | [_, _, _, _] => simp
  | [_, _, _, _, _] => simp
  | [_, _, _, _, _, _] => simp
  | [_, _, _, _, _, _, _] => simp
  | _ :: _ :: _ :: _ :: _ :: _ :: _ :: _ :: _ => simp
theorem inr0 {w : AV} {xs : List AV} : InR (w :: xs) 0 := by unfold InR; simp; omega
section
variable {tb : List Int} (hl : tb.length = 36) (hb : ∀ x ∈ tb, Bd 6 x) {v : AV}
include hl hb
theorem ja_no (h : v.isTup = false) : P_judgeArrow tb v = P_LIsArrow tb v ∧ Ok_judgeArrow tb v ∧ Ok_LIsArrow tb v := by
  refine ⟨by simp [P_judgeArrow, P_LIsArrow, h], by simp [Ok_judgeArrow, h], by simp [Ok_LIsArrow, h]⟩
theorem ja_other (h : v.isTup = true) (hn : v.items.length ≠ 2 ∧ v.items.length ≠ 5 ∧ v.items.length ≠ 7) : P_judgeArrow tb v = P_LIsArrow tb v ∧ Ok_judgeArrow tb v ∧ Ok_LIsArrow tb v := by
  have hj : decide ((v.items.length : Int) ∈ [((2 : Int), (5 : Int), (7 : Int)).1, ((2 : Int), (5 : Int), (7 : Int)).2.1, ((2 : Int), (5 : Int), (7 : Int)).2.2]) = false := by
    simp; omega
  have k1 := lnum_ok (sizes := [2]) h (by decide)
  have k2 := lnum_ok (sizes := [6, 6, 3, 3]) h (by decide)
  have k3 := lnum_ok (sizes := [6, 6, 6, 6, 3, 3]) h (by decide)
  match hx : v.items with
  | [] =>
    have ht : v.tru = false := by rw [AV.tru_tup h, hx]; rfl
    rw [hx] at hj
    exact ⟨by simp [P_judgeArrow, P_LIsArrow, h, hx, ht], by simp [Ok_judgeArrow, h, hx], by simp [Ok_LIsArrow, h, ht]⟩
  | w :: a =>
    have ht : v.tru = true := by rw [AV.tru_tup h, hx]; rfl
    rw [hx] at hn
    simp only [List.length_cons] at hn
    have e1 : P_LNumbers v [2] = false := by rw [Bool.eq_false_iff]; intro z; have := ((lnum_iff hx).mp z).1; simp at this; omega
    have e2 : P_LNumbers v [6, 6, 3, 3] = false := by rw [Bool.eq_false_iff]; intro z; have := ((lnum_iff hx).mp z).1; simp at this; omega
    have e3 : P_LNumbers v [6, 6, 6, 6, 3, 3] = false := by rw [Bool.eq_false_iff]; intro z; have := ((lnum_iff hx).mp z).1; simp at this; omega
    have i0 : InR v.items 0 := by rw [hx]; exact inr0
    refine ⟨?_, ?_, ?_⟩
    · unfold P_judgeArrow P_LIsArrow
      rw [hj, e1, e2, e3]
      simp [h, ht]
    · unfold Ok_judgeArrow
      rw [hj]
      simp [h]
    · unfold Ok_LIsArrow
      rw [e1, e2, e3]
      simp [h, ht, i0, k1, k2, k3]
theorem ja_2 (h : v.isTup = true) {w a : AV} (hx : v.items = [w, a]) : P_judgeArrow tb v = P_LIsArrow tb v ∧ Ok_judgeArrow tb v ∧ Ok_LIsArrow tb v := by
  have ht : v.tru = true := by rw [AV.tru_tup h, hx]; rfl
  have k1 := lnum_ok (sizes := [2]) h (by decide)
  have k2 := lnum_ok (sizes := [6, 6, 3, 3]) h (by decide)
  have k3 := lnum_ok (sizes := [6, 6, 6, 6, 3, 3]) h (by decide)
  have e2 : P_LNumbers v [6, 6, 3, 3] = false := by rw [Bool.eq_false_iff]; intro z; have := ((lnum_iff hx).mp z).1; simp at this
  have e3 : P_LNumbers v [6, 6, 6, 6, 3, 3] = false := by rw [Bool.eq_false_iff]; intro z; have := ((lnum_iff hx).mp z).1; simp at this
  have e1 : P_LNumbers v [2] = true ↔ nb 2 a := by
    rw [lnum_iff hx]
    constructor
    · intro z; exact z.2 0 (by decide)
    · intro z; refine ⟨rfl, fun i hi => ?_⟩
      have : i = 0 := by simp at hi; omega
      subst this; exact z
  have c1 : cutZ v.items (some 1) none = [a] := by rw [hx]; rfl
  have f1 : P_areNumbers [a] 2 = true ↔ nb 2 a := by rw [numb_iff]; simp
  have g1 : P_areNumbers [a] 2 = P_LNumbers v [2] := by rw [Bool.eq_iff_iff, e1, f1]
  have ix0 : ixZ v.items 0 = w := by rw [hx]; rfl
  have ix1 : ixZ v.items 1 = a := by rw [hx]; rfl
  have hlen : (v.items.length : Int) = 2 := by rw [hx]; rfl
  have i0 : InR v.items 0 := by rw [hx]; exact inr0
  have i1 : InR v.items 1 := by rw [hx]; unfold InR; simp
  have o1 : Ok_areNumbers [a] 2 := numb_ok (by simp)
  have m2 : decide ((2 : Int) < 5) = true := by decide
  have own : P_LNumbers v [2] = true → P_rulesAlone tb a.int = P_LOwn tb a.int 6 ∧ a.isI = true ∧ Ok_rulesAlone tb a.int ∧ Ok_LOwn tb a.int 6 := fun z => by
    have z := e1.mp z
    exact ⟨by rw [Bool.eq_iff_iff, alone_iff hl, own_iff hl], z.1, alone_ok hl z.2, own_ok hl z.2 6⟩
  refine ⟨?_, ?_, ?_⟩
  · unfold P_judgeArrow P_LIsArrow
    rw [e2, e3, hlen, c1, ix0, ix1, g1]
    cases z : P_LNumbers v [2]
    · simp [h, ht]
    · rw [(own z).1]; simp [h, ht]
  · unfold Ok_judgeArrow
    rw [hlen, c1, ix0, ix1, g1]
    simp [h, i0, i1, o1]
    intro _ _ z
    exact ⟨(own z).2.1, (own z).2.2.1⟩
  · unfold Ok_LIsArrow
    rw [e2, e3, ix0, ix1]
    simp [h, ht, i0, i1, k1, k2, k3]
    intro _ _ z
    exact ⟨(own z).2.1, (own z).2.2.2⟩
theorem ja_5 (h : v.isTup = true) {w a b c d : AV} (hx : v.items = [w, a, b, c, d]) : P_judgeArrow tb v = P_LIsArrow tb v ∧ Ok_judgeArrow tb v ∧ Ok_LIsArrow tb v := by
  have ht : v.tru = true := by rw [AV.tru_tup h, hx]; rfl
  have k1 := lnum_ok (sizes := [2]) h (by decide)
  have k2 := lnum_ok (sizes := [6, 6, 3, 3]) h (by decide)
  have k3 := lnum_ok (sizes := [6, 6, 6, 6, 3, 3]) h (by decide)
  have e1 : P_LNumbers v [2] = false := by rw [Bool.eq_false_iff]; intro z; have := ((lnum_iff hx).mp z).1; simp at this
  have e3 : P_LNumbers v [6, 6, 6, 6, 3, 3] = false := by rw [Bool.eq_false_iff]; intro z; have := ((lnum_iff hx).mp z).1; simp at this
  have e2 : P_LNumbers v [6, 6, 3, 3] = true ↔ nb 6 a ∧ nb 6 b ∧ nb 3 c ∧ nb 3 d := by
    rw [lnum_iff hx]
    constructor
    · intro z; exact ⟨z.2 0 (by decide), z.2 1 (by decide), z.2 2 (by decide), z.2 3 (by decide)⟩
    · rintro ⟨z0, z1, z2, z3⟩; refine ⟨rfl, fun i hi => ?_⟩
      have : i = 0 ∨ i = 1 ∨ i = 2 ∨ i = 3 := by simp at hi; omega
      rcases this with rfl | rfl | rfl | rfl <;> assumption
  have c0 : cutZ v.items (some 1) none = [a, b, c, d] := by rw [hx]; rfl
  have c1 : cutZ v.items (some 1) (some (-2)) = [a, b] := by rw [hx]; rfl
  have c2 : cutZ v.items (some (-2)) none = [c, d] := by rw [hx]; rfl
  have f1 : P_areNumbers [a, b] 6 = true ↔ nb 6 a ∧ nb 6 b := by rw [numb_iff]; simp
  have f2 : P_areNumbers [c, d] 3 = true ↔ nb 3 c ∧ nb 3 d := by rw [numb_iff]; simp
  have g1 : P_LNumbers v [6, 6, 3, 3] = (P_areNumbers [a, b] 6 && P_areNumbers [c, d] 3) := by rw [Bool.eq_iff_iff, Bool.and_eq_true, e2, f1, f2, and_assoc]
  have ix0 : ixZ v.items 0 = w := by rw [hx]; rfl
  have ix1 : ixZ v.items 1 = a := by rw [hx]; rfl
  have ix2 : ixZ v.items 2 = b := by rw [hx]; rfl
  have ix3 : ixZ v.items 3 = c := by rw [hx]; rfl
  have ix4 : ixZ v.items 4 = d := by rw [hx]; rfl
  have im1 : ixZ v.items (-1) = d := by rw [hx]; rfl
  have im2 : ixZ v.items (-2) = c := by rw [hx]; rfl
  have hlen : (v.items.length : Int) = 5 := by rw [hx]; rfl
  have i0 : InR v.items 0 := by rw [hx]; exact inr0
  have i1 : InR v.items 1 ∧ InR v.items 2 ∧ InR v.items 3 ∧ InR v.items 4 ∧ InR v.items (-1) ∧ InR v.items (-2) := by rw [hx]; simp [InR]
  have o1 : Ok_areNumbers [a, b] 6 := numb_ok (by simp)
  have o2 : Ok_areNumbers [c, d] 3 := numb_ok (by simp)
  have o3 : Ok_areNumbers [a, b, c, d] 2 := numb_ok (by simp)
  have v1 : P_LIsArrow_v1 v = a := by unfold P_LIsArrow_v1; rw [c0]; rfl
  have v2 : P_LIsArrow_v2 v = b := by unfold P_LIsArrow_v2; rw [c0]; rfl
  have v3 : P_LIsArrow_v3 v = c := by unfold P_LIsArrow_v3; rw [c0]; rfl
  have v4 : P_LIsArrow_v4 v = d := by unfold P_LIsArrow_v4; rw [c0]; rfl
  have all : P_areNumbers [a, b] 6 = true → P_areNumbers [c, d] 3 = true → (a.isI = true ∧ b.isI = true ∧ c.isI = true ∧ d.isI = true ∧ deq (eA d) (eA c) = deq (eA c) (eA d)) ∧ Bd 6 a.int ∧ Bd 6 b.int ∧ Bd 3 c.int ∧ Bd 3 d.int := fun z1 z2 => by
    obtain ⟨⟨a1, a2⟩, b1, b2⟩ := f1.mp z1
    obtain ⟨⟨c1, c2⟩, d1, d2⟩ := f2.mp z2
    exact ⟨⟨a1, b1, c1, d1, by rw [deq_i d1 c1, deq_i c1 d1]; simp [eq_comm]⟩, a2, b2, c2, d2⟩
  refine ⟨?_, ?_, ?_⟩
  · unfold P_judgeArrow P_LIsArrow
    rw [e1, e3, hlen, c0, c1, c2, ix0, ix1, ix2, ix3, ix4, im1, im2, v1, v2, v3, v4, g1]
    cases z1 : P_areNumbers [a, b] 6 <;> cases z2 : P_areNumbers [c, d] 3 <;> simp [h, ht]
    rw [(all z1 z2).1.2.2.2.2]
    unfold P_isAgainst
    simp only [lahead_eq]
    cases w.isStr <;> cases deq (eA w) (eS sx_one_rules_0) <;> cases deq (eA w) (eS sx_against_both_1) <;> cases deq (eA w) (eS sx_not_alone_2) <;> cases deq (eA c) (eA d) <;> simp
  · unfold Ok_judgeArrow
    rw [hlen, c0, c1, c2, ix0, ix1, ix2, ix3, ix4, im1, im2]
    simp [h, i0, i1, o1, o2, o3]
    intro _ _ z1 z2 _ _
    obtain ⟨⟨a1, a2, a3, a4, _⟩, b1, b2, b3, b4⟩ := all z1 z2
    exact ⟨a1, a2, a3, a4, against_ok hl hb b1 b2 b3 b4⟩
  · unfold Ok_LIsArrow
    rw [e1, e3, ix0, v1, v2, v3, v4, g1, c0]
    simp [h, ht, i0, i1, k1, k2, k3]
    intro _ _ _ z1 z2 _
    obtain ⟨⟨a1, a2, a3, a4, _⟩, b1, b2, b3, b4⟩ := all z1 z2
    exact ⟨a1, a3, a4, lahead_ok b1 b3 b4, fun _ => ⟨a2, a3, a4, lahead_ok b2 b3 b4, fun _ => ⟨a1, a2, tb_in hl b1 b2, a3, a4, lahead_ok (tb_at hl hb b1 b2) b3 b4⟩⟩⟩
theorem ja_7 (h : v.isTup = true) {w a b p q c d : AV} (hx : v.items = [w, a, b, p, q, c, d]) : P_judgeArrow tb v = P_LIsArrow tb v ∧ Ok_judgeArrow tb v ∧ Ok_LIsArrow tb v := by
  have ht : v.tru = true := by rw [AV.tru_tup h, hx]; rfl
  have k1 := lnum_ok (sizes := [2]) h (by decide)
  have k2 := lnum_ok (sizes := [6, 6, 3, 3]) h (by decide)
  have k3 := lnum_ok (sizes := [6, 6, 6, 6, 3, 3]) h (by decide)
  have e1 : P_LNumbers v [2] = false := by rw [Bool.eq_false_iff]; intro z; have := ((lnum_iff hx).mp z).1; simp at this
  have e3 : P_LNumbers v [6, 6, 3, 3] = false := by rw [Bool.eq_false_iff]; intro z; have := ((lnum_iff hx).mp z).1; simp at this
  have e2 : P_LNumbers v [6, 6, 6, 6, 3, 3] = true ↔ (nb 6 a ∧ nb 6 b ∧ nb 6 p ∧ nb 6 q) ∧ nb 3 c ∧ nb 3 d := by
    rw [lnum_iff hx]
    constructor
    · intro z; exact ⟨⟨z.2 0 (by decide), z.2 1 (by decide), z.2 2 (by decide), z.2 3 (by decide)⟩, z.2 4 (by decide), z.2 5 (by decide)⟩
    · rintro ⟨⟨z0, z1, z2, z3⟩, z4, z5⟩; refine ⟨rfl, fun i hi => ?_⟩
      have : i = 0 ∨ i = 1 ∨ i = 2 ∨ i = 3 ∨ i = 4 ∨ i = 5 := by simp at hi; omega
      rcases this with rfl | rfl | rfl | rfl | rfl | rfl <;> assumption
  have c0 : cutZ v.items (some 1) none = [a, b, p, q, c, d] := by rw [hx]; rfl
  have c1 : cutZ v.items (some 1) (some (-2)) = [a, b, p, q] := by rw [hx]; rfl
  have c2 : cutZ v.items (some (-2)) none = [c, d] := by rw [hx]; rfl
  have f1 : P_areNumbers [a, b, p, q] 6 = true ↔ nb 6 a ∧ nb 6 b ∧ nb 6 p ∧ nb 6 q := by rw [numb_iff]; simp
  have f2 : P_areNumbers [c, d] 3 = true ↔ nb 3 c ∧ nb 3 d := by rw [numb_iff]; simp
  have g1 : P_LNumbers v [6, 6, 6, 6, 3, 3] = (P_areNumbers [a, b, p, q] 6 && P_areNumbers [c, d] 3) := by rw [Bool.eq_iff_iff, Bool.and_eq_true, e2, f1, f2]
  have ix0 : ixZ v.items 0 = w := by rw [hx]; rfl
  have im1 : ixZ v.items (-1) = d := by rw [hx]; rfl
  have im2 : ixZ v.items (-2) = c := by rw [hx]; rfl
  have hlen : (v.items.length : Int) = 7 := by rw [hx]; rfl
  have i0 : InR v.items 0 := by rw [hx]; exact inr0
  have i1 : InR v.items (-1) ∧ InR v.items (-2) := by rw [hx]; simp [InR]
  have o1 : Ok_areNumbers [a, b, p, q] 6 := numb_ok (by simp)
  have o2 : Ok_areNumbers [c, d] 3 := numb_ok (by simp)
  have o3 : Ok_areNumbers [a, b, p, q, c, d] 2 := numb_ok (by simp)
  have v1 : P_LIsArrow_v5 v = a := by unfold P_LIsArrow_v5; rw [c0]; rfl
  have v2 : P_LIsArrow_v6 v = b := by unfold P_LIsArrow_v6; rw [c0]; rfl
  have v3 : P_LIsArrow_v7 v = p := by unfold P_LIsArrow_v7; rw [c0]; rfl
  have v4 : P_LIsArrow_v8 v = q := by unfold P_LIsArrow_v8; rw [c0]; rfl
  have v5 : P_LIsArrow_v9 v = c := by unfold P_LIsArrow_v9; rw [c0]; rfl
  have v6 : P_LIsArrow_v10 v = d := by unfold P_LIsArrow_v10; rw [c0]; rfl
  have w1 : P_judgeArrow_v1 v = a := by unfold P_judgeArrow_v1; rw [c0]; rfl
  have w2 : P_judgeArrow_v2 v = b := by unfold P_judgeArrow_v2; rw [c0]; rfl
  have w3 : P_judgeArrow_v3 v = p := by unfold P_judgeArrow_v3; rw [c0]; rfl
  have w4 : P_judgeArrow_v4 v = q := by unfold P_judgeArrow_v4; rw [c0]; rfl
  have w5 : P_judgeArrow_v5 v = c := by unfold P_judgeArrow_v5; rw [c0]; rfl
  have w6 : P_judgeArrow_v6 v = d := by unfold P_judgeArrow_v6; rw [c0]; rfl
  have all : P_areNumbers [a, b, p, q] 6 = true → P_areNumbers [c, d] 3 = true → (a.isI = true ∧ b.isI = true ∧ p.isI = true ∧ q.isI = true ∧ c.isI = true ∧ d.isI = true ∧ deq (eA d) (eA c) = deq (eA c) (eA d)) ∧ Bd 6 a.int ∧ Bd 6 b.int ∧ Bd 6 p.int ∧ Bd 6 q.int ∧ Bd 3 c.int ∧ Bd 3 d.int := fun z1 z2 => by
    obtain ⟨⟨a1, a2⟩, ⟨b1, b2⟩, ⟨p1, p2⟩, q1, q2⟩ := f1.mp z1
    obtain ⟨⟨c1, c2⟩, d1, d2⟩ := f2.mp z2
    exact ⟨⟨a1, b1, p1, q1, c1, d1, by rw [deq_i d1 c1, deq_i c1 d1]; simp [eq_comm]⟩, a2, b2, p2, q2, c2, d2⟩
  refine ⟨?_, ?_, ?_⟩
  · unfold P_judgeArrow P_LIsArrow
    rw [e1, e3, hlen, c0, c1, c2, ix0, im1, im2, v1, v2, v3, v4, v5, v6, w1, w2, w3, w4, w5, w6, g1]
    cases z1 : P_areNumbers [a, b, p, q] 6 <;> cases z2 : P_areNumbers [c, d] 3 <;> simp [h, ht]
    rw [(all z1 z2).1.2.2.2.2.2.2]
    unfold P_hangsOnOthers
    simp only [lahead_eq]
    cases w.isStr <;> cases deq (eA w) (eS sx_one_rules_0) <;> cases he : deq (eA w) (eS sx_against_both_1) <;> cases hf : deq (eA w) (eS sx_not_alone_2) <;> cases deq (eA c) (eA d) <;> simp
    · rfl
    · have := deq_str_av.mp he
      have h2 := deq_str_av.mp hf
      rw [this] at h2
      exact absurd h2 (by decide)
  · unfold Ok_judgeArrow
    rw [hlen, c0, c1, c2, ix0, im1, im2, w1, w2, w3, w4, w5, w6]
    simp [h, i0, i1, o1, o2, o3]
    intro _ _ z1 z2 _ _ _
    obtain ⟨⟨a1, a2, a3, a4, a5, a6, _⟩, b1, b2, b3, b4, b5, b6⟩ := all z1 z2
    exact ⟨a1, a2, a3, a4, a5, a6, hangs_ok hl hb b1 b2 b3 b4 b5 b6⟩
  · unfold Ok_LIsArrow
    rw [e1, e3, ix0, v1, v2, v3, v4, v5, v6, g1, c0]
    simp [h, ht, i0, i1, k1, k2, k3]
    intro _ _ _ z1 z2
    obtain ⟨⟨a1, a2, a3, a4, a5, a6, _⟩, b1, b2, b3, b4, b5, b6⟩ := all z1 z2
    exact ⟨fun _ => ⟨a1, a5, a6, lahead_ok b1 b5 b6, a3, lahead_ok b3 b5 b6, fun _ => ⟨a2, a5, a6, lahead_ok b2 b5 b6, a4, lahead_ok b4 b5 b6⟩⟩, fun _ _ _ => ⟨a1, a2, tb_in hl b1 b2, a5, a6, lahead_ok (tb_at hl hb b1 b2) b5 b6, a3, a4, tb_in hl b3 b4, lahead_ok (tb_at hl hb b3 b4) b5 b6⟩⟩
theorem ja : P_judgeArrow tb v = P_LIsArrow tb v ∧ Ok_judgeArrow tb v ∧ Ok_LIsArrow tb v := by
  cases h : v.isTup
  · exact ja_no hl hb h
  · rcases len_cases v with ⟨w, a, hx⟩ | ⟨w, a, b, c, d, hx⟩ | ⟨w, a, b, c, d, e, f, hx⟩ | hn
    · exact ja_2 hl hb h hx
    · exact ja_5 hl hb h hx
    · exact ja_7 hl hb h hx
    · exact ja_other hl hb h hn
end
end K43

set_option maxHeartbeats 1000000
/-! K43g: the judge of choices. -/
namespace K43
open PySem PySem.Spec PyProof.Rows L2 DV
section
variable {tb : List Int} (hl : tb.length = 36) (hb : ∀ x ∈ tb, Bd 3 x) {v : AV}
include hl hb
theorem jc_no (h : v.isTup = false) : P_judgeChoice tb v = P_LIsChoice tb v ∧ Ok_judgeChoice tb v ∧ Ok_LIsChoice tb v :=
  ⟨by simp [P_judgeChoice, P_LIsChoice, h], by simp [Ok_judgeChoice, h], by simp [Ok_LIsChoice, h]⟩
theorem jc_other (h : v.isTup = true) (hn : v.items.length ≠ 2 ∧ v.items.length ≠ 5) : P_judgeChoice tb v = P_LIsChoice tb v ∧ Ok_judgeChoice tb v ∧ Ok_LIsChoice tb v := by
  have hj : decide ((v.items.length : Int) ∈ [((2 : Int), (5 : Int)).1, ((2 : Int), (5 : Int)).2]) = false := by
    simp; omega
  have k1 := lnum_ok (sizes := [2]) h (by decide)
  have k2 := lnum_ok (sizes := [3]) h (by decide)
  have k3 := lnum_ok (sizes := [2, 6, 6, 6]) h (by decide)
  match hx : v.items with
  | [] =>
    have ht : v.tru = false := by rw [AV.tru_tup h, hx]; rfl
    rw [hx] at hj
    exact ⟨by simp [P_judgeChoice, P_LIsChoice, h, hx, ht], by simp [Ok_judgeChoice, h, hx], by simp [Ok_LIsChoice, h, ht]⟩
  | w :: a =>
    have ht : v.tru = true := by rw [AV.tru_tup h, hx]; rfl
    rw [hx] at hn
    simp only [List.length_cons] at hn
    have e1 : P_LNumbers v [2] = false := by rw [Bool.eq_false_iff]; intro z; have := ((lnum_iff hx).mp z).1; simp at this; omega
    have e2 : P_LNumbers v [3] = false := by rw [Bool.eq_false_iff]; intro z; have := ((lnum_iff hx).mp z).1; simp at this; omega
    have e3 : P_LNumbers v [2, 6, 6, 6] = false := by rw [Bool.eq_false_iff]; intro z; have := ((lnum_iff hx).mp z).1; simp at this; omega
    have i0 : InR v.items 0 := by rw [hx]; exact inr0
    refine ⟨?_, ?_, ?_⟩
    · unfold P_judgeChoice P_LIsChoice
      rw [hj, e1, e2, e3]
      simp [h, ht]
    · unfold Ok_judgeChoice
      rw [hj]
      simp [h]
    · unfold Ok_LIsChoice
      rw [e1, e2, e3]
      simp [h, ht, i0, k1, k2, k3]
theorem jc_2 (h : v.isTup = true) {w a : AV} (hx : v.items = [w, a]) : P_judgeChoice tb v = P_LIsChoice tb v ∧ Ok_judgeChoice tb v ∧ Ok_LIsChoice tb v := by
  have ht : v.tru = true := by rw [AV.tru_tup h, hx]; rfl
  have k1 := lnum_ok (sizes := [2]) h (by decide)
  have k2 := lnum_ok (sizes := [3]) h (by decide)
  have k3 := lnum_ok (sizes := [2, 6, 6, 6]) h (by decide)
  have e3 : P_LNumbers v [2, 6, 6, 6] = false := by rw [Bool.eq_false_iff]; intro z; have := ((lnum_iff hx).mp z).1; simp at this
  have e1 : ∀ n, P_LNumbers v [n] = true ↔ nb n a := fun n => by
    rw [lnum_iff hx]
    constructor
    · intro z; exact z.2 0 (by simp)
    · intro z; refine ⟨rfl, fun i hi => ?_⟩
      have : i = 0 := by simp at hi; omega
      subst this; exact z
  have c1 : cutZ v.items (some 1) none = [a] := by rw [hx]; rfl
  have f1 : ∀ n, P_areNumbers [a] n = true ↔ nb n a := fun n => by rw [numb_iff]; simp
  have g1 : ∀ n, P_areNumbers [a] n = P_LNumbers v [n] := fun n => by rw [Bool.eq_iff_iff, e1, f1]
  have ix0 : ixZ v.items 0 = w := by rw [hx]; rfl
  have ix1 : ixZ v.items 1 = a := by rw [hx]; rfl
  have hlen : (v.items.length : Int) = 2 := by rw [hx]; rfl
  have i0 : InR v.items 0 := by rw [hx]; exact inr0
  have i1 : InR v.items 1 := by rw [hx]; unfold InR; simp
  have o1 : ∀ n, Ok_areNumbers [a] n := fun n => numb_ok (by simp)
  have own : P_LNumbers v [2] = true → P_choosesAlone tb a.int = P_LOwn tb a.int 3 ∧ a.isI = true ∧ Ok_choosesAlone tb a.int ∧ Ok_LOwn tb a.int 3 := fun z => by
    have z := (e1 2).mp z
    exact ⟨by rw [Bool.eq_iff_iff, choose_iff hl, own_iff hl], z.1, choose_ok hl z.2, own_ok hl z.2 3⟩
  refine ⟨?_, ?_, ?_⟩
  · unfold P_judgeChoice P_LIsChoice
    rw [e3, hlen, c1, ix0, ix1, g1, g1]
    cases z : P_LNumbers v [2]
    · simp [h, ht]
    · rw [(own z).1]; simp [h, ht]
  · unfold Ok_judgeChoice
    rw [hlen, c1, ix0, ix1, g1, g1]
    simp [h, i0, i1, o1]
    intro _ _ z
    exact ⟨(own z).2.1, (own z).2.2.1⟩
  · unfold Ok_LIsChoice
    rw [e3, ix0, ix1]
    simp [h, ht, i0, i1, k1, k2, k3]
    intro _ _ z
    exact ⟨(own z).2.1, (own z).2.2.2⟩
theorem jc_5 (h : v.isTup = true) {w a b c d : AV} (hx : v.items = [w, a, b, c, d]) : P_judgeChoice tb v = P_LIsChoice tb v ∧ Ok_judgeChoice tb v ∧ Ok_LIsChoice tb v := by
  have ht : v.tru = true := by rw [AV.tru_tup h, hx]; rfl
  have k1 := lnum_ok (sizes := [2]) h (by decide)
  have k2 := lnum_ok (sizes := [3]) h (by decide)
  have k3 := lnum_ok (sizes := [2, 6, 6, 6]) h (by decide)
  have e1 : P_LNumbers v [2] = false := by rw [Bool.eq_false_iff]; intro z; have := ((lnum_iff hx).mp z).1; simp at this
  have e3 : P_LNumbers v [3] = false := by rw [Bool.eq_false_iff]; intro z; have := ((lnum_iff hx).mp z).1; simp at this
  have e2 : P_LNumbers v [2, 6, 6, 6] = true ↔ nb 2 a ∧ nb 6 b ∧ nb 6 c ∧ nb 6 d := by
    rw [lnum_iff hx]
    constructor
    · intro z; exact ⟨z.2 0 (by decide), z.2 1 (by decide), z.2 2 (by decide), z.2 3 (by decide)⟩
    · rintro ⟨z0, z1, z2, z3⟩; refine ⟨rfl, fun i hi => ?_⟩
      have : i = 0 ∨ i = 1 ∨ i = 2 ∨ i = 3 := by simp at hi; omega
      rcases this with rfl | rfl | rfl | rfl <;> assumption
  have c0 : cutZ v.items (some 1) none = [a, b, c, d] := by rw [hx]; rfl
  have c1 : cutZ v.items (some 1) (some 2) = [a] := by rw [hx]; rfl
  have c2 : cutZ v.items (some 2) none = [b, c, d] := by rw [hx]; rfl
  have f1 : P_areNumbers [a] 2 = true ↔ nb 2 a := by rw [numb_iff]; simp
  have f2 : P_areNumbers [b, c, d] 6 = true ↔ nb 6 b ∧ nb 6 c ∧ nb 6 d := by rw [numb_iff]; simp
  have g1 : P_LNumbers v [2, 6, 6, 6] = (P_areNumbers [a] 2 && P_areNumbers [b, c, d] 6) := by rw [Bool.eq_iff_iff, Bool.and_eq_true, e2, f1, f2]
  have ix0 : ixZ v.items 0 = w := by rw [hx]; rfl
  have ix1 : ixZ v.items 1 = a := by rw [hx]; rfl
  have ix2 : ixZ v.items 2 = b := by rw [hx]; rfl
  have ix3 : ixZ v.items 3 = c := by rw [hx]; rfl
  have ix4 : ixZ v.items 4 = d := by rw [hx]; rfl
  have hlen : (v.items.length : Int) = 5 := by rw [hx]; rfl
  have i0 : InR v.items 0 := by rw [hx]; exact inr0
  have i1 : InR v.items 1 ∧ InR v.items 2 ∧ InR v.items 3 ∧ InR v.items 4 := by rw [hx]; simp [InR]
  have o1 : Ok_areNumbers [a] 2 := numb_ok (by simp)
  have o2 : Ok_areNumbers [b, c, d] 6 := numb_ok (by simp)
  have o3 : ∀ n, Ok_areNumbers [a, b, c, d] n := fun n => numb_ok (by simp)
  have v1 : P_LIsChoice_v1 v = a := by unfold P_LIsChoice_v1; rw [c0]; rfl
  have v2 : P_LIsChoice_v2 v = b := by unfold P_LIsChoice_v2; rw [c0]; rfl
  have v3 : P_LIsChoice_v3 v = c := by unfold P_LIsChoice_v3; rw [c0]; rfl
  have v4 : P_LIsChoice_v4 v = d := by unfold P_LIsChoice_v4; rw [c0]; rfl
  have v5 : P_LIsChoice_v5 tb v = ixZ tb (6 * b.int + c.int) := by unfold P_LIsChoice_v5; rw [v2, v3]
  have all : P_areNumbers [a] 2 = true → P_areNumbers [b, c, d] 6 = true → (a.isI = true ∧ b.isI = true ∧ c.isI = true ∧ d.isI = true) ∧ Bd 2 a.int ∧ Bd 6 b.int ∧ Bd 6 c.int ∧ Bd 6 d.int := fun z1 z2 => by
    obtain ⟨a1, a2⟩ := f1.mp z1
    obtain ⟨⟨b1, b2⟩, ⟨c1, c2⟩, d1, d2⟩ := f2.mp z2
    exact ⟨⟨a1, b1, c1, d1⟩, a2, b2, c2, d2⟩
  have v6 : P_areNumbers [a] 2 = true → P_LIsChoice_v6 tb v = P_doesGain_v1 tb a.int b.int c.int d.int := fun z => by
    unfold P_LIsChoice_v6 P_doesGain_v1
    rw [v1, v2, v3, v4]
    have : deq (eA a) (eI 0) = decide (a.int = 0) := by
      show deq a.1 _ = _
      rw [AV.i_eq (f1.mp z).1, deq_int]; rfl
    rw [this]
  have at1 : Bd 2 a.int → (ixZ [b, c] a.int).int = ixZ [b.int, c.int] a.int ∧ (ixZ [b, c] a.int = b ∨ ixZ [b, c] a.int = c) := fun z => by
    rcases bd2 z with e | e <;> rw [e]
    · exact ⟨rfl, .inl rfl⟩
    · exact ⟨rfl, .inr rfl⟩
  refine ⟨?_, ?_, ?_⟩
  · unfold P_judgeChoice P_LIsChoice
    rw [e1, e3, hlen, c0, c1, c2, ix0, ix1, ix2, ix3, ix4, v1, v2, v3, v5, g1]
    cases z1 : P_areNumbers [a] 2
    · simp [h, ht]
    · cases z2 : P_areNumbers [b, c, d] 6
      · simp [h, ht]
      · rw [v6 z1, (at1 (all z1 z2).2.1).1]
        unfold P_doesGain
        simp only [lahead_eq]
        cases w.isStr <;> cases deq (eA w) (eS sx_one_chooses_3) <;> cases deq (eA w) (eS sx_never) <;> cases deq (eA w) (eS sx_gains) <;> simp [h, ht]
  · unfold Ok_judgeChoice
    rw [hlen, c0, c1, c2, ix0, ix1, ix2, ix3, ix4]
    simp [h, i0, i1, o1, o2, o3]
    intro _ _ _ _ z1 z2
    obtain ⟨⟨a1, a2, a3, a4⟩, b1, b2, b3, b4⟩ := all z1 z2
    exact ⟨a1, a2, a3, a4, gain_ok hl hb b1 b2 b3 b4⟩
  · unfold Ok_LIsChoice
    rw [e1, e3, ix0, v1, v2, v3, v4, v5, g1, c0]
    simp [h, ht, i0, i1, k1, k2, k3]
    intro _ _ _ _ z1 z2
    obtain ⟨⟨a1, a2, a3, a4⟩, b1, b2, b3, b4⟩ := all z1 z2
    rw [v6 z1]
    refine ⟨a2, a3, tb_in hl b2 b3, fun _ => ⟨a4, a3, tb_in hl b4 b3⟩, fun _ => ⟨a2, a4, tb_in hl b2 b4⟩, fun _ => ⟨a1, ?_, ?_, ?_⟩⟩
    · rcases bd2 b1 with e | e <;> rw [e] <;> (unfold InR; simp)
    · rcases (at1 b1).2 with e | e <;> rw [e] <;> assumption
    · rw [(at1 b1).1]
      exact lahead_ok (own_bd hl b1 b2 b3) (gain_bd hl hb b2 b3 b4) (tb_at hl hb b2 b3)
theorem jc : P_judgeChoice tb v = P_LIsChoice tb v ∧ Ok_judgeChoice tb v ∧ Ok_LIsChoice tb v := by
  cases h : v.isTup
  · exact jc_no hl hb h
  · rcases len_cases v with ⟨w, a, hx⟩ | ⟨w, a, b, c, d, hx⟩ | ⟨w, a, b, c, d, e, f, hx⟩ | hn
    · exact jc_2 hl hb h hx
    · exact jc_5 hl hb h hx
    · exact jc_other hl hb h (by rw [hx]; simp)
    · exact jc_other hl hb h ⟨hn.1, hn.2.1⟩
end
end K43

set_option maxHeartbeats 1000000
/-! K43h: the papers. -/
namespace K43
open PySem PySem.Spec PyProof.Rows L2 DV
theorem forP_bif {α R : Type} (c : α → Bool) (r : α → R) (xs : List α) : (forP (fun (_ : Unit) x => bif c x then Lo.rt (r x) else .nx ()) () xs = .nx () ∧ ∀ x ∈ xs, c x = false) ∨ ∃ x ∈ xs, c x = true ∧ forP (fun (_ : Unit) x => bif c x then Lo.rt (r x) else .nx ()) () xs = .rt (r x) := by
  rcases forP_first (s := fun (_ : Unit) x => bif c x then Lo.rt (r x) else .nx ()) xs fun x _ => by
      cases h : c x
      · exact .inl (by simp [h])
      · exact .inr ⟨r x, by simp [h]⟩ with ⟨h1, h2⟩ | ⟨x, hx, v, h1, h2⟩
  · refine .inl ⟨h1, fun x hx => ?_⟩
    have := h2 x hx
    cases h : c x
    · rfl
    · simp [h] at this
  · refine .inr ⟨x, hx, ?_⟩
    cases h : c x
    · simp [h] at h1
    · simp only [h, cond_true, Lo.rt.injEq] at h1
      exact ⟨rfl, by rw [h2, h1]⟩
theorem mem_pairs {x : Int × Int} : x ∈ k_PAIRS ↔ Bd 3 x.1 ∧ Bd 3 x.2 ∧ x.1 ≠ x.2 := by
  obtain ⟨a, b⟩ := x
  constructor
  · intro h
    simp only [k_PAIRS, List.mem_cons, Prod.mk.injEq, List.not_mem_nil, or_false] at h
    rcases h with ⟨rfl, rfl⟩ | ⟨rfl, rfl⟩ | ⟨rfl, rfl⟩ | ⟨rfl, rfl⟩ | ⟨rfl, rfl⟩ | ⟨rfl, rfl⟩ <;> decide
  · rintro ⟨h1, h2, h3⟩
    rcases bd3 h1 with e | e | e <;> rcases bd3 h2 with f | f | f <;> simp only at e f h3 <;> subst e <;> subst f <;> first | (exact absurd rfl h3) | decide
theorem mem_nums {x : Int × Int} : x ∈ P_arrowPaper_v4 ↔ Bd 6 x.1 ∧ Bd 6 x.2 := by
  obtain ⟨a, b⟩ := x
  unfold P_arrowPaper_v4
  simp only [List.mem_flatMap, List.mem_filter, and_true, List.mem_map, Prod.mk.injEq]
  constructor
  · rintro ⟨p, hp, q, hq, rfl, rfl⟩; exact ⟨bdr hp, bdr hq⟩
  · rintro ⟨h1, h2⟩; exact ⟨a, mem_rngZ.mpr h1, b, mem_rngZ.mpr h2, rfl, rfl⟩
/-- a word and small ints -/
def pap (w : Sx) (is : List Int) : AV := mkA (.tup (eS w :: is.map eI))
theorem pap_sm {w : Sx} {is : List Int} (h : ∀ i ∈ is, Bd 6 i) (hl : is.length < 10) : Sm 1000 1 (.tup (eS w :: is.map eI)) := sm_word (fun i hi => by have := h i hi; unfold Bd at this; omega) (by omega)
theorem pap_av {w : Sx} {is : List Int} (h : ∀ i ∈ is, Bd 6 i) (hl : is.length < 10) : D.av 9 (.tup (eS w :: is.map eI)) = true := sm_av (pap_sm h hl) (by decide)
theorem pap_1 {w : Sx} {is : List Int} (h : ∀ i ∈ is, Bd 6 i) (hl : is.length < 10) : (pap w is).1 = .tup (eS w :: is.map eI) := mkA_1 (pap_av h hl)
theorem pap_sm8 {w : Sx} {is : List Int} (h : ∀ i ∈ is, Bd 6 i) (hl : is.length < 10) : Sm 1000 8 (pap w is).1 := by rw [pap_1 h hl]; exact (pap_sm h hl).up (by decide)
theorem pap_items {w : Sx} {is : List Int} (h : ∀ i ∈ is, Bd 6 i) (hl : is.length < 10) : (pap w is).items = mkA (eS w) :: is.map fun i => mkA (.int i) := by
  rw [items_mk (pap_1 h hl)]; simp
theorem bd26 {x : Int} (h : Bd 2 x) : Bd 6 x := by unfold Bd at *; omega
theorem bd36 {x : Int} (h : Bd 3 x) : Bd 6 x := by unfold Bd at *; omega
theorem nb_of {n i : Int} (hn : n < 1000) (h : Bd n i) : nb n (mkA (.int i)) ∧ (mkA (.int i)).int = i ∧ (mkA (.int i)).isI = true := by
  have := nb_mk hn h
  unfold Bd at h
  exact ⟨this, (int_mk (i := i) (by omega)).2, this.1⟩
/-- the common order of two -/
def fN (tb : List Int) (p q : Nat) : Nat := (ixZ tb (6 * (p : Int) + (q : Int))).toNat
theorem bdN {n : Nat} {m : Int} (h : n < m.toNat) : Bd m (n : Int) := by unfold Bd; omega
section
variable {tb : List Int} (hl : tb.length = 36) (hb : ∀ x ∈ tb, Bd 6 x)
include hl hb
theorem arrow_all (h1 : ∀ p, Bd 6 p → ∀ q, Bd 6 q → ∀ x, Bd 3 x → ∀ y, Bd 3 y → x ≠ y → P_isAgainst tb p q x y = false)
    (h2 : ∀ p, Bd 6 p → ∀ q, Bd 6 q → ∀ r, Bd 6 r → ∀ s, Bd 6 s → ∀ x, Bd 3 x → ∀ y, Bd 3 y → x ≠ y → P_hangsOnOthers tb p q r s x y = false) : Rul 6 tb 0 ∨ Rul 6 tb 1 := by
  have fb : ∀ p : Nat, p < 6 → ∀ q : Nat, q < 6 → Bd 6 (ixZ tb (6 * (p : Int) + (q : Int))) := fun p hp q hq => tb_at hl hb (bdN hp) (bdN hq)
  have ah : ∀ p : Nat, p < 6 → ∀ x : Nat, x < 3 → ∀ y : Nat, y < 3 → P_isAhead (p : Int) (x : Int) (y : Int) = ahN p x y := fun p hp x hx y hy => ahead_N (bdN hp) (bdN hx) (bdN hy)
  have ahf : ∀ p : Nat, p < 6 → ∀ q : Nat, q < 6 → ∀ x : Nat, x < 3 → ∀ y : Nat, y < 3 → P_isAhead (ixZ tb (6 * (p : Int) + (q : Int))) (x : Int) (y : Int) = ahN (fN tb p q) x y := fun p hp q hq x hx y hy => ahead_N (fb p hp q hq) (bdN hx) (bdN hy)
  have key := arrow (fN tb) (fun p hp q hq => by have := fb p hp q hq; unfold Bd at this; unfold fN; omega)
    (fun p hp q hq x hx y hy hxy a b => by
      have := h1 p (bdN hp) q (bdN hq) x (bdN hx) y (bdN hy) (by omega)
      unfold P_isAgainst at this
      rw [ah p hp x hx y hy, ah q hq x hx y hy, ahf p hp q hq x hx y hy, a, b] at this
      simpa using this)
    (fun p hp q hq r hr s hs x hx y hy hxy a b => by
      have := h2 p (bdN hp) q (bdN hq) r (bdN hr) s (bdN hs) x (bdN hx) y (bdN hy) (by omega)
      unfold P_hangsOnOthers at this
      rw [ah p hp x hx y hy, ah q hq x hx y hy, ah r hr x hx y hy, ah s hs x hx y hy, ahf p hp q hq x hx y hy, ahf r hr s hs x hx y hy, a, b] at this
      simpa using this)
  have back : ∀ p, Bd 6 p → ∀ q, Bd 6 q → ixZ tb (6 * p + q) = ((fN tb p.toNat q.toNat : Nat) : Int) := fun p hp q hq => by
    have := tb_at hl hb hp hq
    unfold Bd at *
    unfold fN
    rw [show ((p.toNat : Nat) : Int) = p by omega, show ((q.toNat : Nat) : Int) = q by omega]
    omega
  rcases key with k | k
  · refine .inl fun p hp q hq => ?_
    rw [back p hp q hq, k p.toNat (by unfold Bd at hp; omega) q.toNat (by unfold Bd at hq; omega)]
    show ((p.toNat : Nat) : Int) = p
    unfold Bd at hp; omega
  · refine .inr fun p hp q hq => ?_
    rw [back p hp q hq, k p.toNat (by unfold Bd at hp; omega) q.toNat (by unfold Bd at hq; omega)]
    show ((q.toNat : Nat) : Int) = q
    unfold Bd at hq; omega
theorem arrow_spec : Ok_arrowPaper tb ∧ ((∃ v, Bd 2 v ∧ Rul 6 tb v ∧ P_arrowPaper tb = pap sx_one_rules_0 [v]) ∨ (¬ ∃ v, Bd 2 v ∧ Rul 6 tb v) ∧
    ((∃ p q x y, Bd 6 p ∧ Bd 6 q ∧ Bd 3 x ∧ Bd 3 y ∧ x ≠ y ∧ P_isAgainst tb p q x y = true ∧ P_arrowPaper tb = pap sx_against_both_1 [p, q, x, y]) ∨
      ∃ p q r s x y, Bd 6 p ∧ Bd 6 q ∧ Bd 6 r ∧ Bd 6 s ∧ Bd 3 x ∧ Bd 3 y ∧ x ≠ y ∧ P_hangsOnOthers tb p q r s x y = true ∧ P_arrowPaper tb = pap sx_not_alone_2 [p, q, r, s, x, y])) := by
  have o1 : okFor (fun (_ : Unit) (x3 : Int) => Ok_arrowPaper_2 tb x3) (fun (_ : Unit) (x3 : Int) => (P_arrowPaper_s1 tb x3 : Lo Unit AV)) () (rngZ 0 2) :=
    okFor_all _ _ fun _ v hv => ⟨alone_ok hl (bdr hv), fun _ => pap_av (is := [v]) (by simp [bd26 (bdr hv)]) (by simp)⟩
  have o2 : okFor (fun (_ : Unit) (x18 : Int × Int) => Ok_arrowPaper_9 tb x18) (fun (_ : Unit) (x18 : Int × Int) => (P_arrowPaper_s8 tb x18 : Lo Unit AV)) () P_arrowPaper_v4 :=
    okFor_all _ _ fun _ x hx => okFor_all _ _ fun _ y hy => by
      obtain ⟨a1, a2⟩ := mem_nums.mp hx
      obtain ⟨b1, b2, b3⟩ := mem_pairs.mp hy
      exact ⟨against_ok hl hb a1 a2 b1 b2, fun _ => pap_av (is := [x.1, x.2, y.1, y.2]) (by simp [a1, a2, bd36 b1, bd36 b2]) (by simp)⟩
  have o3 : okFor (fun (_ : Unit) (x34 : Int × Int) => Ok_arrowPaper_18 tb x34) (fun (_ : Unit) (x34 : Int × Int) => (P_arrowPaper_s17 tb x34 : Lo Unit AV)) () P_arrowPaper_v4 :=
    okFor_all _ _ fun _ x hx => okFor_all _ _ fun _ z hz => okFor_all _ _ fun _ y hy => by
      obtain ⟨a1, a2⟩ := mem_nums.mp hx
      obtain ⟨c1, c2⟩ := mem_nums.mp hz
      obtain ⟨b1, b2, b3⟩ := mem_pairs.mp hy
      exact ⟨hangs_ok hl hb a1 a2 c1 c2 b1 b2, fun _ => pap_av (is := [x.1, x.2, z.1, z.2, y.1, y.2]) (by simp [a1, a2, c1, c2, bd36 b1, bd36 b2]) (by simp)⟩
  refine ⟨⟨o1, fun _ _ => ⟨by rw [List.length_flatMap]; simp [show (rngZ 0 6) = [0, 1, 2, 3, 4, 5] by decide]; decide, o2, fun _ _ => ⟨o3, fun _ _ => rfl⟩⟩⟩, ?_⟩
  rcases forP_bif (fun x3 => P_rulesAlone tb x3) (fun x3 => (mkA (eP2 eS eI (sx_one_rules_0, x3)) : AV)) (rngZ 0 2) with ⟨e1, n1⟩ | ⟨v, hv, c1, e1⟩
  · have e1 : P_arrowPaper_l3 tb = .nx () := e1
    have no : ¬ ∃ v, Bd 2 v ∧ Rul 6 tb v := fun ⟨v, hv, hr⟩ => by
      have := n1 v (mem_rngZ.mpr hv)
      rw [(alone_iff hl v).mpr hr] at this; cases this
    refine .inr ⟨no, ?_⟩
    have s8 : ∀ x ∈ P_arrowPaper_v4, (P_arrowPaper_s8 tb x = .nx () ∧ ∀ y ∈ k_PAIRS, P_isAgainst tb x.1 x.2 y.1 y.2 = false) ∨ ∃ y ∈ k_PAIRS, P_isAgainst tb x.1 x.2 y.1 y.2 = true ∧ P_arrowPaper_s8 tb x = .rt (pap sx_against_both_1 [x.1, x.2, y.1, y.2]) := fun x _ => by
      rcases forP_bif (fun y : Int × Int => P_isAgainst tb x.1 x.2 y.1 y.2) (fun y => (Lo.rt (pap sx_against_both_1 [x.1, x.2, y.1, y.2]) : Lo Unit AV)) k_PAIRS with ⟨e, n⟩ | ⟨y, hy, c, e⟩
      · refine .inl ⟨?_, n⟩
        have e : P_arrowPaper_l7 tb x = .nx () := e
        unfold P_arrowPaper_s8; rw [e]; rfl
      · refine .inr ⟨y, hy, c, ?_⟩
        have e : P_arrowPaper_l7 tb x = .rt (.rt (pap sx_against_both_1 [x.1, x.2, y.1, y.2])) := e
        unfold P_arrowPaper_s8; rw [e]; rfl
    rcases forP_first (s := fun (_ : Unit) x => (P_arrowPaper_s8 tb x : Lo Unit AV)) P_arrowPaper_v4 fun x hx => by
        rcases s8 x hx with ⟨h, _⟩ | ⟨y, _, _, h⟩
        · exact .inl h
        · exact .inr ⟨_, h⟩ with ⟨e2, n2⟩ | ⟨x, hx, r, e2, e3⟩
    · have e2 : P_arrowPaper_l10 tb = .nx () := e2
      have na : ∀ p, Bd 6 p → ∀ q, Bd 6 q → ∀ x, Bd 3 x → ∀ y, Bd 3 y → x ≠ y → P_isAgainst tb p q x y = false := fun p hp q hq x hx y hy hxy => by
        rcases s8 (p, q) (mem_nums.mpr ⟨hp, hq⟩) with ⟨_, h⟩ | ⟨y, _, _, h⟩
        · exact h (x, y) (mem_pairs.mpr ⟨hx, hy, hxy⟩)
        · have := n2 (p, q) (mem_nums.mpr ⟨hp, hq⟩)
          rw [h] at this; cases this
      refine .inr ?_
      have s14 : ∀ x ∈ P_arrowPaper_v4, ∀ z ∈ P_arrowPaper_v4, (P_arrowPaper_s14 tb x z = .nx () ∧ ∀ y ∈ k_PAIRS, P_hangsOnOthers tb x.1 x.2 z.1 z.2 y.1 y.2 = false) ∨ ∃ y ∈ k_PAIRS, P_hangsOnOthers tb x.1 x.2 z.1 z.2 y.1 y.2 = true ∧ P_arrowPaper_s14 tb x z = .rt (.rt (pap sx_not_alone_2 [x.1, x.2, z.1, z.2, y.1, y.2])) := fun x _ z _ => by
        rcases forP_bif (fun y : Int × Int => P_hangsOnOthers tb x.1 x.2 z.1 z.2 y.1 y.2) (fun y => (Lo.rt (Lo.rt (pap sx_not_alone_2 [x.1, x.2, z.1, z.2, y.1, y.2])) : Lo Unit (Lo Unit AV))) k_PAIRS with ⟨e, n⟩ | ⟨y, hy, c, e⟩
        · refine .inl ⟨?_, n⟩
          have e : P_arrowPaper_l13 tb x z = .nx () := e
          unfold P_arrowPaper_s14; rw [e]; rfl
        · refine .inr ⟨y, hy, c, ?_⟩
          have e : P_arrowPaper_l13 tb x z = .rt (.rt (.rt (pap sx_not_alone_2 [x.1, x.2, z.1, z.2, y.1, y.2]))) := e
          unfold P_arrowPaper_s14; rw [e]; rfl
      have s17 : ∀ x ∈ P_arrowPaper_v4, (P_arrowPaper_s17 tb x = .nx () ∧ ∀ z ∈ P_arrowPaper_v4, ∀ y ∈ k_PAIRS, P_hangsOnOthers tb x.1 x.2 z.1 z.2 y.1 y.2 = false) ∨ ∃ z ∈ P_arrowPaper_v4, ∃ y ∈ k_PAIRS, P_hangsOnOthers tb x.1 x.2 z.1 z.2 y.1 y.2 = true ∧ P_arrowPaper_s17 tb x = .rt (pap sx_not_alone_2 [x.1, x.2, z.1, z.2, y.1, y.2]) := fun x hx => by
        rcases forP_first (s := fun (_ : Unit) z => (P_arrowPaper_s14 tb x z : Lo Unit (Lo Unit AV))) P_arrowPaper_v4 fun z hz => by
            rcases s14 x hx z hz with ⟨h, _⟩ | ⟨y, _, _, h⟩
            · exact .inl h
            · exact .inr ⟨_, h⟩ with ⟨e3, n3⟩ | ⟨z, hz, r, e3, e4⟩
        · refine .inl ⟨?_, fun z hz y hy => ?_⟩
          · have e3 : P_arrowPaper_l16 tb x = .nx () := e3
            unfold P_arrowPaper_s17; rw [e3]; rfl
          · rcases s14 x hx z hz with ⟨_, h⟩ | ⟨y', _, _, h⟩
            · exact h y hy
            · have := n3 z hz
              rw [h] at this; cases this
        · rcases s14 x hx z hz with ⟨h, _⟩ | ⟨y, hy, c, h⟩
          · skip
            rw [h] at e3; cases e3
          · refine .inr ⟨z, hz, y, hy, c, ?_⟩
            rw [h] at e3; cases e3
            have e4 : P_arrowPaper_l16 tb x = .rt (.rt (pap sx_not_alone_2 [x.1, x.2, z.1, z.2, y.1, y.2])) := e4
            unfold P_arrowPaper_s17; rw [e4]; rfl
      rcases forP_first (s := fun (_ : Unit) x => (P_arrowPaper_s17 tb x : Lo Unit AV)) P_arrowPaper_v4 fun x hx => by
          rcases s17 x hx with ⟨h, _⟩ | ⟨z, _, y, _, _, h⟩
          · exact .inl h
          · exact .inr ⟨_, h⟩ with ⟨e3, n3⟩ | ⟨x, hx, r, e3, e4⟩
      · exfalso
        have nh : ∀ p, Bd 6 p → ∀ q, Bd 6 q → ∀ r, Bd 6 r → ∀ s, Bd 6 s → ∀ x, Bd 3 x → ∀ y, Bd 3 y → x ≠ y → P_hangsOnOthers tb p q r s x y = false := fun p hp q hq r hr s hs x hx y hy hxy => by
          rcases s17 (p, q) (mem_nums.mpr ⟨hp, hq⟩) with ⟨_, h⟩ | ⟨z, _, y, _, _, h⟩
          · exact h (r, s) (mem_nums.mpr ⟨hr, hs⟩) (x, y) (mem_pairs.mpr ⟨hx, hy, hxy⟩)
          · have := n3 (p, q) (mem_nums.mpr ⟨hp, hq⟩)
            rw [h] at this; cases this
        rcases arrow_all hl hb na nh with h | h
        · exact no ⟨0, by decide, h⟩
        · exact no ⟨1, by decide, h⟩
      · rcases s17 x hx with ⟨h, _⟩ | ⟨z, hz, y, hy, c, h⟩
        · skip
          rw [h] at e3; cases e3
        · skip
          rw [h] at e3; cases e3
          obtain ⟨a1, a2⟩ := mem_nums.mp hx
          obtain ⟨c1, c2⟩ := mem_nums.mp hz
          obtain ⟨b1, b2, b3⟩ := mem_pairs.mp hy
          refine ⟨x.1, x.2, z.1, z.2, y.1, y.2, a1, a2, c1, c2, b1, b2, b3, c, ?_⟩
          have e4 : P_arrowPaper_l19 tb = .rt (pap sx_not_alone_2 [x.1, x.2, z.1, z.2, y.1, y.2]) := e4
          unfold P_arrowPaper P_arrowPaper_k21 P_arrowPaper_k20
          rw [e1, e2, e4]; rfl
    · rcases s8 x hx with ⟨h, _⟩ | ⟨y, hy, c, h⟩
      · skip
        rw [h] at e2; cases e2
      · skip
        rw [h] at e2; cases e2
        obtain ⟨a1, a2⟩ := mem_nums.mp hx
        obtain ⟨b1, b2, b3⟩ := mem_pairs.mp hy
        refine .inl ⟨x.1, x.2, y.1, y.2, a1, a2, b1, b2, b3, c, ?_⟩
        have e3 : P_arrowPaper_l10 tb = .rt (pap sx_against_both_1 [x.1, x.2, y.1, y.2]) := e3
        unfold P_arrowPaper P_arrowPaper_k21
        rw [e1, e3]; rfl
  · have e1 : P_arrowPaper_l3 tb = .rt (pap sx_one_rules_0 [v]) := e1
    exact .inl ⟨v, bdr hv, (alone_iff hl v).mp c1, by unfold P_arrowPaper; rw [e1]; rfl⟩
theorem paper_1 : P_judgeArrow tb (P_arrowPaper tb) = true ∧ (P_arrowPaper tb).isTup = true ∧ InR (P_arrowPaper tb).items 0 ∧ Sm 1000 8 (P_arrowPaper tb).1 ∧ (deq (eA (ixZ (P_arrowPaper tb).items 0)) (eS sx_one_rules_0) = true ↔ ∃ v, Bd 2 v ∧ Rul 6 tb v) := by
  rcases (arrow_spec hl hb).2 with ⟨v, hv, hr, e⟩ | ⟨no, ⟨p, q, x, y, hp, hq, hx, hy, hxy, c, e⟩ | ⟨p, q, r, s, x, y, hp, hq, hr, hs, hx, hy, hxy, c, e⟩⟩
  · have hall : ∀ i ∈ [v], Bd 6 i := by simp [bd26 hv]
    have hi := pap_items (w := sx_one_rules_0) hall (by simp)
    have ht : (pap sx_one_rules_0 [v]).isTup = true := AV.isTup_of (pap_1 hall (by simp))
    rw [e]
    refine ⟨?_, ht, by rw [hi]; exact inr0, pap_sm8 hall (by simp), ?_⟩
    · obtain ⟨n1, n2, n3⟩ := nb_of (by decide) hv
      have a1 : P_areNumbers [mkA (.int v)] 2 = true := numb_iff.mpr (by simpa using n1)
      have a2 := (alone_iff hl v).mpr hr
      unfold P_judgeArrow
      rw [hi]
      have s1 : cutZ (mkA (eS sx_one_rules_0) :: [v].map fun i => mkA (.int i)) (some 1) none = [mkA (.int v)] := rfl
      have s2 : ixZ (mkA (eS sx_one_rules_0) :: [v].map fun i => mkA (.int i)) 1 = mkA (.int v) := rfl
      have s3 : ixZ (mkA (eS sx_one_rules_0) :: [v].map fun i => mkA (.int i)) 0 = mkA (eS sx_one_rules_0) := rfl
      rw [s1, s2, s3, n2, a1, a2, ht, deq_w, str_mk]
      simp
    · rw [hi]
      have s3 : ixZ (mkA (eS sx_one_rules_0) :: [v].map fun i => mkA (.int i)) 0 = mkA (eS sx_one_rules_0) := rfl
      rw [s3, deq_w]
      simp only [decide_true, true_iff]
      exact ⟨v, hv, hr⟩
  · have hall : ∀ i ∈ [p, q, x, y], Bd 6 i := by simp [hp, hq, bd36 hx, bd36 hy]
    have hi := pap_items (w := sx_against_both_1) hall (by simp)
    have ht : (pap sx_against_both_1 [p, q, x, y]).isTup = true := AV.isTup_of (pap_1 hall (by simp))
    have w1 : decide (sx_against_both_1 = sx_one_rules_0) = false := by decide +kernel
    rw [e]
    refine ⟨?_, ht, by rw [hi]; exact inr0, pap_sm8 hall (by simp), ?_⟩
    · obtain ⟨p1, p2, p3⟩ := nb_of (by decide) hp
      obtain ⟨q1, q2, q3⟩ := nb_of (by decide) hq
      obtain ⟨x1, x2, x3⟩ := nb_of (by decide) hx
      obtain ⟨y1, y2, y3⟩ := nb_of (by decide) hy
      have a1 : P_areNumbers [mkA (.int p), mkA (.int q)] 6 = true := numb_iff.mpr (by simp [p1, q1])
      have a2 : P_areNumbers [mkA (.int x), mkA (.int y)] 3 = true := numb_iff.mpr (by simp [x1, y1])
      have a3 : deq (eA (mkA (.int y))) (eA (mkA (.int x))) = false := by rw [deq_i y3 x3, x2, y2]; simp; omega
      unfold P_judgeArrow
      rw [hi]
      have s1 : cutZ (mkA (eS sx_against_both_1) :: [p, q, x, y].map fun i => mkA (.int i)) (some 1) (some (-2)) = [mkA (.int p), mkA (.int q)] := rfl
      have s2 : cutZ (mkA (eS sx_against_both_1) :: [p, q, x, y].map fun i => mkA (.int i)) (some (-2)) none = [mkA (.int x), mkA (.int y)] := rfl
      have s3 : ixZ (mkA (eS sx_against_both_1) :: [p, q, x, y].map fun i => mkA (.int i)) 0 = mkA (eS sx_against_both_1) := rfl
      have s4 : ixZ (mkA (eS sx_against_both_1) :: [p, q, x, y].map fun i => mkA (.int i)) 1 = mkA (.int p) := rfl
      have s5 : ixZ (mkA (eS sx_against_both_1) :: [p, q, x, y].map fun i => mkA (.int i)) 2 = mkA (.int q) := rfl
      have s6 : ixZ (mkA (eS sx_against_both_1) :: [p, q, x, y].map fun i => mkA (.int i)) 3 = mkA (.int x) := rfl
      have s7 : ixZ (mkA (eS sx_against_both_1) :: [p, q, x, y].map fun i => mkA (.int i)) 4 = mkA (.int y) := rfl
      have s8 : ixZ (mkA (eS sx_against_both_1) :: [p, q, x, y].map fun i => mkA (.int i)) (-1) = mkA (.int y) := rfl
      have s9 : ixZ (mkA (eS sx_against_both_1) :: [p, q, x, y].map fun i => mkA (.int i)) (-2) = mkA (.int x) := rfl
      rw [s1, s2, s3, s4, s5, s6, s7, s8, s9, p2, q2, x2, y2, a1, a2, a3, ht, deq_w, deq_w, str_mk, c, w1]
      simp
    · rw [hi]
      have s3 : ixZ (mkA (eS sx_against_both_1) :: [p, q, x, y].map fun i => mkA (.int i)) 0 = mkA (eS sx_against_both_1) := rfl
      rw [s3, deq_w, w1]
      simp only [Bool.false_eq_true, false_iff]
      exact no
  · have hall : ∀ i ∈ [p, q, r, s, x, y], Bd 6 i := by simp [hp, hq, hr, hs, bd36 hx, bd36 hy]
    have hi := pap_items (w := sx_not_alone_2) hall (by simp)
    have ht : (pap sx_not_alone_2 [p, q, r, s, x, y]).isTup = true := AV.isTup_of (pap_1 hall (by simp))
    have w1 : decide (sx_not_alone_2 = sx_one_rules_0) = false := by decide +kernel
    have w2 : decide (sx_not_alone_2 = sx_against_both_1) = false := by decide +kernel
    rw [e]
    refine ⟨?_, ht, by rw [hi]; exact inr0, pap_sm8 hall (by simp), ?_⟩
    · obtain ⟨p1, p2, p3⟩ := nb_of (by decide) hp
      obtain ⟨q1, q2, q3⟩ := nb_of (by decide) hq
      obtain ⟨r1, r2, r3⟩ := nb_of (by decide) hr
      obtain ⟨t1, t2, t3⟩ := nb_of (by decide) hs
      obtain ⟨x1, x2, x3⟩ := nb_of (by decide) hx
      obtain ⟨y1, y2, y3⟩ := nb_of (by decide) hy
      have a1 : P_areNumbers [mkA (.int p), mkA (.int q), mkA (.int r), mkA (.int s)] 6 = true := numb_iff.mpr (by simp [p1, q1, r1, t1])
      have a2 : P_areNumbers [mkA (.int x), mkA (.int y)] 3 = true := numb_iff.mpr (by simp [x1, y1])
      have a3 : deq (eA (mkA (.int y))) (eA (mkA (.int x))) = false := by rw [deq_i y3 x3, x2, y2]; simp; omega
      have g1 : P_judgeArrow_v1 (pap sx_not_alone_2 [p, q, r, s, x, y]) = mkA (.int p) := by unfold P_judgeArrow_v1; rw [hi]; rfl
      have g2 : P_judgeArrow_v2 (pap sx_not_alone_2 [p, q, r, s, x, y]) = mkA (.int q) := by unfold P_judgeArrow_v2; rw [hi]; rfl
      have g3 : P_judgeArrow_v3 (pap sx_not_alone_2 [p, q, r, s, x, y]) = mkA (.int r) := by unfold P_judgeArrow_v3; rw [hi]; rfl
      have g4 : P_judgeArrow_v4 (pap sx_not_alone_2 [p, q, r, s, x, y]) = mkA (.int s) := by unfold P_judgeArrow_v4; rw [hi]; rfl
      have g5 : P_judgeArrow_v5 (pap sx_not_alone_2 [p, q, r, s, x, y]) = mkA (.int x) := by unfold P_judgeArrow_v5; rw [hi]; rfl
      have g6 : P_judgeArrow_v6 (pap sx_not_alone_2 [p, q, r, s, x, y]) = mkA (.int y) := by unfold P_judgeArrow_v6; rw [hi]; rfl
      unfold P_judgeArrow
      rw [hi]
      have s1 : cutZ (mkA (eS sx_not_alone_2) :: [p, q, r, s, x, y].map fun i => mkA (.int i)) (some 1) (some (-2)) = [mkA (.int p), mkA (.int q), mkA (.int r), mkA (.int s)] := rfl
      have s2 : cutZ (mkA (eS sx_not_alone_2) :: [p, q, r, s, x, y].map fun i => mkA (.int i)) (some (-2)) none = [mkA (.int x), mkA (.int y)] := rfl
      have s3 : ixZ (mkA (eS sx_not_alone_2) :: [p, q, r, s, x, y].map fun i => mkA (.int i)) 0 = mkA (eS sx_not_alone_2) := rfl
      have s8 : ixZ (mkA (eS sx_not_alone_2) :: [p, q, r, s, x, y].map fun i => mkA (.int i)) (-1) = mkA (.int y) := rfl
      have s9 : ixZ (mkA (eS sx_not_alone_2) :: [p, q, r, s, x, y].map fun i => mkA (.int i)) (-2) = mkA (.int x) := rfl
      rw [s1, s2, s3, s8, s9, g1, g2, g3, g4, g5, g6, p2, q2, r2, t2, x2, y2, a1, a2, a3, ht, deq_w, deq_w, deq_w, str_mk, c, w1, w2]
      simp
    · rw [hi]
      have s3 : ixZ (mkA (eS sx_not_alone_2) :: [p, q, r, s, x, y].map fun i => mkA (.int i)) 0 = mkA (eS sx_not_alone_2) := rfl
      rw [s3, deq_w, w1]
      simp only [Bool.false_eq_true, false_iff]
      exact no
end
end K43

set_option maxHeartbeats 1000000
/-! K43i: the papers of choices. -/
namespace K43
open PySem PySem.Spec PyProof.Rows L2 DV
/-- a walk whose steps end or go on by what they find -/
theorem firstQ {α R : Type} {s : α → Lo Unit R} {xs : List α} {N : α → Prop} {Y : α → R → Prop} (h : ∀ x ∈ xs, (s x = .nx () ∧ N x) ∨ ∃ r, s x = .rt r ∧ Y x r) :
    (forP (fun (_ : Unit) x => s x) () xs = .nx () ∧ ∀ x ∈ xs, N x) ∨ ∃ x ∈ xs, ∃ r, forP (fun (_ : Unit) x => s x) () xs = .rt r ∧ Y x r := by
  rcases forP_first (s := fun (_ : Unit) x => s x) xs fun x hx => by
      rcases h x hx with ⟨e, _⟩ | ⟨r, e, _⟩
      · exact .inl e
      · exact .inr ⟨r, e⟩ with ⟨h1, h2⟩ | ⟨x, hx, r, h1, h2⟩
  · refine .inl ⟨h1, fun x hx => ?_⟩
    rcases h x hx with ⟨_, n⟩ | ⟨r, e, _⟩
    · exact n
    · have := h2 x hx
      rw [e] at this; cases this
  · refine .inr ⟨x, hx, r, h2, ?_⟩
    rcases h x hx with ⟨e, _⟩ | ⟨r', e, y⟩
    · rw [e] at h1; cases h1
    · rw [e] at h1; cases h1; exact y
theorem fin_nx {R : Type} {l : Lo Unit (Lo Unit R)} (h : l = .nx ()) : (l.fin fun _ => .nx ()) = (.nx () : Lo Unit R) := by rw [h]; rfl
theorem fin_rt {R : Type} {l : Lo Unit (Lo Unit R)} {r : Lo Unit R} (h : l = .rt r) : (l.fin fun _ => .nx ()) = r := by rw [h]; rfl
section
variable {tb : List Int} (hl : tb.length = 36) (hb : ∀ x ∈ tb, Bd 3 x)
include hl hb
theorem top_N {p : Int} (h : Bd 6 p) : ixZ (ixZ P_LOrders p) 0 = ((topN p.toNat : Nat) : Int) := by
  rcases bd6 h with rfl | rfl | rfl | rfl | rfl | rfl <;> decide +kernel
theorem choice_all (h1 : ∀ x, Bd 3 x → x ∈ tb) (h2 : ∀ v, Bd 2 v → ∀ p, Bd 6 p → ∀ q, Bd 6 q → ∀ r, Bd 6 r → P_doesGain tb v p q r = false) : Rul 3 tb 0 ∨ Rul 3 tb 1 := by
  have fb : ∀ p : Nat, p < 6 → ∀ q : Nat, q < 6 → Bd 3 (ixZ tb (6 * (p : Int) + (q : Int))) := fun p hp q hq => tb_at hl hb (bdN hp) (bdN hq)
  have val : ∀ p : Nat, p < 6 → ∀ q : Nat, q < 6 → ixZ tb (6 * (p : Int) + (q : Int)) = ((fN tb p q : Nat) : Int) := fun p hp q hq => by
    have := fb p hp q hq; unfold Bd at this; unfold fN; omega
  have key := gibbard (fN tb) (fun p hp q hq => by have := fb p hp q hq; unfold Bd at this; unfold fN; omega)
    (fun x hx => by
      obtain ⟨i, hi, e⟩ := List.getElem_of_mem (h1 x (bdN hx))
      refine ⟨i / 6, by omega, i % 6, by omega, ?_⟩
      unfold fN
      have e2 : 6 * ((i / 6 : Nat) : Int) + ((i % 6 : Nat) : Int) = (i : Int) := by omega
      rw [e2, ixZ_nat' hi, e]; simp)
    (fun p hp q hq r hr hne => by
      have := h2 0 (by decide) p (bdN hp) q (bdN hq) r (bdN hr)
      unfold P_doesGain P_doesGain_v1 at this
      have e0 : ixZ [((p : Int), (q : Int)).1, ((p : Int), (q : Int)).2] 0 = (p : Int) := rfl
      rw [e0] at this
      simp only [decide_true, cond_true] at this
      rw [val p hp q hq, val r hr q hq] at this
      have hd : decide (((fN tb p q : Nat) : Int) = ((fN tb r q : Nat) : Int)) = false := by simp; omega
      rw [hd, ahead_N (bdN hp) (by have := fb r hr q hq; rw [val r hr q hq] at this; exact this) (by have := fb p hp q hq; rw [val p hp q hq] at this; exact this)] at this
      simpa using this)
    (fun p hp q hq r hr hne => by
      have := h2 1 (by decide) p (bdN hp) q (bdN hq) r (bdN hr)
      unfold P_doesGain P_doesGain_v1 at this
      have e0 : ixZ [((p : Int), (q : Int)).1, ((p : Int), (q : Int)).2] 1 = (q : Int) := rfl
      rw [e0] at this
      have e1 : decide ((1 : Int) = 0) = false := by decide
      simp only [e1, cond_false] at this
      rw [val p hp q hq, val p hp r hr] at this
      have hd : decide (((fN tb p q : Nat) : Int) = ((fN tb p r : Nat) : Int)) = false := by simp; omega
      rw [hd, ahead_N (bdN hq) (by have := fb p hp r hr; rw [val p hp r hr] at this; exact this) (by have := fb p hp q hq; rw [val p hp q hq] at this; exact this)] at this
      simpa using this)
  have back : ∀ p, Bd 6 p → ∀ q, Bd 6 q → ixZ tb (6 * p + q) = ((fN tb p.toNat q.toNat : Nat) : Int) := fun p hp q hq => by
    have hp' : p.toNat < 6 := by unfold Bd at hp; omega
    have hq' : q.toNat < 6 := by unfold Bd at hq; omega
    have := val p.toNat hp' q.toNat hq'
    rw [show ((p.toNat : Nat) : Int) = p by unfold Bd at hp; omega, show ((q.toNat : Nat) : Int) = q by unfold Bd at hq; omega] at this
    exact this
  have e3 : decide ((3 : Int) = 6) = false := by decide
  rcases key with k | k
  · refine .inl fun p hp q hq => ?_
    rw [back p hp q hq, k p.toNat (by unfold Bd at hp; omega) q.toNat (by unfold Bd at hq; omega), e3]
    exact (top_N hl hb hp).symm
  · refine .inr fun p hp q hq => ?_
    rw [back p hp q hq, k p.toNat (by unfold Bd at hp; omega) q.toNat (by unfold Bd at hq; omega), e3]
    exact (top_N hl hb hq).symm
theorem choice_spec : Ok_choicePaper tb ∧ ((∃ v, Bd 2 v ∧ Rul 3 tb v ∧ P_choicePaper tb = pap sx_one_chooses_3 [v]) ∨ (¬ ∃ v, Bd 2 v ∧ Rul 3 tb v) ∧
    ((∃ x, Bd 3 x ∧ x ∉ tb ∧ P_choicePaper tb = pap sx_never [x]) ∨
      ∃ v p q r, Bd 2 v ∧ Bd 6 p ∧ Bd 6 q ∧ Bd 6 r ∧ P_doesGain tb v p q r = true ∧ P_choicePaper tb = pap sx_gains [v, p, q, r])) := by
  have o1 : okFor (fun (_ : Unit) (x3 : Int) => Ok_choicePaper_2 tb x3) (fun (_ : Unit) (x3 : Int) => (P_choicePaper_s1 tb x3 : Lo Unit AV)) () (rngZ 0 2) :=
    okFor_all _ _ fun _ v hv => ⟨choose_ok hl (bdr hv), fun _ => pap_av (is := [v]) (by simp [bd26 (bdr hv)]) (by simp)⟩
  have o2 : okFor (fun (_ : Unit) (x12 : Int) => Ok_choicePaper_5 tb x12) (fun (_ : Unit) (x12 : Int) => (P_choicePaper_s4 tb x12 : Lo Unit AV)) () (rngZ 0 3) :=
    okFor_all _ _ fun _ v hv => fun _ => pap_av (is := [v]) (by simp [bd36 (bdr hv)]) (by simp)
  have o3 : okFor (fun (_ : Unit) (x21 : Int) => Ok_choicePaper_17 tb x21) (fun (_ : Unit) (x21 : Int) => (P_choicePaper_s16 tb x21 : Lo Unit AV)) () (rngZ 0 2) :=
    okFor_all _ _ fun _ v hv => okFor_all _ _ fun _ p hp => okFor_all _ _ fun _ q hq => okFor_all _ _ fun _ r hr =>
      ⟨gain_ok hl hb (bdr hv) (bdr hp) (bdr hq) (bdr hr), fun _ => pap_av (is := [v, p, q, r]) (by simp [bd26 (bdr hv), bdr hp, bdr hq, bdr hr]) (by simp)⟩
  refine ⟨⟨o1, fun _ _ => ⟨o2, fun _ _ => ⟨o3, fun _ _ => rfl⟩⟩⟩, ?_⟩
  rcases forP_bif (fun x3 => P_choosesAlone tb x3) (fun x3 => (pap sx_one_chooses_3 [x3])) (rngZ 0 2) with ⟨e1, n1⟩ | ⟨v, hv, c1, e1⟩
  · have e1 : P_choicePaper_l3 tb = .nx () := e1
    have no : ¬ ∃ v, Bd 2 v ∧ Rul 3 tb v := fun ⟨v, hv, hr⟩ => by
      have := n1 v (mem_rngZ.mpr hv)
      rw [(choose_iff hl v).mpr hr] at this; cases this
    refine .inr ⟨no, ?_⟩
    rcases forP_bif (fun x => !decide (x ∈ tb)) (fun x => (pap sx_never [x])) (rngZ 0 3) with ⟨e2, n2⟩ | ⟨x, hx, c2, e2⟩
    · have e2 : P_choicePaper_l6 tb = .nx () := e2
      refine .inr ?_
      have s10 : ∀ v p q, (P_choicePaper_s10 tb v p q = .nx () ∧ ∀ r ∈ rngZ 0 6, P_doesGain tb v p q r = false) ∨ ∃ w, P_choicePaper_s10 tb v p q = .rt w ∧ ∃ r ∈ rngZ 0 6, P_doesGain tb v p q r = true ∧ w = .rt (.rt (pap sx_gains [v, p, q, r])) := fun v p q => by
        rcases forP_bif (fun r => P_doesGain tb v p q r) (fun r => (Lo.rt (Lo.rt (Lo.rt (pap sx_gains [v, p, q, r]))) : Lo Unit (Lo Unit (Lo Unit AV)))) (rngZ 0 6) with ⟨e, n⟩ | ⟨r, hr, c, e⟩
        · exact .inl ⟨fin_nx (l := P_choicePaper_l9 tb v p q) e, n⟩
        · exact .inr ⟨_, fin_rt (l := P_choicePaper_l9 tb v p q) e, r, hr, c, rfl⟩
      have s13 : ∀ v p, (P_choicePaper_s13 tb v p = .nx () ∧ ∀ q ∈ rngZ 0 6, ∀ r ∈ rngZ 0 6, P_doesGain tb v p q r = false) ∨ ∃ w, P_choicePaper_s13 tb v p = .rt w ∧ ∃ q ∈ rngZ 0 6, ∃ r ∈ rngZ 0 6, P_doesGain tb v p q r = true ∧ w = .rt (pap sx_gains [v, p, q, r]) := fun v p => by
        rcases firstQ (s := fun q => P_choicePaper_s10 tb v p q) (xs := rngZ 0 6) (fun q _ => s10 v p q) with ⟨e, n⟩ | ⟨q, hq, w, e, r, hr, c, rfl⟩
        · exact .inl ⟨fin_nx (l := P_choicePaper_l12 tb v p) e, n⟩
        · exact .inr ⟨_, fin_rt (l := P_choicePaper_l12 tb v p) e, q, hq, r, hr, c, rfl⟩
      have s16 : ∀ v, (P_choicePaper_s16 tb v = .nx () ∧ ∀ p ∈ rngZ 0 6, ∀ q ∈ rngZ 0 6, ∀ r ∈ rngZ 0 6, P_doesGain tb v p q r = false) ∨ ∃ w, P_choicePaper_s16 tb v = .rt w ∧ ∃ p ∈ rngZ 0 6, ∃ q ∈ rngZ 0 6, ∃ r ∈ rngZ 0 6, P_doesGain tb v p q r = true ∧ w = pap sx_gains [v, p, q, r] := fun v => by
        rcases firstQ (s := fun p => P_choicePaper_s13 tb v p) (xs := rngZ 0 6) (fun p _ => s13 v p) with ⟨e, n⟩ | ⟨p, hp, w, e, q, hq, r, hr, c, rfl⟩
        · exact .inl ⟨fin_nx (l := P_choicePaper_l15 tb v) e, n⟩
        · exact .inr ⟨_, fin_rt (l := P_choicePaper_l15 tb v) e, p, hp, q, hq, r, hr, c, rfl⟩
      rcases firstQ (s := fun v => P_choicePaper_s16 tb v) (xs := rngZ 0 2) (fun v _ => s16 v) with ⟨e3, n3⟩ | ⟨v, hv, w, e3, p, hp, q, hq, r, hr, c, rfl⟩
      · exfalso
        rcases choice_all hl hb (fun x hx => by have := n2 x (mem_rngZ.mpr hx); simpa using this) (fun v hv p hp q hq r hr => n3 v (mem_rngZ.mpr hv) p (mem_rngZ.mpr hp) q (mem_rngZ.mpr hq) r (mem_rngZ.mpr hr)) with h | h
        · exact no ⟨0, by decide, h⟩
        · exact no ⟨1, by decide, h⟩
      · refine ⟨v, p, q, r, bdr hv, bdr hp, bdr hq, bdr hr, c, ?_⟩
        have e4 : P_choicePaper_l18 tb = .rt (pap sx_gains [v, p, q, r]) := e3
        unfold P_choicePaper P_choicePaper_k20 P_choicePaper_k19
        rw [e1, e2, e4]; rfl
    · have e3 : P_choicePaper_l6 tb = .rt (pap sx_never [x]) := e2
      refine .inl ⟨x, bdr hx, by simpa using c2, ?_⟩
      unfold P_choicePaper P_choicePaper_k20
      rw [e1, e3]; rfl
  · have e1 : P_choicePaper_l3 tb = .rt (pap sx_one_chooses_3 [v]) := e1
    exact .inl ⟨v, bdr hv, (choose_iff hl v).mp c1, by unfold P_choicePaper; rw [e1]; rfl⟩
theorem paper_2 : P_judgeChoice tb (P_choicePaper tb) = true ∧ (P_choicePaper tb).isTup = true ∧ InR (P_choicePaper tb).items 0 ∧ Sm 1000 8 (P_choicePaper tb).1 ∧ (deq (eA (ixZ (P_choicePaper tb).items 0)) (eS sx_one_chooses_3) = true ↔ ∃ v, Bd 2 v ∧ Rul 3 tb v) := by
  rcases (choice_spec hl hb).2 with ⟨v, hv, hr, e⟩ | ⟨no, ⟨x, hx, c, e⟩ | ⟨v, p, q, r, hv, hp, hq, hr, c, e⟩⟩
  · have hall : ∀ i ∈ [v], Bd 6 i := by simp [bd26 hv]
    have hi := pap_items (w := sx_one_chooses_3) hall (by simp)
    have ht : (pap sx_one_chooses_3 [v]).isTup = true := AV.isTup_of (pap_1 hall (by simp))
    have s3 : ixZ (mkA (eS sx_one_chooses_3) :: [v].map fun i => mkA (.int i)) 0 = mkA (eS sx_one_chooses_3) := rfl
    rw [e]
    refine ⟨?_, ht, by rw [hi]; exact inr0, pap_sm8 hall (by simp), ?_⟩
    · obtain ⟨n1, n2, n3⟩ := nb_of (by decide) hv
      have a1 : P_areNumbers [mkA (.int v)] 2 = true := numb_iff.mpr (by simpa using n1)
      have a2 := (choose_iff hl v).mpr hr
      unfold P_judgeChoice
      rw [hi]
      have s1 : cutZ (mkA (eS sx_one_chooses_3) :: [v].map fun i => mkA (.int i)) (some 1) none = [mkA (.int v)] := rfl
      have s2 : ixZ (mkA (eS sx_one_chooses_3) :: [v].map fun i => mkA (.int i)) 1 = mkA (.int v) := rfl
      rw [s1, s2, s3, n2, a1, a2, ht, deq_w, str_mk]
      simp
    · rw [hi, s3, deq_w]
      simp only [decide_true, true_iff]
      exact ⟨v, hv, hr⟩
  · have hall : ∀ i ∈ [x], Bd 6 i := by simp [bd36 hx]
    have hi := pap_items (w := sx_never) hall (by simp)
    have ht : (pap sx_never [x]).isTup = true := AV.isTup_of (pap_1 hall (by simp))
    have w1 : decide (sx_never = sx_one_chooses_3) = false := by decide +kernel
    have s3 : ixZ (mkA (eS sx_never) :: [x].map fun i => mkA (.int i)) 0 = mkA (eS sx_never) := rfl
    rw [e]
    refine ⟨?_, ht, by rw [hi]; exact inr0, pap_sm8 hall (by simp), ?_⟩
    · obtain ⟨n1, n2, n3⟩ := nb_of (by decide) hx
      have a1 : P_areNumbers [mkA (.int x)] 3 = true := numb_iff.mpr (by simpa using n1)
      have a2 : (tb.any fun z => deq (eI z) (eA (mkA (.int x)))) = false := by
        rw [List.any_eq_false]
        intro z hz
        show ¬ deq (.int z) (mkA (.int x)).1 = true
        rw [AV.i_eq n3, n2, deq_int]
        simp only [beq_iff_eq]
        intro e2
        exact c (e2 ▸ hz)
      unfold P_judgeChoice
      rw [hi]
      have s1 : cutZ (mkA (eS sx_never) :: [x].map fun i => mkA (.int i)) (some 1) none = [mkA (.int x)] := rfl
      have s2 : ixZ (mkA (eS sx_never) :: [x].map fun i => mkA (.int i)) 1 = mkA (.int x) := rfl
      rw [s1, s2, s3, a1, a2, ht, deq_w, deq_w, str_mk, w1]
      simp
    · rw [hi, s3, deq_w, w1]
      simp only [Bool.false_eq_true, false_iff]
      exact no
  · have hall : ∀ i ∈ [v, p, q, r], Bd 6 i := by simp [bd26 hv, hp, hq, hr]
    have hi := pap_items (w := sx_gains) hall (by simp)
    have ht : (pap sx_gains [v, p, q, r]).isTup = true := AV.isTup_of (pap_1 hall (by simp))
    have w1 : decide (sx_gains = sx_one_chooses_3) = false := by decide +kernel
    have w2 : decide (sx_gains = sx_never) = false := by decide +kernel
    have s3 : ixZ (mkA (eS sx_gains) :: [v, p, q, r].map fun i => mkA (.int i)) 0 = mkA (eS sx_gains) := rfl
    rw [e]
    refine ⟨?_, ht, by rw [hi]; exact inr0, pap_sm8 hall (by simp), ?_⟩
    · obtain ⟨v1, v2, v3⟩ := nb_of (by decide) hv
      obtain ⟨p1, p2, p3⟩ := nb_of (by decide) hp
      obtain ⟨q1, q2, q3⟩ := nb_of (by decide) hq
      obtain ⟨r1, r2, r3⟩ := nb_of (by decide) hr
      have a1 : P_areNumbers [mkA (.int v)] 2 = true := numb_iff.mpr (by simp [v1])
      have a2 : P_areNumbers [mkA (.int p), mkA (.int q), mkA (.int r)] 6 = true := numb_iff.mpr (by simp [p1, q1, r1])
      unfold P_judgeChoice
      rw [hi]
      have s1 : cutZ (mkA (eS sx_gains) :: [v, p, q, r].map fun i => mkA (.int i)) (some 1) (some 2) = [mkA (.int v)] := rfl
      have s2 : cutZ (mkA (eS sx_gains) :: [v, p, q, r].map fun i => mkA (.int i)) (some 2) none = [mkA (.int p), mkA (.int q), mkA (.int r)] := rfl
      have s4 : ixZ (mkA (eS sx_gains) :: [v, p, q, r].map fun i => mkA (.int i)) 1 = mkA (.int v) := rfl
      have s5 : ixZ (mkA (eS sx_gains) :: [v, p, q, r].map fun i => mkA (.int i)) 2 = mkA (.int p) := rfl
      have s6 : ixZ (mkA (eS sx_gains) :: [v, p, q, r].map fun i => mkA (.int i)) 3 = mkA (.int q) := rfl
      have s7 : ixZ (mkA (eS sx_gains) :: [v, p, q, r].map fun i => mkA (.int i)) 4 = mkA (.int r) := rfl
      rw [s1, s2, s3, s4, s5, s6, s7, v2, p2, q2, r2, a1, a2, ht, deq_w, deq_w, deq_w, str_mk, c, w1, w2]
      simp
    · rw [hi, s3, deq_w, w1]
      simp only [Bool.false_eq_true, false_iff]
      exact no
end
end K43

set_option maxHeartbeats 1000000
/-! K43w: the law. -/
namespace K43
open PySem PySem.Spec PyProof.Rows L2 DV
theorem words_ok (c : Cu) (v : AV) : Ok_LWords c v := by
  have t6 := fun c => ok_take c (by decide : (0 : Int) < 6) (by decide)
  have b1 := take_bd (t6 c)
  have t7 := ok_take (P_LTake c 6).2 (by decide : (0 : Int) < 7) (by decide)
  have b2 := take_bd t7
  unfold Bd at b1 b2
  have e2 : (P_LWords_v2 c).1.length = (rngZ 0 ((P_LTake (P_LTake c 6).2 7).1)).length := by unfold P_LWords_v2; exact mapA_length _ _
  obtain ⟨n, hn⟩ : ∃ n : Nat, (P_LTake (P_LTake c 6).2 7).1 = (n : Int) := ⟨_, (Int.toNat_of_nonneg b2.1).symm⟩
  rw [hn] at b2 e2
  rw [rngZ_len] at e2
  have bds : ∀ x ∈ (P_LWords_v2 c).1, Bd 6 x := fun x hx => by
    unfold P_LWords_v2 at hx
    obtain ⟨c', y, _, rfl⟩ := mapA_mem _ _ x hx
    exact take_bd (t6 c')
  have avi : ∀ x ∈ (P_LWords_v2 c).1, D.av 9 (eI x) = true := fun x hx => by
    have := bds x hx
    unfold Bd at this
    show decide (x.natAbs < 1099511627776) = true
    simp; omega
  have avs : D.av 9 (eS (ixZ P_LWords_v1 (P_LTake c 6).1)) = true := by
    have := (ixZ P_LWords_v1 (P_LTake c 6).1).2
    show (PyData.strOk _ && decide _) = true
    rw [Bool.and_eq_true]; exact ⟨this.1, decide_eq_true this.2⟩
  refine ⟨t6 c, ?_, t7, ?_, ?_, okA_all (fun c3 _ => t6 c3) _ _, avs, avi, ?_, ?_⟩
  · unfold InR P_LWords_v1; simp; omega
  · rw [hn]; exact ⟨by omega, by omega⟩
  · rw [hn, rngZ_len]; show _ ≤ 16777216; omega
  · simp only [List.length_cons, List.length_nil, List.length_map]; show _ ≤ 16777216; omega
  · have e : (eT eA ([mkA (eS (ixZ P_LWords_v1 (P_LTake c 6).1))] ++ (P_LWords_v2 c).1.map fun x => mkA (eI x))) = .tup (eS (ixZ P_LWords_v1 (P_LTake c 6).1) :: (P_LWords_v2 c).1.map eI) := by
      show D.tup _ = _
      simp only [List.map_append, List.map_cons, List.map_nil, mapA_eq avi, List.singleton_append]
      rw [mkA_eq avs]
    rw [e]
    exact pap_av bds (by omega)
theorem any_iff {tb : List Int} (hl : tb.length = 36) (most : Int) : ((rngZ 0 2).map fun (x : Int) => P_LOwn tb x most).any id = true ↔ ∃ v, Bd 2 v ∧ Rul most tb v := by
  simp only [List.any_map, List.any_eq_true, Function.comp, id]
  constructor
  · rintro ⟨v, hv, h⟩; exact ⟨v, bdr hv, (own_iff hl v most).mp h⟩
  · rintro ⟨v, hv, h⟩; exact ⟨v, mem_rngZ.mpr hv, (own_iff hl v most).mpr h⟩
theorem law_true (c : Cu) : Ok_LAW c ∧ P_LAW c = true := by
  obtain ⟨o1, l1, b1⟩ := table_spec (c := c) (most := 6) (.inl rfl)
  obtain ⟨o2, l2, b2⟩ := table_spec (c := (P_LTable c 6).2) (most := 3) (.inr rfl)
  have A := arrow_spec l1 b1
  have C := choice_spec l2 b2
  obtain ⟨a1, a2, a3, a4, a5⟩ := paper_1 l1 b1
  obtain ⟨c1, c2, c3, c4, c5⟩ := paper_2 l2 b2
  have ev1 : P_LAW_v1 c = P_choicePaper (P_LTable (P_LTable c 6).2 3).1 := rfl
  obtain ⟨j1, j2, j3⟩ := ja l1 b1 (v := P_arrowPaper (P_LTable c 6).1)
  obtain ⟨k1, k2, k3⟩ := jc l2 b2 (v := P_choicePaper (P_LTable (P_LTable c 6).2 3).1)
  have la : P_LIsArrow (P_LTable c 6).1 (P_arrowPaper (P_LTable c 6).1) = true := by rw [← j1]; exact a1
  have lc : P_LIsChoice (P_LTable (P_LTable c 6).2 3).1 (P_choicePaper (P_LTable (P_LTable c 6).2 3).1) = true := by rw [← k1]; exact c1
  have h1 : deq (eA (ixZ (P_arrowPaper (P_LTable c 6).1).items 0)) (eS sx_one_rules_0) = ((rngZ 0 2).map fun (x4 : Int) => P_LOwn (P_LTable c 6).1 x4 6).any id := by
    rw [Bool.eq_iff_iff, a5, any_iff l1]
  have h2 : deq (eA (ixZ (P_LAW_v1 c).items 0)) (eS sx_one_chooses_3) = ((rngZ 0 2).map fun (x8 : Int) => P_LOwn (P_LTable (P_LTable c 6).2 3).1 x8 3).any id := by
    rw [Bool.eq_iff_iff, ev1, c5, any_iff l2]
  have turn : ∀ (t : Cu) (x : Int), Ok_LAW_12 c t x ∧ P_LAW_s11 c t x = .nx (P_LAW_c9 c t x) := fun t x => by
    obtain ⟨e1, e2, e3⟩ := ja l1 b1 (v := P_LAW_v4 c t x)
    obtain ⟨f1, f2, f3⟩ := jc l2 b2 (v := P_LAW_v8 c t x)
    have bl : ∀ b : Bool, (mkA (eB b)).isBl = true := fun b => by cases b <;> rfl
    have all : ((P_LAW_v10 c t x).map fun (x20 : Bool) => (mkA (eB x20)).isBl).all id = true := by
      unfold P_LAW_v10; simp [bl]
    refine ⟨⟨fun _ => a4, fun _ => words_ok _ _, fun _ => by rw [ev1]; exact c4, fun _ => words_ok _ _, e2, f2, fun b _ => by cases b <;> rfl, by show 2 ≤ 16777216; decide, fun _ => ⟨e3, f3⟩⟩, ?_⟩
    unfold P_LAW_s11
    rw [all]
    unfold P_LAW_v10
    rw [e1, f1]
    simp
  refine ⟨⟨o1, o2, A.1, C.1, j3, fun _ => k3, fun _ => ⟨a2, a3, fun v hv => own_ok l1 (bdr hv) 6, by decide, fun _ => ⟨c2, c3, fun v hv => own_ok l2 (bdr hv) 3, by decide, fun _ => okFor_all _ _ fun t x _ => (turn t x).1⟩⟩⟩, ?_⟩
  obtain ⟨t', ht⟩ := forP_nxS (step := fun (t12 : Cu) (x14 : Int) => (P_LAW_s11 c t12 x14 : Lo Cu Bool)) (fun t x => ⟨_, (turn t x).2⟩) (rngZ 0 10) (P_LTable (P_LTable c 6).2 3).2
  have hl13 : P_LAW_l13 c = .nx t' := ht
  unfold P_LAW
  rw [la, ev1, lc, ← ev1, h1, h2, hl13]
  simp [Lo.fin]
theorem good : Good := by
  intro ns hn
  obtain ⟨c, hc⟩ := start_ok ns hn
  obtain ⟨h1, h2⟩ := law_true c
  obtain ⟨S', h3⟩ := P_LAW_eq c ns hc h1
  rw [h2] at h3
  exact ⟨S', h3⟩
end K43

open PySem PySem.W PyProof.Rows
set_option maxHeartbeats 0 in
theorem PySem.Challenge.cw_shareworth_k43_tables_for_two_voters_holds : PySem.Challenge.rw_shareworth_k43_tables_for_two_voters.Holds := by
  w_on; o_law; k_head; (case hw => w_witness2)
  k_fill
  refine L2.walk_of (l := PySem.Challenge.rw_shareworth_k43_tables_for_two_voters) (n := 63) (k := 21) (x := "script") (CX := fun _ => L2.CX0) (sp := fun w => K43.spLaw _) rfl (by decide) rfl ⟨rfl, by decide, by decide⟩ (fun w h Y => PySem.W.kIn_of Y) ?F (fun _ _ a ns hl _ hS => ⟨a, ns, rfl, hS, hl, fun _ => rfl⟩) (fun _ _ _ _ _ h => h)
  case F =>
    intro w mg fa h KX G hmg
    refine' K43.all_mk K43.good KX G hmg ?a0 ?l0 ?c0 ?k0 ?a1 ?l1 ?c1 ?k1 ?a2 ?l2 ?c2 ?k2 ?a3 ?l3 ?c3 ?k3 ?a4 ?l4 ?c4 ?k4 ?a5 ?l5 ?c5 ?k5 ?a6 ?l6 ?c6 ?k6 ?a7 ?l7 ?c7 ?k7 ?a8 ?l8 ?c8 ?k8 ?a9 ?l9 ?c9 ?k9 ?a10 ?l10 ?c10 ?k10 ?a11 ?l11 ?c11 ?k11 ?a12 ?l12 ?c12 ?k12 ?a13 ?l13 ?c13 ?k13 ?a14 ?l14 ?c14 ?k14 ?a15 ?l15 ?c15 ?k15 ?a16 ?l16 ?c16 ?k16 ?a17 ?l17 ?c17 ?k17 ?a18 ?l18 ?c18 ?k18 ?a19 ?l19 ?c19 ?k19 ?a20 ?l20 ?c20 ?k20 ?a21 ?l21 ?c21 ?k21 ?a22 ?l22 ?c22 ?k22 ?a23 ?l23 ?c23 ?k23 ?a24 ?l24 ?c24 ?k24 ?a25 ?l25 ?c25 ?k25 ?a26 ?l26 ?c26 ?k26 ?z_all ?z_any ?z_bool ?z_int ?z_isinstance ?z_len ?z_list ?z_range ?z_sorted ?z_str ?z_tuple ?qORDERS ?hAORDERS ?cAORDERS ?dAORDERS ?eAORDERS ?hAORDERS_0 ?cAORDERS_0 ?dAORDERS_0 ?eAORDERS_0 ?hAORDERS_1 ?cAORDERS_1 ?dAORDERS_1 ?eAORDERS_1 ?hAORDERS_2 ?cAORDERS_2 ?dAORDERS_2 ?eAORDERS_2 ?hAORDERS_3 ?cAORDERS_3 ?dAORDERS_3 ?eAORDERS_3 ?hAORDERS_4 ?cAORDERS_4 ?dAORDERS_4 ?eAORDERS_4 ?hAORDERS_5 ?cAORDERS_5 ?dAORDERS_5 ?eAORDERS_5 ?qPAIRS ?hAPAIRS ?cAPAIRS ?dAPAIRS ?eAPAIRS ?hAPAIRS_0 ?cAPAIRS_0 ?dAPAIRS_0 ?eAPAIRS_0 ?hAPAIRS_1 ?cAPAIRS_1 ?dAPAIRS_1 ?eAPAIRS_1 ?hAPAIRS_2 ?cAPAIRS_2 ?dAPAIRS_2 ?eAPAIRS_2 ?hAPAIRS_3 ?cAPAIRS_3 ?dAPAIRS_3 ?eAPAIRS_3 ?hAPAIRS_4 ?cAPAIRS_4 ?dAPAIRS_4 ?eAPAIRS_4 ?hAPAIRS_5 ?cAPAIRS_5 ?dAPAIRS_5 ?eAPAIRS_5
    (case a0 => k_is); (case l0 => k_is); (case c0 => k_is); (case k0 => k_is)
    (case a1 => k_is); (case l1 => k_is); (case c1 => k_is); (case k1 => k_is)
    (case a2 => k_is); (case l2 => k_is); (case c2 => k_is); (case k2 => k_is)
    (case a3 => k_is); (case l3 => k_is); (case c3 => k_is); (case k3 => k_is)
    (case a4 => k_is); (case l4 => k_is); (case c4 => k_is); (case k4 => k_is)
    (case a5 => k_is); (case l5 => k_is); (case c5 => k_is); (case k5 => k_is)
    (case a6 => k_is); (case l6 => k_is); (case c6 => k_is); (case k6 => k_is)
    (case a7 => k_is); (case l7 => k_is); (case c7 => k_is); (case k7 => k_is)
    (case a8 => k_is); (case l8 => k_is); (case c8 => k_is); (case k8 => k_is)
    (case a9 => k_is); (case l9 => k_is); (case c9 => k_is); (case k9 => k_is)
    (case a10 => k_is); (case l10 => k_is); (case c10 => k_is); (case k10 => k_is)
    (case a11 => k_is); (case l11 => k_is); (case c11 => k_is); (case k11 => k_is)
    (case a12 => k_is); (case l12 => k_is); (case c12 => k_is); (case k12 => k_is)
    (case a13 => k_is); (case l13 => k_is); (case c13 => k_is); (case k13 => k_is)
    (case a14 => k_is); (case l14 => k_is); (case c14 => k_is); (case k14 => k_is)
    (case a15 => k_is); (case l15 => k_is); (case c15 => k_is); (case k15 => k_is)
    (case a16 => k_is); (case l16 => k_is); (case c16 => k_is); (case k16 => k_is)
    (case a17 => k_is); (case l17 => k_is); (case c17 => k_is); (case k17 => k_is)
    (case a18 => k_is); (case l18 => k_is); (case c18 => k_is); (case k18 => k_is)
    (case a19 => k_is); (case l19 => k_is); (case c19 => k_is); (case k19 => k_is)
    (case a20 => k_is); (case l20 => k_is); (case c20 => k_is); (case k20 => k_is)
    (case a21 => k_is); (case l21 => k_is); (case c21 => k_is); (case k21 => k_is)
    (case a22 => k_is); (case l22 => k_is); (case c22 => k_is); (case k22 => k_is)
    (case a23 => k_is); (case l23 => k_is); (case c23 => k_is); (case k23 => k_is)
    (case a24 => k_is); (case l24 => k_is); (case c24 => k_is); (case k24 => k_is)
    (case a25 => k_is); (case l25 => k_is); (case c25 => k_is); (case k25 => k_is)
    (case a26 => k_is); (case l26 => k_is); (case c26 => k_is); (case k26 => k_is)
    (case z_all => k_is)
    (case z_any => k_is)
    (case z_bool => k_is)
    (case z_int => k_is)
    (case z_isinstance => k_is)
    (case z_len => k_is)
    (case z_list => k_is)
    (case z_range => k_is)
    (case z_sorted => k_is)
    (case z_str => k_is)
    (case z_tuple => k_is)
    (case qORDERS => k_is)
    (case hAORDERS => k_is)
    (case cAORDERS => exact rfl)
    (case dAORDERS => exact rfl)
    (case eAORDERS => exact rfl)
    (case hAORDERS_0 => k_is)
    (case cAORDERS_0 => exact rfl)
    (case dAORDERS_0 => exact rfl)
    (case eAORDERS_0 => exact rfl)
    (case hAORDERS_1 => k_is)
    (case cAORDERS_1 => exact rfl)
    (case dAORDERS_1 => exact rfl)
    (case eAORDERS_1 => exact rfl)
    (case hAORDERS_2 => k_is)
    (case cAORDERS_2 => exact rfl)
    (case dAORDERS_2 => exact rfl)
    (case eAORDERS_2 => exact rfl)
    (case hAORDERS_3 => k_is)
    (case cAORDERS_3 => exact rfl)
    (case dAORDERS_3 => exact rfl)
    (case eAORDERS_3 => exact rfl)
    (case hAORDERS_4 => k_is)
    (case cAORDERS_4 => exact rfl)
    (case dAORDERS_4 => exact rfl)
    (case eAORDERS_4 => exact rfl)
    (case hAORDERS_5 => k_is)
    (case cAORDERS_5 => exact rfl)
    (case dAORDERS_5 => exact rfl)
    (case eAORDERS_5 => exact rfl)
    (case qPAIRS => k_is)
    (case hAPAIRS => k_is)
    (case cAPAIRS => exact rfl)
    (case dAPAIRS => exact rfl)
    (case eAPAIRS => exact rfl)
    (case hAPAIRS_0 => k_is)
    (case cAPAIRS_0 => exact rfl)
    (case dAPAIRS_0 => exact rfl)
    (case eAPAIRS_0 => exact rfl)
    (case hAPAIRS_1 => k_is)
    (case cAPAIRS_1 => exact rfl)
    (case dAPAIRS_1 => exact rfl)
    (case eAPAIRS_1 => exact rfl)
    (case hAPAIRS_2 => k_is)
    (case cAPAIRS_2 => exact rfl)
    (case dAPAIRS_2 => exact rfl)
    (case eAPAIRS_2 => exact rfl)
    (case hAPAIRS_3 => k_is)
    (case cAPAIRS_3 => exact rfl)
    (case dAPAIRS_3 => exact rfl)
    (case eAPAIRS_3 => exact rfl)
    (case hAPAIRS_4 => k_is)
    (case cAPAIRS_4 => exact rfl)
    (case dAPAIRS_4 => exact rfl)
    (case eAPAIRS_4 => exact rfl)
    (case hAPAIRS_5 => k_is)
    (case cAPAIRS_5 => exact rfl)
    (case dAPAIRS_5 => exact rfl)
    (case eAPAIRS_5 => exact rfl)
