import PyProof.Rows.All
import HandS.ForMost
import Wide.All
import OpenK.AllK
import Wide.FinOn
import HandS.Conv
import HandS.Deep
import HandS.DictComp
import HandS.EndTab
import HandS.Flow
import HandS.IsInst
import HandS.Nested
import HandS.NoneIn
import HandS.SetKeys
import HandS.SortRule
import HandS.Strs
import HandS.Style
import HandS.TupAny
import HandS.Walk
import HandS.Words
import HandS.Zip
import KE.GoesEnum
import KE.KDictPairs
import KE.KRevSl
import PySem.Challenge.RW_gapless_k07_instances
set_option Elab.async false
set_option linter.all false
set_option maxRecDepth 100000
set_option maxHeartbeats 4000000

/-! Tuples whose object is known to the heap (so that they are known to bear no dict). -/
namespace TV
open PySem PySem.Spec PyProof.Rows L2

/-- the object of a new tuple -/
abbrev tupObj (its : List Value) : Obj := { cls := .type "tuple", data := .seq its.toArray }
/-- a known tuple -/
abbrev ftup (ob : Obj) (xs : List V) : HO := .frz ob (.tup xs)
section
variable {X : Cx} {pins : List (Addr × Obj)} {σ : L2.St} {H : Hp} {s : Shared}
theorem laidF {its : List Value} {xs : List V} {t' : Nat} (I : Inv X pins σ H s) (r : Vals xs its) (hz : xs.length ≤ sizeLine) :
    Inv X pins σ (upd H s.heap.objs.size (ftup (tupObj its) xs)) { s with heap := s.heap.push (tupObj its), toks := t' } := by
  have e : (s.heap.push (tupObj its)).get? s.heap.objs.size = some (tupObj its) := Heap.get?_push_size _ rfl
  refine I.laid (fun b u q => Heap.get?_push_of_some _ q) (Nat.le_refl _) ⟨e, hz, its, r, ?_⟩
  exact ⟨_, e, rfl, _, rfl⟩
/-- what a new tuple is asked of -/
abbrev NewT (H : Hp) (Q : VK) (xs : List V) : Prop := ∀ p ob, H p = none → ob.dict = none → Q (.ref p) (upd H p (ftup ob xs))
theorem newT_end {its : List Value} {xs : List V} {t' : Nat} {Q : VK} (I : Inv X pins σ H s) (r : Vals xs its) (hz : xs.length ≤ sizeLine) (q : NewT H Q xs) :
    EP X pins σ Q (.ref s.heap.objs.size) { s with heap := s.heap.push (tupObj its), toks := t' } :=
  ⟨.ref _, _, laidF I r hz, rfl, q _ _ (I.hok.fresh (Nat.le_refl _)) rfl⟩

def tTupF (t : TA) : TE := fun σ H Q => t σ H fun xs H1 => xs.length ≤ sizeLine ∧ NewT H1 Q xs
theorem pe_tupF {es : List Expr} {t : TA} {x1 : Nat} {pos : Pos} (h : PA X es t) : PE X (.Tuple es x1 pos) (tTupF t) := by
  refine ⟨fun pins s σ H Q I hq => wpAny_Tuple_spliced (thn (h.run pos pins s σ H _ I hq) fun us s1 z => ?_)⟩
  obtain ⟨xs, H1, I1, r, hz, q⟩ := z
  refine ⟨by rw [← r.length]; exact hz, ?_⟩
  have := newT_end (t' := s1.toks) I1 r hz q
  exact this

/-- t + u -/
def rCatF (K : PySem.W.Frag) : R2 := fun x y H Q => ∃ a b xs ys, x = .ref a ∧ y = .ref b ∧ SqT K H a xs ∧ SqT K H b ys ∧ xs.length + ys.length ≤ sizeLine ∧
  (xs = [] → Q (.ref b) H) ∧ (ys = [] → Q (.ref a) H) ∧ NewT H Q (xs ++ ys)
theorem op_catF : OpR X (binaryOp .Add) (rCatF X.K) := by
  intro pins s σ H x y v u Q I rx ry h
  obtain ⟨a, b, xs, ys, rfl, rfl, ha, hb, hz, q0, q1, q2⟩ := h
  cases rx; cases ry
  obtain ⟨as, ra, pa, _⟩ := I.tuple ha
  obtain ⟨bs, rb, pb, _⟩ := I.tuple hb
  have la := ra.length
  have lb := rb.length
  by_cases hx : xs = []
  · subst hx
    cases ra
    exact cat_tup0 pa pb ⟨.ref b, H, I, rfl, q0 rfl⟩
  · refine HT.cat_tup pa pb (fun z => hx (ra.nil_iff.mp z)) (fun z => ⟨.ref a, H, I, rfl, q1 (rb.nil_iff.mp z)⟩) (fun z => ?_) (by omega)
    have := newT_end (t' := s.toks) I (ra.append rb) (by rw [List.length_append]; exact hz) q2
    exact this

/-- t[lo:hi] -/
def rSlF (K : PySem.W.Frag) : V → Option Int → Option Int → Hp → VK → Prop := fun x lo hi H Q => ∃ a xs, x = .ref a ∧ SqT K H a xs ∧ (cutV xs lo hi = xs → Q (.ref a) H) ∧ NewT H Q (cutV xs lo hi)
theorem cut_whole (xs : List V) (lo hi : Option Int) (h : HT.sIx xs.length 0 lo = 0 ∧ HT.sIx xs.length xs.length hi = xs.length) : cutV xs lo hi = xs := by
  unfold cutV
  rw [h.1, h.2]
  simp
theorem sl_tupF : SlR X (rSlF X.K) := by
  intro pins s σ H x v vl vu lo hi sl Q I rx hs pl pu h
  obtain ⟨a, xs, rfl, hx, q1, q2⟩ := h
  cases rx
  obtain ⟨its, r, ht, hz⟩ := I.tuple hx
  have n1 : its.toArray.size = xs.length := by simp [r.length]
  refine ⟨"tuple", _, PyProof.Rows.slot_tuple_getitem.lookup, ht.typeIs, ?_⟩
  by_cases w : HT.sIx xs.length 0 lo = 0 ∧ HT.sIx xs.length xs.length hi = xs.length
  · exact getItem_tuple_whole ht hs pl pu (by rw [n1]; exact w) ⟨.ref a, H, I, rfl, q1 (cut_whole xs lo hi w)⟩
  · refine HT.getItem_tuple_cut ht hs pl pu (by rw [n1]; exact w) ?_ (by rw [n1]; exact hz)
    rw [n1]
    have := newT_end (t' := s.toks) I ((r.drop (HT.sIx xs.length 0 lo)).take (HT.sIx xs.length xs.length hi - HT.sIx xs.length 0 lo)) (Nat.le_trans (cutV_length xs lo hi) hz) q2
    exact this

/-- tuple(x) -/
theorem call_tupleF : CallR X (.type "tuple") (fun xs H Q => ∃ p ys, xs = [.ref p] ∧ ((SqL X.K H p ys ∧ NewT H Q ys) ∨ (SqT X.K H p ys ∧ Q (.ref p) H))) := by
  intro pins s σ H xs us Q I r h
  obtain ⟨p, ys, rfl, h⟩ := h
  obtain ⟨u, rfl, ru⟩ := vals1 r
  cases ru
  rcases h with ⟨hq, q⟩ | ⟨hq, q⟩
  · obtain ⟨its, r', pl, hz⟩ := I.list hq
    have n1 := r'.length
    refine call_tuple_list pl.isList (fun h' kp => ?_) (by simp only [List.size_toArray] <;> omega)
    have I1 : Inv X pins σ H { s with heap := h' } := I.kept (t' := s.toks) kp
    have := newT_end (t' := s.toks) I1 r' hz q
    exact this
  · obtain ⟨its, r', pl, hz⟩ := I.tuple hq
    exact call_tuple_same pl ⟨.ref p, H, I, rfl, q⟩
end
end TV

/-! enumerate of a list or of a tuple, the pairs known. -/
namespace TV
open PySem PySem.Spec PyProof.Rows L2

/-- what is walked: a list (as it stands at each turn) or a tuple -/
def SqX (K : PySem.W.Frag) (lst : Bool) (H : Hp) (a : Addr) (xs : List V) : Prop := if lst = true then SqL K H a xs else SqT K H a xs
/-- each item in a new known pair with its number -/
def ItN (K : PySem.W.Frag) (lst : Bool) (a : Addr) : It where
  go := fun i H => ∃ xs x, SqX K lst H a xs ∧ xs[i]? = some x
  yld := fun i H v H' => ∃ p x ob, v = .ref p ∧ H p = none ∧ ob.dict = none ∧ H' = upd H p (ftup ob [.int (i : Nat), x]) ∧ ∀ xs, SqX K lst H a xs → xs[i]? = some x
  stop := fun i H => ∃ xs, SqX K lst H a xs ∧ xs.length = i
section
variable {X : Cx} {pins : List (Addr × Obj)} {σ : L2.St} {H : Hp} {s : Shared}
theorem sqx_inj {lst : Bool} {a : Addr} {xs ys : List V} (I : Inv X pins σ H s) (h : SqX X.K lst H a xs) (k : SqX X.K lst H a ys) : xs = ys := by
  cases lst
  · exact I.tuple_inj h k
  · exact I.list_inj h k
/-- the iterator behind the numbers -/
def Under (lst : Bool) (it a i : Nat) (h : Heap) : Prop := if lst = true then h.IsListIter it a i else h.IsTupleIter it a i
theorem under_at {lst : Bool} {it a i : Nat} {h h' : Heap} (u : Under lst it a i h) (k : ∀ o, h.get? it = some o → h'.get? it = some o) : Under lst it a i h' := by
  cases lst
  · exact Heap.IsTupleIter.at (show h.IsTupleIter it a i from u) k
  · exact Heap.IsListIter.at (show h.IsListIter it a i from u) k
theorem under_there {lst : Bool} {it a i : Nat} {h : Heap} (u : Under lst it a i h) : ∃ o, h.get? it = some o ∧ ∀ v, o.data ≠ .cell v := by
  cases lst
  · obtain ⟨o, e, c, d⟩ := (show h.IsTupleIter it a i from u)
    exact ⟨o, e, fun v q => by rw [d] at q; cases q⟩
  · obtain ⟨o, e, c, d⟩ := (show h.IsListIter it a i from u)
    exact ⟨o, e, fun v q => by rw [d] at q; cases q⟩
/-- what it draws -/
theorem under_draws {lst : Bool} {it a : Nat} {xs : List V} (I : Inv X pins σ H s) (q : SqX X.K lst H a xs) (A : Around) (hh : A.handled = none) (hne : a ≠ it) :
    ∃ (its : List Value) (St : Nat → Heap → Prop) , Vals xs its ∧ a < s.heap.objs.size ∧ Draws X.prog X.w A it [it, a] its.toArray.size (fun i v => its.toArray[i]? = some v) St ∧
      (∀ i, Under lst it a i s.heap → St i s.heap) ∧ (∀ i h, St i h → Under lst it a i h) := by
  cases lst
  · obtain ⟨its, r, pl, _⟩ := I.tuple (show SqT X.K H a xs from q)
    exact ⟨its, _, r, pl.lt, Draws.tuple hh it a hne its.toArray, fun i u => ⟨u, pl⟩, fun i h st => st.1⟩
  · obtain ⟨its, r, pl, _⟩ := I.list (show SqL X.K H a xs from q)
    exact ⟨its, _, r, pl.lt, Draws.list hh it a hne its.toArray, fun i u => ⟨u, pl.isList⟩, fun i h st => st.1⟩
end
theorem turn_num {P : Program} {w : World} {K : PySem.W.Frag} {elts : List Expr} {kk : Nat} {tpos : Pos} (lst : Bool) (a e it : Addr) :
    Turn P w K (.Tuple elts kk tpos) (ItN K lst a) [e, it] e (fun i h => (∃ old, IsEnum h e it ((i : Nat) : Int) old) ∧ Under lst it a i h ∧ e ≠ it ∧ a ≠ it ∧ a ≠ e) where
  mem := by simp
  obj := fun i h st b hb => by
    obtain ⟨⟨old, en⟩, u, _⟩ := st
    have cases2 : b = e ∨ b = it := by simpa using hb
    rcases cases2 with rfl | rfl
    · exact ⟨_, en, fun v q => nomatch q⟩
    · exact under_there u
  keep := fun i h h' st k => let ⟨⟨old, en⟩, u, r⟩ := st; ⟨⟨old, k e (by simp) _ en⟩, under_at u fun o q => k it (by simp) o q, r⟩
  item := by
    intro X hP hw hK hc i pins s σ H E I hf st hg
    subst hP hw hK
    obtain ⟨⟨old, en⟩, u, n1, n2, n3⟩ := st
    obtain ⟨xs, x, hq, hx⟩ := hg
    obtain ⟨its, St, r, la, D, to, back⟩ := under_draws (it := it) I hq X.A.in1 (I.ok.hd hc) n2
    obtain ⟨v, hv, rv⟩ := r.get hx
    have le : e < s.heap.objs.size := Heap.lt_size en
    have li : it < s.heap.objs.size := let ⟨o, q, _⟩ := under_there u; Heap.lt_size q
    have lt : i < its.toArray.size := by
      have := (List.getElem?_eq_some_iff.mp hv).1
      simpa using this
    refine wpAny_pyNext_enum_itemD D en (to i u) lt n1 (by simp; exact ⟨n1, Ne.symm n3⟩) fun y h1 tk hy en1 st1 hp hsz hk => ?_
    obtain rfl : v = y := by
      have hy' : its[i]? = some y := by simpa using hy
      rw [hv] at hy'; cases hy'; rfl
    refine ⟨_, rfl, wpAny_letOwnedTupleGo_enum (s := { s with heap := h1, toks := tk + 1 }) en1 fun h2 en2 sb => ?_⟩
    have hp2 : h2.get? s.heap.objs.size = some (tupObj [.int i tk, v]) := (sb.2 _ (Nat.ne_of_gt le)).trans hp
    have new : ObjOk X.prog X.w (upd H s.heap.objs.size (ftup (tupObj [.int i tk, v]) [.int (i : Nat), x])) h2 s.heap.objs.size (ftup (tupObj [.int i tk, v]) [.int (i : Nat), x]) := by
      refine ⟨hp2, ?_, [.int i tk, v], .cons ⟨_, rfl⟩ (.cons rv .nil), ⟨_, hp2, rfl, _, rfl⟩⟩
      show 2 ≤ sizeLine
      decide
    have J := I.turnedNew (t' := tk + 1) (ch := [e, it]) (fun b ob hb q => (sb.2 b (fun z => hb (by simp [z]))).trans (hk b ob (fun z => hb (by simp [z])) (fun z => hb (by simp [z])) q)) hf (Nat.le_refl _) new
    refine ⟨.ref s.heap.objs.size, _, J, rfl, ⟨_, x, _, rfl, I.hok.fresh (Nat.le_refl _), rfl, rfl, fun ys hy => by rw [sqx_inj I hy hq]; exact hx⟩, ⟨⟨v, ?_⟩, under_at (back _ _ st1) fun o q => (sb.2 it (Ne.symm n1)).trans q, n1, n2, n3⟩, fun b hb => ?_⟩
    · have en3 : ((i + 1 : Nat) : Int) = (i : Int) + 1 := by omega
      rw [en3]; exact en2
    · have lb : b < s.heap.objs.size := by
        have cases2 : b = e ∨ b = it := by simpa using hb
        rcases cases2 with rfl | rfl
        · exact le
        · exact li
      rw [upd_ne (Nat.ne_of_lt lb)]
      exact (hf b hb).1
  done := by
    intro X hP hw hK hc i pins s σ H E I hf st hg
    subst hP hw hK
    obtain ⟨⟨old, en⟩, u, n1, n2, n3⟩ := st
    obtain ⟨xs, hq, hx⟩ := hg
    obtain ⟨its, St, r, la, D, to, back⟩ := under_draws (it := it) I hq X.A.in1 (I.ok.hd hc) n2
    obtain ⟨f0, f1, f2, f3, f4, f5⟩ := hf it (by simp)
    have hn : its.toArray.size = i := by rw [List.size_toArray, ← r.length, hx]
    refine wpAny_pyNext_enum_endD D en (by rw [hn]; exact to i u) fun h' eb => ⟨rfl, ?_⟩
    exact I.turned (t' := s.toks) (fun b o hb q => eb b o hb q) f0 f1 f3 f4 f5
  self := fun A i s Q E st h => let ⟨⟨_, en⟩, _⟩ := st; wpAny_pyIter_enum en h
theorem meets_enumerate_one {v : Value} {o : Obj} {H : Heap → Prop} (B : Begins v o H) :
    Meets (Builtin.«enumerate.__new__» ⟨[.type "enumerate", v], []⟩) (fun _ R s => H s.heap ∧
      R (.ok (.ret (.ref (s.heap.push o).objs.size))) { s with heap := (s.heap.push o).push { cls := .type "enumerate", data := .fields #[.none, .bool false, .ref s.heap.objs.size, rawInt 0, .none, .none] } }) :=
  .of_wp fun prog w A R s hyp => by
    obtain ⟨hp, g, d, tk, os⟩ := s
    obtain ⟨hH, hR⟩ := hyp
    have isSub := sub_enumerate
    have begin1 : ∀ {A' : Around} {E Q : Value → Shared → Prop}, Q (.ref hp.objs.size) ⟨hp.push o, g, d, tk, os⟩ → wpAny (model prog w) A' (pyIter v) Q E ⟨hp, g, d, tk, os⟩ := fun q => B.iter prog w _ _ ⟨hp, g, d, tk, os⟩ _ hH q
    wp_walk using begin1
    refine wpAny_stack_any fun st => wpAny_pure ?_
    split
    · rename_i c _ _ _ _ _
      cases (c == Value.type "enumerate")
      all_goals (wp_walk using begin1; exact ⟨_, rfl, hR⟩)
    · wp_walk using begin1
      exact ⟨_, rfl, hR⟩
theorem call_enum1 {prog : Program} {w : World} {A : Around} {E : Value → Shared → Prop} {s : Shared} {v : Value} {o : Obj} {H : Heap → Prop} {Q : Value → Shared → Prop} (B : Begins v o H) (hH : H s.heap)
    (h : ∀ h', IsEnum h' (s.heap.objs.size + 1) s.heap.objs.size 0 .none → h'.get? s.heap.objs.size = some o → h'.objs.size = s.heap.objs.size + 2 →
      (∀ b o, s.heap.get? b = some o → h'.get? b = some o) → Q (.ref (s.heap.objs.size + 1)) { s with heap := h' }) : wpAny (model prog w) A (call (.type "enumerate") [v]) Q E s := by
  refine callType_new F.called_enumerate (by decide) (F.typeCall_enumerate_1 _) (F.newCall_enumerate_1 _) (fun obj => F.args_object_init_2 obj _) F.entry_enumerate_new (meets_enumerate_one B) ⟨hH, ?_⟩
  have size1 : (s.heap.push o).objs.size = s.heap.objs.size + 1 := Heap.size_push ..
  have en := Heap.get?_push_size (s.heap.push o) (o := { cls := .type "enumerate", data := .fields #[.none, .bool false, .ref s.heap.objs.size, rawInt 0, .none, .none] }) rfl
  rw [size1] at en
  show _ ∧ _
  rw [size1]
  have first : ((s.heap.push o).push { cls := .type "enumerate", data := .fields #[.none, .bool false, .ref s.heap.objs.size, rawInt 0, .none, .none] }).get? s.heap.objs.size = some o := Heap.get?_push_of_some _ (Heap.get?_push_size _ B.free)
  exact ⟨⟨_, en, rfl⟩, h _ en first (by rw [Heap.size_push, size1]) fun b u x => Heap.get?_push_of_some _ (Heap.get?_push_of_some _ x)⟩
def iNum (K : PySem.W.Frag) (ta : TA) : TI := fun σ H R => ta σ H fun vs H1 => ∃ a xs lst, vs = [.ref a] ∧ SqX K lst H1 a xs ∧ R (ItN K lst a) H1
theorem pi_num {X : Cx} {e : Expr} {ta : TA} {p pos tpos : Pos} {elts : List Expr} {kk : Nat} (hg : Gl X "enumerate") (hm : X.mg "enumerate" = none) (ha : PA X [e] ta) (star : starEach [e] X.env = [(false, eval e X.env)]) :
    PI X (.Tuple elts kk tpos) (.Call (.Name "enumerate" p) [e] [] pos) (iNum X.K ta) := by
  refine ⟨fun pins s σ H R I h => ?_⟩
  refine Call_ (ld_blt I hg hm boot_enumerate (PyProof.Rows.callWith_type1 (thn (ha.run pos pins s σ H _ I h) fun us s1 ⟨vs, H1, I1, r1, q1⟩ => ?_) star rfl))
  obtain ⟨a, xs, lst, ex, hq, q⟩ := q1
  subst ex
  obtain ⟨u, rfl, ru⟩ := vals1 r1
  cases ru
  have fin : ∀ h', IsEnum h' (s1.heap.objs.size + 1) s1.heap.objs.size 0 .none → Under lst s1.heap.objs.size a 0 h' → a < s1.heap.objs.size → (∀ b o, s1.heap.get? b = some o → h'.get? b = some o) →
      wpAny (model X.prog X.w) X.A (pyIter (.ref (s1.heap.objs.size + 1))) (PIE X pins σ (.Tuple elts kk tpos) R) X.xe { s1 with heap := h' } := fun h' en u la hk => by
    refine wpAny_pyIter_enum en ?_
    have J : Inv X pins σ H1 { s1 with heap := h' } := I1.kept (t' := s1.toks) hk
    refine ⟨s1.heap.objs.size + 1, [s1.heap.objs.size + 1, s1.heap.objs.size], _, _, H1, rfl, J, turn_num lst a (s1.heap.objs.size + 1) s1.heap.objs.size, ⟨⟨.none, en⟩, u, Nat.succ_ne_self _, Nat.ne_of_lt la, Nat.ne_of_lt (Nat.lt_succ_of_lt la)⟩, fun b hb => ?_, q⟩
    have two : b = s1.heap.objs.size + 1 ∨ b = s1.heap.objs.size := by simpa using hb
    have le : s1.heap.objs.size ≤ b := by
      rcases two with z | z
      · rw [z]; exact Nat.le_succ _
      · rw [z]; exact Nat.le_refl _
    exact I1.fpOk le (I1.hok.fresh le)
  cases lst
  · obtain ⟨its, rv, pl, _⟩ := I1.tuple (show SqT X.K H1 a xs from hq)
    exact call_enum1 (begins_tuple a its.toArray) (show s1.heap.IsTuple a its.toArray from pl) fun h' en fi _ hk => fin h' en ⟨_, fi, rfl, rfl⟩ pl.lt hk
  · obtain ⟨its, rv, pl, _⟩ := I1.list (show SqL X.K H1 a xs from hq)
    exact call_enum1 (begins_list a its.toArray) pl.isList fun h' en fi _ hk => fin h' en ⟨_, fi, rfl, rfl⟩ pl.lt hk
end TV

/-! Trees, the abstract store, and how the hand layer's heap bears them. -/
namespace TV
open PySem PySem.Spec PyProof.Rows L2

/-- a value as a tree: tuples by their items, mutable things by their address -/
inductive T where
  | non | bl (b : Bool) | int (i : Int) | str (x : Str) | tup (l : List T) | ref (a : Addr)
  /-- a list that nobody writes (the script) -/
  | rol (l : List T)
  deriving Inhabited

/-- a list that is never written -/
def RoL (K : PySem.W.Frag) (H : Hp) (a : Addr) (xs : List V) : Prop :=
  (∃ o, H a = some (.frz o (.lst xs))) ∨
    ∃ (o : Obj) (its : Array Value) (n : Nat), K.lookup a = some o ∧ o.cls = .type "list" ∧ o.dict = none ∧ o.data = .seq its n ∧ its.size ≤ sizeLine ∧ Vals xs its.toList
theorem RoL.seq {K : PySem.W.Frag} {H : Hp} {a : Addr} {xs : List V} (h : RoL K H a xs) : SqL K H a xs := by
  rcases h with ⟨o, h⟩ | h
  · exact .inl (.inr ⟨o, h⟩)
  · exact .inr h

/-- a tuple that bears no dict -/
def TupF (K : PySem.W.Frag) (H : Hp) (a : Addr) (xs : List V) : Prop :=
  (∃ o, H a = some (ftup o xs) ∧ o.dict = none) ∨
    ∃ (o : Obj) (its : Array Value) (n : Nat), K.lookup a = some o ∧ o.cls = .type "tuple" ∧ o.dict = none ∧ o.data = .seq its n ∧ its.size ≤ sizeLine ∧ Vals xs its.toList
theorem TupF.seq {K : PySem.W.Frag} {H : Hp} {a : Addr} {xs : List V} (h : TupF K H a xs) : SqT K H a xs := by
  rcases h with ⟨o, h, _⟩ | ⟨o, its, n, h1, h2, _, h3⟩
  · exact .inl (.inr ⟨o, h⟩)
  · exact .inr ⟨o, its, n, h1, h2, h3⟩

mutual
def Rep (K : PySem.W.Frag) (H : Hp) : T → V → Prop
  | .non, v => v = .non
  | .bl b, v => v = .bl b
  | .int i, v => v = .int i
  | .str x, v => v = .str x ∧ PyData.strOk x = true ∧ x.length ≤ sizeLine
  | .tup l, v => ∃ a vs, v = .ref a ∧ TupF K H a vs ∧ Reps K H l vs
  | .ref a, v => v = .ref a
  | .rol l, v => ∃ a vs, v = .ref a ∧ RoL K H a vs ∧ Reps K H l vs
def Reps (K : PySem.W.Frag) (H : Hp) : List T → List V → Prop
  | [], vs => vs = []
  | t :: ts, vs => ∃ v r, vs = v :: r ∧ Rep K H t v ∧ Reps K H ts r
end

/-- tuples and read-only lists stay -/
structure TK (K : PySem.W.Frag) (H H' : Hp) : Prop where
  tup : ∀ a vs, TupF K H a vs → TupF K H' a vs
  rol : ∀ a vs, RoL K H a vs → RoL K H' a vs
  ext : ∀ a φ, H a = some (.ext φ) → H' a = some (.ext φ)
theorem TK.refl {K : PySem.W.Frag} {H : Hp} : TK K H H := ⟨fun _ _ h => h, fun _ _ h => h, fun _ _ h => h⟩
theorem TK.trans {K : PySem.W.Frag} {H H1 H2 : Hp} (a : TK K H H1) (b : TK K H1 H2) : TK K H H2 := ⟨fun _ _ h => b.tup _ _ (a.tup _ _ h), fun _ _ h => b.rol _ _ (a.rol _ _ h), fun _ _ h => b.ext _ _ (a.ext _ _ h)⟩

mutual
theorem Rep.mono {K : PySem.W.Frag} {H H' : Hp} (k : TK K H H') : ∀ {t : T} {v : V}, Rep K H t v → Rep K H' t v
  | .non, _, h => h
  | .bl _, _, h => h
  | .int _, _, h => h
  | .str _, _, h => h
  | .ref _, _, h => h
  | .tup l, v, h => by
    obtain ⟨a, vs, e, q, r⟩ := h
    exact ⟨a, vs, e, k.tup _ _ q, Reps.mono k r⟩
  | .rol l, v, h => by
    obtain ⟨a, vs, e, q, r⟩ := h
    exact ⟨a, vs, e, k.rol _ _ q, Reps.mono k r⟩
theorem Reps.mono {K : PySem.W.Frag} {H H' : Hp} (k : TK K H H') : ∀ {ts : List T} {vs : List V}, Reps K H ts vs → Reps K H' ts vs
  | [], _, h => h
  | _ :: _, _, h => by
    obtain ⟨v, r, e, h1, h2⟩ := h
    exact ⟨v, r, e, Rep.mono k h1, Reps.mono k h2⟩
end
theorem Reps.nil {K : PySem.W.Frag} {H : Hp} : Reps K H [] [] := by unfold Reps; rfl
theorem Reps.cons {K : PySem.W.Frag} {H : Hp} {t : T} {ts : List T} {v : V} {vs : List V} (a : Rep K H t v) (b : Reps K H ts vs) : Reps K H (t :: ts) (v :: vs) := by
  unfold Reps; exact ⟨v, vs, rfl, a, b⟩
theorem Reps.length {K : PySem.W.Frag} {H : Hp} : ∀ {ts : List T} {vs : List V}, Reps K H ts vs → ts.length = vs.length
  | [], _, h => by unfold Reps at h; subst h; rfl
  | _ :: _, _, h => by
    unfold Reps at h
    obtain ⟨v, r, rfl, _, h2⟩ := h
    simp [h2.length]
theorem Reps.get {K : PySem.W.Frag} {H : Hp} : ∀ {ts : List T} {vs : List V} {i : Nat} {t : T}, Reps K H ts vs → ts[i]? = some t → ∃ v, vs[i]? = some v ∧ Rep K H t v
  | [], _, _, _, _, e => by simp at e
  | _ :: _, _, 0, _, h, e => by
    unfold Reps at h
    obtain ⟨v, r, rfl, h1, _⟩ := h
    simp at e; subst e
    exact ⟨v, rfl, h1⟩
  | _ :: _, _, i + 1, _, h, e => by
    unfold Reps at h
    obtain ⟨v, r, rfl, _, h2⟩ := h
    obtain ⟨w, e1, e2⟩ := h2.get (i := i) (by simpa using e)
    exact ⟨w, by simpa using e1, e2⟩
theorem Reps.get' {K : PySem.W.Frag} {H : Hp} : ∀ {ts : List T} {vs : List V} {i : Nat} {v : V}, Reps K H ts vs → vs[i]? = some v → ∃ t, ts[i]? = some t ∧ Rep K H t v
  | [], _, _, _, h, e => by unfold Reps at h; subst h; simp at e
  | t :: _, _, 0, _, h, e => by
    unfold Reps at h
    obtain ⟨v, r, rfl, h1, _⟩ := h
    simp at e; subst e
    exact ⟨t, rfl, h1⟩
  | _ :: _, _, i + 1, _, h, e => by
    unfold Reps at h
    obtain ⟨v, r, rfl, _, h2⟩ := h
    obtain ⟨w, e1, e2⟩ := h2.get' (i := i) (by simpa using e)
    exact ⟨w, by simpa using e1, e2⟩
theorem Reps.append {K : PySem.W.Frag} {H : Hp} : ∀ {ts us : List T} {vs ws : List V}, Reps K H ts vs → Reps K H us ws → Reps K H (ts ++ us) (vs ++ ws)
  | [], _, _, _, h, k => by unfold Reps at h; subst h; exact k
  | _ :: _, _, _, _, h, k => by
    unfold Reps at h
    obtain ⟨v, r, rfl, h1, h2⟩ := h
    exact Reps.cons h1 (h2.append k)
theorem Reps.take {K : PySem.W.Frag} {H : Hp} : ∀ {ts : List T} {vs : List V} (n : Nat), Reps K H ts vs → Reps K H (ts.take n) (vs.take n)
  | [], _, n, h => by unfold Reps at h; subst h; simp; exact Reps.nil
  | _ :: _, _, 0, h => by simp; exact Reps.nil
  | _ :: _, _, n + 1, h => by
    unfold Reps at h
    obtain ⟨v, r, rfl, h1, h2⟩ := h
    exact Reps.cons h1 (h2.take n)
theorem Reps.drop {K : PySem.W.Frag} {H : Hp} : ∀ {ts : List T} {vs : List V} (n : Nat), Reps K H ts vs → Reps K H (ts.drop n) (vs.drop n)
  | [], _, n, h => by unfold Reps at h; subst h; simp; exact Reps.nil
  | _ :: _, _, 0, h => h
  | _ :: _, _, n + 1, h => by
    unfold Reps at h
    obtain ⟨v, r, rfl, h1, h2⟩ := h
    exact h2.drop n
theorem Reps.reverse {K : PySem.W.Frag} {H : Hp} : ∀ {ts : List T} {vs : List V}, Reps K H ts vs → Reps K H ts.reverse vs.reverse
  | [], _, h => by unfold Reps at h; subst h; exact Reps.nil
  | _ :: _, _, h => by
    unfold Reps at h
    obtain ⟨v, r, rfl, h1, h2⟩ := h
    rw [List.reverse_cons, List.reverse_cons]
    exact h2.reverse.append (Reps.cons h1 Reps.nil)
theorem Reps.set {K : PySem.W.Frag} {H : Hp} {t : T} {v : V} (r : Rep K H t v) : ∀ {ts : List T} {vs : List V} (i : Nat), Reps K H ts vs → Reps K H (ts.set i t) (vs.set i v)
  | [], _, i, h => by unfold Reps at h; subst h; simp; exact Reps.nil
  | _ :: _, _, 0, h => by
    unfold Reps at h
    obtain ⟨v, q, rfl, h1, h2⟩ := h
    exact Reps.cons r h2
  | _ :: _, _, i + 1, h => by
    unfold Reps at h
    obtain ⟨v, q, rfl, h1, h2⟩ := h
    exact Reps.cons h1 (Reps.set r i h2)

/-- a thing at an address -/
inductive MO where
  /-- a list -/
  | lst (l : List T)
  /-- a dict by ints and texts -/
  | dic (kvs : List (Key × T))
  /-- a dict by tuples of these -/
  | dit (kvs : List (List Key × T))
  /-- an instance of the class of this name: its attributes -/
  | ins (c : Str) (fs : List (Str × T))
  /-- a def made within a def -/
  | fn (F : NdefX.NF)
abbrev Mu := Addr → Option MO
def mset (μ : Mu) (a : Addr) (o : MO) : Mu := fun b => if b = a then some o else μ b
theorem mset_same {μ : Mu} {a : Addr} {o : MO} : mset μ a o a = some o := by unfold mset; rw [if_pos rfl]
theorem mset_ne {μ : Mu} {a b : Addr} {o : MO} (h : b ≠ a) : mset μ a o b = μ b := by unfold mset; rw [if_neg h]
theorem mset_mset {μ : Mu} {a : Addr} {o u : MO} : mset (mset μ a o) a u = mset μ a u := by
  funext b; unfold mset; split <;> rfl

def RepO (K : PySem.W.Frag) (H : Hp) (a : Addr) : MO → Prop
  | .lst l => ∃ vs, H a = some (.lst vs) ∧ Reps K H l vs
  | .dic kvs => ∃ ks, H a = some (.dK ks) ∧ ks.map (·.1) = kvs.map (·.1) ∧ Reps K H (kvs.map (·.2)) (ks.map (·.2)) ∧ (ks.map (·.1)).Nodup
  | .dit kvs => ∃ ks, H a = some (.dT ks) ∧ ks.map (·.1) = kvs.map (·.1) ∧ Reps K H (kvs.map (·.2)) (ks.map (·.2)) ∧ (ks.map (·.1)).Nodup
  | .ins c fs => ∃ C dx vs, H a = some (.ins C dx vs) ∧ PySem.W.nsIn K mainGlobals c = some (some (.ref C)) ∧ vs.map (·.1) = fs.map (·.1) ∧ Reps K H (fs.map (·.2)) (vs.map (·.2))
  | .fn F => H a = some (NdefX.FnO a F) ∧ H F.c = some (LamX.CodeO F.c F.qual)
/-- what may be written -/
def Wr : HO → Prop
  | .lst _ => True
  | .dK _ => True
  | .dT _ => True
  | .ins _ _ _ => True
  | _ => False
/-- the store, and the tables of code -/
structure RepH (K : PySem.W.Frag) (Tb : List NdefX.NTab) (H : Hp) (μ : Mu) : Prop where
  at_ : ∀ a o, μ a = some o → RepO K H a o
  tb : NdefX.TabsN Tb H
instance {K : PySem.W.Frag} {Tb : List NdefX.NTab} {H : Hp} {μ : Mu} : CoeFun (RepH K Tb H μ) (fun _ => ∀ a o, μ a = some o → RepO K H a o) := ⟨RepH.at_⟩
theorem tabs_keep {Tb : List NdefX.NTab} {H H' : Hp} (h : NdefX.TabsN Tb H) (k : ∀ b o, H b = some o → ¬ Wr o → H' b = some o) : NdefX.TabsN Tb H' := fun p hp => by
  obtain ⟨ps, e1, e2, e3⟩ := h p hp
  refine ⟨ps, k _ _ e1 (fun z => z), e2, fun pos cv hc => ?_⟩
  obtain ⟨c, a1, a2⟩ := e3 pos cv hc
  exact ⟨c, a1, k _ _ a2 (fun z => z)⟩

section
variable {K : PySem.W.Frag} {H H' : Hp} {μ μ' : Mu} {a p : Addr} {mo : MO} {o : HO}
theorem TK.new (hn : H p = none) : TK K H (upd H p o) := by
  refine ⟨fun a vs h => ?_, fun a vs h => ?_, fun a φ h => ?_⟩
  · rcases h with ⟨ob, h, hd⟩ | h
    · exact .inl ⟨ob, by rw [upd_ne (ne_of_none h hn)]; exact h, hd⟩
    · exact .inr h
  · rcases h with ⟨ob, h⟩ | h
    · exact .inl ⟨ob, by rw [upd_ne (ne_of_none h hn)]; exact h⟩
    · exact .inr h
  · rw [upd_ne (ne_of_none h hn)]; exact h
theorem wr_ne {u : HO} (hm : H p = some u) (mu : Wr u) {a : Addr} {w : HO} (e : H a = some w) (nm : ¬ Wr w) : a ≠ p := fun z => by subst z; rw [hm] at e; cases e; exact nm mu
theorem TK.write {u : HO} (hm : H p = some u) (mu : Wr u) : TK K H (upd H p o) := by
  refine ⟨fun a vs h => ?_, fun a vs h => ?_, fun a φ h => ?_⟩
  · rcases h with ⟨ob, h, hd⟩ | h
    · exact .inl ⟨ob, by rw [upd_ne (wr_ne hm mu h (fun z => z))]; exact h, hd⟩
    · exact .inr h
  · rcases h with ⟨ob, h⟩ | h
    · exact .inl ⟨ob, by rw [upd_ne (wr_ne hm mu h (fun z => z))]; exact h⟩
    · exact .inr h
  · rw [upd_ne (wr_ne hm mu h (fun z => z))]; exact h
/-- what is borne stays so where tuples stay and the thing itself stands -/
theorem RepO.mono (h : RepO K H a mo) (k : TK K H H') (st : ∀ w, H a = some w → H' a = some w) : RepO K H' a mo := by
  cases mo with
  | lst l => obtain ⟨vs, e, r⟩ := h; exact ⟨vs, st _ e, r.mono k⟩
  | dic kvs => obtain ⟨ks, e, q, r, nd⟩ := h; exact ⟨ks, st _ e, q, r.mono k, nd⟩
  | dit kvs => obtain ⟨ks, e, q, r, nd⟩ := h; exact ⟨ks, st _ e, q, r.mono k, nd⟩
  | ins c fs => obtain ⟨C, dx, vs, e, n, q, r⟩ := h; exact ⟨C, dx, vs, st _ e, n, q, r.mono k⟩
  | fn F => exact ⟨st _ h.1, k.ext _ _ h.2⟩
theorem RepO.some (h : RepO K H a mo) : ∃ w, H a = some w := by
  cases mo with
  | lst l => obtain ⟨vs, e, _⟩ := h; exact ⟨_, e⟩
  | dic kvs => obtain ⟨vs, e, _⟩ := h; exact ⟨_, e⟩
  | dit kvs => obtain ⟨vs, e, _⟩ := h; exact ⟨_, e⟩
  | ins c fs => obtain ⟨_, _, _, e, _⟩ := h; exact ⟨_, e⟩
  | fn F => exact ⟨_, h.1⟩
theorem RepH.free (h : RepH K Tb H μ) (hn : H p = none) : μ p = none := by
  cases e : μ p with
  | none => rfl
  | some mo =>
    obtain ⟨w, e'⟩ := (h p mo e).some
    rw [hn] at e'; cases e'
/-- a new tuple -/
theorem RepH.newT (h : RepH K Tb H μ) (hn : H p = none) : RepH K Tb (upd H p o) μ :=
  ⟨fun a mo e => (h a mo e).mono (TK.new hn) fun w e' => by rw [upd_ne (ne_of_none e' hn)]; exact e', tabs_keep h.tb fun b o e _ => by rw [upd_ne (ne_of_none e hn)]; exact e⟩
/-- a new mutable thing -/
theorem RepH.new (h : RepH K Tb H μ) (hn : H p = none) (r : RepO K (upd H p o) p mo) : RepH K Tb (upd H p o) (mset μ p mo) :=
  ⟨fun a u e => by
    by_cases ha : a = p
    · subst ha; rw [mset_same] at e; cases e; exact r
    · rw [mset_ne ha] at e; exact h.newT hn a u e, (h.newT hn).tb⟩
theorem RepH.write {u : HO} (h : RepH K Tb H μ) (hm : H p = some u) (mu : Wr u) (r : RepO K (upd H p o) p mo) : RepH K Tb (upd H p o) (mset μ p mo) :=
  ⟨fun a w e => by
    by_cases ha : a = p
    · subst ha; rw [mset_same] at e; cases e; exact r
    · rw [mset_ne ha] at e
      exact (h a w e).mono (TK.write hm mu) fun z e' => by rw [upd_ne ha]; exact e', tabs_keep h.tb fun b o e n => by rw [upd_ne (wr_ne hm mu e n)]; exact e⟩
end

/-! ### slots -/
abbrev Env := List (Option T)
def RepS (K : PySem.W.Frag) (H : Hp) (τ : Env) (σ : L2.St) : Prop :=
  τ.length = σ.length ∧ ∀ (i : Nat) (t : T), τ[i]? = some (some t) → ∃ v, σ[i]? = some (some v) ∧ Rep K H t v
theorem RepS.mono {K : PySem.W.Frag} {H H' : Hp} {τ : Env} {σ : L2.St} (h : RepS K H τ σ) (k : TK K H H') : RepS K H' τ σ :=
  ⟨h.1, fun i t e => let ⟨v, e1, r⟩ := h.2 i t e; ⟨v, e1, r.mono k⟩⟩
theorem RepS.set {K : PySem.W.Frag} {H : Hp} {τ : Env} {σ : L2.St} (h : RepS K H τ σ) {i : Nat} {t : T} {v : V} (r : Rep K H t v) : RepS K H (τ.set i (some t)) (σ.set i (some v)) := by
  refine ⟨by simp [h.1], fun j u e => ?_⟩
  by_cases hj : i = j
  · subst hj
    have hlt : i < τ.length := by
      have := (List.getElem?_eq_some_iff.mp e).1
      simpa using this
    rw [List.getElem?_set_self hlt] at e
    cases e
    exact ⟨v, by rw [List.getElem?_set_self (by rw [← h.1]; exact hlt)], r⟩
  · rw [List.getElem?_set_ne hj] at e
    obtain ⟨w, e1, e2⟩ := h.2 j u e
    exact ⟨w, by rw [List.getElem?_set_ne hj]; exact e1, e2⟩
def wipeT (τ : Env) : List Nat → Env
  | [] => τ
  | v :: vs => (wipeT τ vs).set v none
theorem wipeT_length (τ : Env) : ∀ vs : List Nat, (wipeT τ vs).length = τ.length
  | [] => rfl
  | v :: vs => by unfold wipeT; rw [List.length_set, wipeT_length τ vs]
theorem RepS.wipe {K : PySem.W.Frag} {H : Hp} {τ : Env} {σ : L2.St} (h : RepS K H τ σ) : ∀ vs : List Nat, RepS K H (wipeT τ vs) (L2.wipe σ vs)
  | [] => h
  | v :: vs => by
    have ih := h.wipe vs
    unfold wipeT L2.wipe
    refine ⟨by simp [ih.1], fun j u e => ?_⟩
    by_cases hj : v = j
    · subst hj
      have hlt : v < (wipeT τ vs).length := by
        have := (List.getElem?_eq_some_iff.mp e).1
        simpa using this
      rw [List.getElem?_set_self hlt] at e
      cases e
    · rw [List.getElem?_set_ne hj] at e
      obtain ⟨w, e1, e2⟩ := ih.2 j u e
      exact ⟨w, by rw [List.getElem?_set_ne hj]; exact e1, e2⟩

/-! ### lifting -/
abbrev PQ := T → Mu → Prop
abbrev ME := Env → Mu → PQ → Prop
abbrev MT := Env → Mu → (Bool → Mu → Prop) → Prop
abbrev MA := Env → Mu → (List T → Mu → Prop) → Prop
def QE (K : PySem.W.Frag) (Tb : List NdefX.NTab) (H : Hp) (Q : VK) : PQ := fun t μ' => ∀ v H', TK K H H' → Rep K H' t v → RepH K Tb H' μ' → Q v H'
def LE (K : PySem.W.Frag) (Tb : List NdefX.NTab) (m : ME) : TE := fun σ H Q => ∃ τ μ, RepS K H τ σ ∧ RepH K Tb H μ ∧ m τ μ (QE K Tb H Q)
def LT (K : PySem.W.Frag) (Tb : List NdefX.NTab) (m : MT) : TT := fun σ H Q => ∃ τ μ, RepS K H τ σ ∧ RepH K Tb H μ ∧ m τ μ (fun b μ' => ∀ H', TK K H H' → RepH K Tb H' μ' → Q b H')
def LA (K : PySem.W.Frag) (Tb : List NdefX.NTab) (m : MA) : TA := fun σ H Q => ∃ τ μ, RepS K H τ σ ∧ RepH K Tb H μ ∧ m τ μ (fun ts μ' => ∀ vs H', TK K H H' → Reps K H' ts vs → RepH K Tb H' μ' → Q vs H')
def MonE (m : ME) : Prop := ∀ τ μ Q Q', (∀ t μ', Q t μ' → Q' t μ') → m τ μ Q → m τ μ Q'
def MonT (m : MT) : Prop := ∀ τ μ Q Q', (∀ t μ', Q t μ' → Q' t μ') → m τ μ Q → m τ μ Q'
def MonA (m : MA) : Prop := ∀ τ μ Q Q', (∀ t μ', Q t μ' → Q' t μ') → m τ μ Q → m τ μ Q'

theorem imp_PE {X : Cx} {e : Expr} {t t' : TE} (h : PE X e t) (hi : ∀ σ H Q, t' σ H Q → t σ H Q) : PE X e t' := ⟨fun pins s σ H Q I q => h.run pins s σ H Q I (hi _ _ _ q)⟩
theorem imp_PT {X : Cx} {e : Expr} {t t' : TT} (h : PT X e t) (hi : ∀ σ H Q, t' σ H Q → t σ H Q) : PT X e t' := ⟨fun pins s σ H Q I q => h.run pins s σ H Q I (hi _ _ _ q)⟩
theorem imp_PW {X : Cx} {e : Expr} {t t' : TT} (h : PW X e t) (hi : ∀ σ H Q, t' σ H Q → t σ H Q) : PW X e t' := ⟨fun whole pins s σ H Q I q => h.run whole pins s σ H Q I (hi _ _ _ q)⟩
theorem imp_PA {X : Cx} {e : List Expr} {t t' : TA} (h : PA X e t) (hi : ∀ σ H Q, t' σ H Q → t σ H Q) : PA X e t' := ⟨fun pos pins s σ H Q I q => h.run pos pins s σ H Q I (hi _ _ _ q)⟩
theorem imp_PS {X : Cx} {e : Stmt} {t t' : TS} (h : PS X e t) (hi : ∀ D σ H, t' D σ H → t D σ H) : PS X e t' := ⟨fun pins s σ H D I q => h.run pins s σ H D I (hi _ _ _ q)⟩
theorem imp_PSs {X : Cx} {e : List Stmt} {t t' : TS} (h : PSs X e t) (hi : ∀ D σ H, t' D σ H → t D σ H) : PSs X e t' := ⟨fun pins s σ H D I q => h.run pins s σ H D I (hi _ _ _ q)⟩
theorem imp_PG {X : Cx} {e : Expr} {t t' : TG} (h : PG X e t) (hi : ∀ v σ H Q, t' v σ H Q → t v σ H Q) : PG X e t' := ⟨fun pins s σ H v u Q I r q => h.run pins s σ H v u Q I r (hi _ _ _ _ q)⟩
theorem imp_PI {X : Cx} {tg e : Expr} {t t' : TI} (h : PI X tg e t) (hi : ∀ σ H Q, t' σ H Q → t σ H Q) : PI X tg e t' := ⟨fun pins s σ H R I q => h.run pins s σ H R I (hi _ _ _ q)⟩
end TV

/-! A small syntax and what is wanted ahead of it (weakest preconditions), over trees. -/
namespace TV
open PySem PySem.Spec PyProof.Rows L2

/-- built-in functions, called by name -/
inductive Bi where
  | len | int | max2 | min2 | abs | tuple | list | all | any | sum | dict | lenset | sorted
  deriving DecidableEq
/-- methods of built-in types -/
inductive Me where
  | append | extend | pop | get1 | get2 | join | index | setdefault
  deriving DecidableEq

/-- targets -/
inductive Tg where
  | nm (i : Nat)
  | tp (l : List Tg)

mutual
inductive E (F : Type) where
  | var (i : Nat)
  | non | bl (b : Bool) | int (i : Int) | str (x : Str)
  /-- a constant of the module -/
  | glob (x : Str) (t : T)
  | tup (es : Es F) | lst (es : Es F)
  | bin (o : Operator) (a b : E F)
  | neg (a : E F)
  | cmp (o : CmpOp) (a b : E F)
  | chain (o p : CmpOp) (a b c : E F)
  | isN (a : E F) | notN (a : E F)
  | isi (a : E F) (ty : String)
  | and (es : Es F) | or (es : Es F) | not (a : E F)
  | ite (c a b : E F)
  | ix (a i : E F)
  | sl (a : E F) (lo hi : Eo F)
  | rev (a : E F)
  | call (f : F) (es : Es F)
  | bi (b : Bi) (es : Es F)
  | me (m : Me) (o : E F) (es : Es F)
  /-- [elt for tg in sc if c], own: the slots of its own names -/
  | lc (elt : E F) (tg : Tg) (sc : Sc F) (c : Eo F) (own : List Nat)
  /-- {k: v for tg in sc if c} -/
  | dc (k v : E F) (tg : Tg) (sc : Sc F) (c : Eo F) (own : List Nat)
  | dnew
  | dnewT
  /-- o.f; cs: the classes that have it -/
  | fld (o : E F) (f : Str) (cs : List Str)
  /-- C(..) -/
  | make (c : Str) (g : F) (es : Es F)
  /-- o.m(..), by the classes that o may be of -/
  | mcall (o : E F) (m : Str) (tb : List (Str × F)) (es : Es F)
  /-- f(.., g): g made in this frame from the slots js -/
  | callC (g : F) (es : Es F) (js : List Nat) (mk : Addr → NdefX.NF)
  /-- g(..): g handed over, in slot i -/
  | callK (g : F) (i : Nat) (es : Es F) (ws : List T) (F0 : NdefX.NF)
  /-- f(.., g): g handed on -/
  | callH (g : F) (es : Es F) (ws : List T) (F0 : NdefX.NF)
inductive Es (F : Type) where
  | nil | cons (e : E F) (es : Es F)
inductive Eo (F : Type) where
  | none | some (e : E F)
/-- what is walked -/
inductive Sc (F : Type) where
  | val (e : E F) | rng1 (e : E F) | rng2 (a b : E F) | enum (e : E F) | zip (a b : E F)
end

mutual
inductive S (F : Type) where
  | ex (e : E F) | ret (e : E F) | retN | pass | brk | cont
  | set (i : Nat) (e : E F)
  | unp (gs : List Tg) (e : E F)
  | par (is : List Nat) (es : Es F)
  | sub (o i e : E F)
  | aug (i : Nat) (o : Operator) (e : E F)
  | ite (c : E F) (a b : Ss F)
  | whl (c : E F) (b : Ss F)
  | for (tg : Tg) (sc : Sc F) (b : Ss F)
  | delsl (o lo : E F)
  | sfld (o : E F) (f : Str) (e : E F) (cs : List Str)
  | afld (o : E F) (f : Str) (p : Operator) (e : E F) (cs : List Str)
  | ndef (i : Nat) (mk : Addr → NdefX.NF)
  | never
inductive Ss (F : Type) where
  | nil | cons (s : S F) (ss : Ss F)
end

/-! ### equality of trees (Python's ==) -/
mutual
def peq : T → T → Bool
  | .non, .non => true
  | .bl a, .bl b => a == b
  | .bl a, .int b => (if a then 1 else 0) == b
  | .int a, .bl b => a == (if b then 1 else 0)
  | .int a, .int b => a == b
  | .str a, .str b => a == b
  | .tup a, .tup b => peqs a b
  | _, _ => false
def peqs : List T → List T → Bool
  | [], [] => true
  | x :: xs, y :: ys => peq x y && peqs xs ys
  | _, _ => false
end
mutual
/-- how deep tuples are within one another -/
def T.depth : T → Nat
  | .tup l => depths l + 1
  | _ => 0
def depths : List T → Nat
  | [] => 0
  | x :: xs => max (T.depth x) (depths xs)
end
mutual
/-- no mutable thing within -/
def T.pure : T → Bool
  | .ref _ => false
  | .rol _ => false
  | .tup l => pures l
  | _ => true
def pures : List T → Bool
  | [] => true
  | x :: xs => T.pure x && pures xs
end
/-- two trees may be compared -/
def EqOk (x y : T) : Prop := x.pure = true ∧ y.pure = true ∧ (x.depth ≤ 150 ∨ y.depth ≤ 150)

/-! ### what operations do -/
def addS (x y : T) (μ : Mu) (Q : PQ) : Prop := match x, y with
  | .int i, .int j => Q (.int (i + j)) μ
  | .str a, .str b => a.length + b.length ≤ sizeLine ∧ Q (.str (a ++ b)) μ
  | .tup a, .tup b => a.length + b.length ≤ sizeLine ∧ Q (.tup (a ++ b)) μ
  | .ref a, .ref b => ∃ xs ys, μ a = some (.lst xs) ∧ μ b = some (.lst ys) ∧ xs.length + ys.length ≤ sizeLine ∧ ∀ p, μ p = none → Q (.ref p) (mset μ p (.lst (xs ++ ys)))
  | _, _ => False
def mulS (x y : T) (μ : Mu) (Q : PQ) : Prop := match x, y with
  | .int i, .int j => CMul i j ∧ Q (.int (i * j)) μ
  | _, _ => False
def binS (o : Operator) (x y : T) (μ : Mu) (Q : PQ) : Prop := match o with
  | .Add => addS x y μ Q
  | .Sub => ∃ i j, x = .int i ∧ y = .int j ∧ Q (.int (i - j)) μ
  | .Mult => mulS x y μ Q
  | .FloorDiv => ∃ i j, x = .int i ∧ y = .int j ∧ CDiv i j ∧ Q (.int (i / j)) μ
  | .Mod => ∃ i j, x = .int i ∧ y = .int j ∧ 0 < j ∧ Q (.int (i % j)) μ
  | .Pow => ∃ i j, x = .int i ∧ y = .int j ∧ CPow i j ∧ Q (.int (i ^ j.toNat)) μ
  | _ => False
def flatT : T → Bool
  | .non | .bl _ | .int _ | .str _ => true
  | _ => false
/-- the items of a list or tuple -/
def itemsOf (μ : Mu) : T → Option (List T)
  | .tup l => some l
  | .rol l => some l
  | .ref a => match μ a with
    | some (.lst l) => some l
    | _ => none
  | _ => none
def strIn (i j : Str) : Bool := !(Builtin.Str.occurrences j i 0 j.length 1).isEmpty
def inS (neg : Bool) (x y : T) (μ : Mu) (Q : PQ) : Prop :=
  (∃ i j, x = .str i ∧ y = .str j ∧ Q (.bl (strIn i j ^^ neg)) μ) ∨
  (∃ l, itemsOf μ y = some l ∧ flatT x = true ∧ l.all flatT = true ∧ Q (.bl (l.any (fun z => peq z x) ^^ neg)) μ) ∨
  (∃ a kvs k, y = .ref a ∧ μ a = some (.dic kvs) ∧ (x = .int k ∧ Q (.bl (kvs.any (fun p => decide (p.1 = Sum.inl k)) ^^ neg)) μ)) ∨
  (∃ a kvs k, y = .ref a ∧ μ a = some (.dic kvs) ∧ (x = .str k ∧ Q (.bl (kvs.any (fun p => decide (p.1 = Sum.inr k)) ^^ neg)) μ))
def cmpI (p : Int → Int → Bool) (x y : T) (μ : Mu) (Q : PQ) : Prop := ∃ i j, x = .int i ∧ y = .int j ∧ Q (.bl (p i j)) μ
def cmpS (o : CmpOp) (x y : T) (μ : Mu) (Q : PQ) : Prop := match o with
  | .Eq => EqOk x y ∧ Q (.bl (peq x y)) μ
  | .NotEq => EqOk x y ∧ Q (.bl (!peq x y)) μ
  | .Lt => cmpI (fun i j => decide (i < j)) x y μ Q
  | .LtE => cmpI (fun i j => decide (i ≤ j)) x y μ Q
  | .Gt => cmpI (fun i j => decide (j < i)) x y μ Q
  | .GtE => cmpI (fun i j => decide (j ≤ i)) x y μ Q
  | .In => inS false x y μ Q
  | .NotIn => inS true x y μ Q
  | _ => False
def isNon : T → Bool
  | .non => true
  | _ => false
/-- isinstance with a built-in type -/
def isiS (ty : String) (x : T) (μ : Mu) : Option Bool := match x with
  | .non => some false
  | .bl _ => some (ty == "bool" || ty == "int")
  | .int _ => some (ty == "int")
  | .str _ => some (ty == "str")
  | .tup _ => some (ty == "tuple")
  | .rol _ => none
  | .ref a => match μ a with
    | some (.lst _) => some (ty == "list")
    | some (.dic _) => some (ty == "dict")
    | _ => none
def truthS (x : T) (μ : Mu) : Option Bool := match x with
  | .non => some false
  | .bl b => some b
  | .int i => some (i != 0)
  | .str x => some ((x.length : Int) != 0)
  | .tup l => some (!l.isEmpty)
  | .rol l => some (!l.isEmpty)
  | .ref a => match μ a with
    | some (.lst l) => some (!l.isEmpty)
    | some (.dic k) => some (!k.isEmpty)
    | _ => none
def lenS (x : T) (μ : Mu) : Option Nat := match x with
  | .str x => some x.length
  | .tup l => some l.length
  | .rol l => some l.length
  | .ref a => match μ a with
    | some (.lst l) => some l.length
    | some (.dic k) => some k.length
    | _ => none
  | _ => none
def keyOf : T → Option Key
  | .int i => some (.inl i)
  | .str x => some (.inr x)
  | _ => none
def lookT (kvs : List (Key × T)) (k : Key) : Option T := (kvs.find? (fun p => decide (p.1 = k))).map (·.2)
def putT : List (Key × T) → Key → T → List (Key × T)
  | [], k, v => [(k, v)]
  | (k', v') :: r, k, v => if k' = k then (k', v) :: r else (k', v') :: putT r k v
def ixS (a i : T) (μ : Mu) (Q : PQ) : Prop :=
  (∃ l k t, itemsOf μ a = some l ∧ i = .int k ∧ atI l k = some t ∧ Q t μ) ∨
  (∃ z k c, a = .str z ∧ i = .int k ∧ atI z.cps.toList k = some c ∧ Q (.str ⟨#[c]⟩) μ) ∨
  (∃ d kvs k t, a = .ref d ∧ μ d = some (.dic kvs) ∧ keyOf i = some k ∧ lookT kvs k = some t ∧ Q t μ)
def cutL {α : Type} (xs : List α) (lo hi : Option Int) : List α := (xs.drop (HT.sIx xs.length 0 lo)).take (HT.sIx xs.length xs.length hi - HT.sIx xs.length 0 lo)
def slS (a : T) (lo hi : Option Int) (μ : Mu) (Q : PQ) : Prop := match a with
  | .tup l => Q (.tup (cutL l lo hi)) μ
  | .rol l => ∀ p, μ p = none → Q (.ref p) (mset μ p (.lst (cutL l lo hi)))
  | .ref d => ∃ l, μ d = some (.lst l) ∧ ∀ p, μ p = none → Q (.ref p) (mset μ p (.lst (cutL l lo hi)))
  | _ => False
def revS (a : T) (μ : Mu) (Q : PQ) : Prop := match a with
  | .tup l => Q (.tup l.reverse) μ
  | .ref d => ∃ l, μ d = some (.lst l) ∧ ∀ p, μ p = none → Q (.ref p) (mset μ p (.lst l.reverse))
  | _ => False
def blsOf : List T → Option (List Bool)
  | [] => some []
  | .bl b :: r => (blsOf r).map (b :: ·)
  | _ :: _ => none
def intsOf : List T → Option (List Int)
  | [] => some []
  | .int b :: r => (intsOf r).map (b :: ·)
  | _ :: _ => none
def strsOf : List T → Option (List Str)
  | [] => some []
  | .str b :: r => (strsOf r).map (b :: ·)
  | _ :: _ => none
/-- pairs with keys of a dict -/
def pairsOf : List T → Option (List (Key × T))
  | [] => some []
  | .tup [k, v] :: r => match keyOf k, pairsOf r with
    | some k, some ps => some ((k, v) :: ps)
    | _, _ => none
  | _ :: _ => none
def dictOf (ps : List (Key × T)) : List (Key × T) := ps.foldl (fun d p => putT d p.1 p.2) []
def biLen (xs : List T) (μ : Mu) (Q : PQ) : Prop := match xs with
  | [x] => ∃ n, lenS x μ = some n ∧ Q (.int n) μ
  | _ => False
def biInt (xs : List T) (μ : Mu) (Q : PQ) : Prop := match xs with
  | [.int i] => Q (.int i) μ
  | [.bl b] => Q (.int (if b then 1 else 0)) μ
  | _ => False
def biII (f : Int → Int → Int) (xs : List T) (μ : Mu) (Q : PQ) : Prop := match xs with
  | [.int i, .int j] => Q (.int (f i j)) μ
  | _ => False
def biAbs (xs : List T) (μ : Mu) (Q : PQ) : Prop := match xs with
  | [.int i] => Q (.int (if i < 0 then -i else i)) μ
  | _ => False
def biTuple (xs : List T) (μ : Mu) (Q : PQ) : Prop := match xs with
  | [x] => ∃ l, itemsOf μ x = some l ∧ Q (.tup l) μ
  | _ => False
def biList (xs : List T) (μ : Mu) (Q : PQ) : Prop := match xs with
  | [x] => ∃ l, itemsOf μ x = some l ∧ ∀ p, μ p = none → Q (.ref p) (mset μ p (.lst l))
  | _ => False
def biBls (f : List Bool → Bool) (xs : List T) (μ : Mu) (Q : PQ) : Prop := match xs with
  | [.ref a] => ∃ l bs, μ a = some (.lst l) ∧ blsOf l = some bs ∧ Q (.bl (f bs)) μ
  | _ => False
def biSum (xs : List T) (μ : Mu) (Q : PQ) : Prop := match xs with
  | [.ref a] => ∃ l ns, μ a = some (.lst l) ∧ intsOf l = some ns ∧ Q (.int ns.sum) μ
  | _ => False
/-- the different ones, as they are first met -/
def metS (acc : List Str) (x : Str) : List Str := if x ∈ acc then acc else acc ++ [x]
def seen (zs : List Str) : List Str := zs.foldl metS []
def biLenset (xs : List T) (μ : Mu) (Q : PQ) : Prop := match xs with
  | [.ref a] => ∃ l zs, μ a = some (.lst l) ∧ strsOf l = some zs ∧ zs.length ≤ 1000 ∧ Q (.int ((seen zs).length : Nat)) μ
  | _ => False
/-- pairs of ints, sorted -/
def pairI (p : Int × Int) : T := .tup [.int p.1, .int p.2]
def SrtI (ks : List (Int × Int)) : Prop := ks.Pairwise fun x y => SrtO.lexB y x = false
def biSorted (xs : List T) (μ : Mu) (Q : PQ) : Prop := match xs with
  | [.ref a] => (∃ ks : List (Int × Int), μ a = some (.lst (ks.map pairI)) ∧ ∀ ks' p, ks'.Perm ks → SrtI ks' → μ p = none → Q (.ref p) (mset μ p (.lst (ks'.map pairI))))
  | _ => False
def biDict (xs : List T) (μ : Mu) (Q : PQ) : Prop := match xs with
  | [.tup l] => ∃ ps, pairsOf l = some ps ∧ ∀ p, μ p = none → Q (.ref p) (mset μ p (.dic (dictOf ps)))
  | _ => False
def biS (b : Bi) (xs : List T) (μ : Mu) (Q : PQ) : Prop := match b with
  | .len => biLen xs μ Q
  | .int => biInt xs μ Q
  | .max2 => biII (fun i j => if j > i then j else i) xs μ Q
  | .min2 => biII (fun i j => if j < i then j else i) xs μ Q
  | .abs => biAbs xs μ Q
  | .tuple => biTuple xs μ Q
  | .list => biList xs μ Q
  | .all => biBls (fun bs => bs.all id) xs μ Q
  | .any => biBls (fun bs => bs.any id) xs μ Q
  | .sum => biSum xs μ Q
  | .lenset => biLenset xs μ Q
  | .dict => biDict xs μ Q
  | .sorted => biSorted xs μ Q
/-- texts one behind another -/
def catS : List Str → Str
  | [] => ⟨#[]⟩
  | x :: xs => x ++ catS xs
def meAppend (a : Addr) (xs : List T) (μ : Mu) (Q : PQ) : Prop := match xs with
  | [x] => ∃ l, μ a = some (.lst l) ∧ l.length < sizeLine ∧ Q .non (mset μ a (.lst (l ++ [x])))
  | _ => False
def meExtend (a : Addr) (xs : List T) (μ : Mu) (Q : PQ) : Prop := match xs with
  | [x] => ∃ l r, μ a = some (.lst l) ∧ itemsOf μ x = some r ∧ l.length + r.length ≤ sizeLine ∧ Q .non (mset μ a (.lst (l ++ r)))
  | _ => False
def mePop (a : Addr) (xs : List T) (μ : Mu) (Q : PQ) : Prop := match xs with
  | [] => ∃ l x, μ a = some (.lst l) ∧ l[l.length - 1]? = some x ∧ Q x (mset μ a (.lst l.dropLast))
  | _ => False
def meGet1 (a : Addr) (xs : List T) (μ : Mu) (Q : PQ) : Prop := match xs with
  | [x] => ∃ kvs k, μ a = some (.dic kvs) ∧ keyOf x = some k ∧ Q ((lookT kvs k).getD .non) μ
  | _ => False
def meGet2 (a : Addr) (xs : List T) (μ : Mu) (Q : PQ) : Prop := match xs with
  | [x, d] => ∃ kvs k, μ a = some (.dic kvs) ∧ keyOf x = some k ∧ Q ((lookT kvs k).getD d) μ
  | _ => False
def meJoin (s : Str) (xs : List T) (μ : Mu) (Q : PQ) : Prop := match xs with
  | [.ref a] => ∃ l zs, μ a = some (.lst l) ∧ strsOf l = some zs ∧ s = ⟨#[]⟩ ∧ (zs.map Str.length).sum ≤ sizeLine ∧ Q (.str (catS zs)) μ
  | _ => False
def meIndex (a : Addr) (xs : List T) (μ : Mu) (Q : PQ) : Prop := match xs with
  | [x] => ∃ l j z, μ a = some (.lst l) ∧ flatT x = true ∧ l.all flatT = true ∧ l[j]? = some z ∧ peq z x = true ∧ (∀ m z', m < j → l[m]? = some z' → peq z' x = false) ∧ Q (.int (j : Nat)) μ
  | _ => False
def meSetd (a : Addr) (xs : List T) (μ : Mu) (Q : PQ) : Prop := match xs with
  | [x, d] => ∃ kvs k, μ a = some (.dic kvs) ∧ keyOf x = some k ∧ kvs.length < 1000000 ∧ (match lookT kvs k with
    | some t => Q t μ
    | none => Q d (mset μ a (.dic (putT kvs k d))))
  | _ => False
def meS (m : Me) (o : T) (xs : List T) (μ : Mu) (Q : PQ) : Prop := match m, o with
  | .append, .ref a => meAppend a xs μ Q
  | .extend, .ref a => meExtend a xs μ Q
  | .pop, .ref a => mePop a xs μ Q
  | .get1, .ref a => meGet1 a xs μ Q
  | .get2, .ref a => meGet2 a xs μ Q
  | .index, .ref a => meIndex a xs μ Q
  | .setdefault, .ref a => meSetd a xs μ Q
  | .join, .str s => meJoin s xs μ Q
  | _, _ => False

/-- the method's object, ahead of the arguments -/
def meTy (m : Me) (o : T) (μ : Mu) : Prop := match m, o with
  | .append, .ref a => ∃ l, μ a = some (.lst l)
  | .extend, .ref a => ∃ l, μ a = some (.lst l)
  | .pop, .ref a => ∃ l, μ a = some (.lst l)
  | .index, .ref a => ∃ l, μ a = some (.lst l)
  | .get1, .ref a => ∃ l, μ a = some (.dic l)
  | .get2, .ref a => ∃ l, μ a = some (.dic l)
  | .setdefault, .ref a => ∃ l, μ a = some (.dic l)
  | .join, .str _ => True
  | _, _ => False

/-- attributes -/
def putA (f : Str) (t : T) : List (Str × T) → List (Str × T)
  | [] => [(f, t)]
  | (g, u) :: r => if g = f then (f, t) :: r else (g, u) :: putA f t r
/-! ### contracts -/
structure Con where
  pre : List T → Mu → Prop
  post : List T → Mu → T → Mu → Prop

/-! ### targets -/
mutual
def wTg : Tg → T → Env → (Env → Prop) → Prop
  | .nm i, t, τ, Q => Q (τ.set i (some t))
  | .tp gs, t, τ, Q => match t with
    | .tup l => wTgs gs l τ Q
    | _ => False
def wTgs : List Tg → List T → Env → (Env → Prop) → Prop
  | [], l, τ, Q => l = [] ∧ Q τ
  | g :: gs, l, τ, Q => match l with
    | x :: r => wTg g x τ (fun τ' => wTgs gs r τ' Q)
    | [] => False
end

/-- a tuple or a list is taken apart -/
def wUn (gs : List Tg) (t : T) (μ : Mu) (τ : Env) (Q : Env → Prop) : Prop := match t with
  | .ref a => ∃ l, μ a = some (.lst l) ∧ wTgs gs l τ Q
  | t => wTg (.tp gs) t τ Q
/-! ### expressions -/
abbrev MSc := Env → Mu → (List T → (Mu → Prop) → Mu → Prop) → Prop
def optC (c : Option MT) : MT := match c with
  | none => fun _ μ Q => Q true μ
  | some m => m
/-- the turns of a list comprehension; D: the new list -/
def lcL (tg : Tg) (c : MT) (elt : ME) (stays : Mu → Prop) (D : Addr) (τ : Env) (Q : Mu → Prop) : List T → List T → Mu → Prop
  | [], acc, μ => stays μ ∧ Q μ
  | x :: xs, acc, μ => stays μ ∧ wTg tg x τ fun τ' => c τ' μ fun b μ1 =>
      if b = true then elt τ' μ1 fun t μ2 => μ2 D = some (.lst acc) ∧ acc.length < sizeLine ∧ lcL tg c elt stays D τ Q xs (acc ++ [t]) (mset μ2 D (.lst (acc ++ [t])))
      else μ1 D = some (.lst acc) ∧ lcL tg c elt stays D τ Q xs acc μ1
def dcL (tg : Tg) (c : MT) (k v : ME) (stays : Mu → Prop) (D : Addr) (τ : Env) (Q : Mu → Prop) : List T → List (Key × T) → Mu → Prop
  | [], acc, μ => stays μ ∧ Q μ
  | x :: xs, acc, μ => stays μ ∧ wTg tg x τ fun τ' => c τ' μ fun b μ1 =>
      if b = true then k τ' μ1 fun kt μ2 => v τ' μ2 fun vt μ3 => ∃ key, keyOf kt = some key ∧ μ3 D = some (.dic acc) ∧ acc.length < 1000 ∧ dcL tg c k v stays D τ Q xs (putT acc key vt) (mset μ3 D (.dic (putT acc key vt)))
      else μ1 D = some (.dic acc) ∧ dcL tg c k v stays D τ Q xs acc μ1

section
variable {F : Type} (Φ : F → Con)
def callS (f : F) (ts : List T) (μ : Mu) (Q : PQ) : Prop := (Φ f).pre ts μ ∧ ∀ t μ', (Φ f).post ts μ t μ' → Q t μ'
def lim62 (j : Int) : Prop := -(2 ^ 62) ≤ j ∧ j < 2 ^ 62
mutual
def wE : E F → ME
  | .var i => fun τ μ Q => ∃ t, τ[i]? = some (some t) ∧ Q t μ
  | .non => fun _ μ Q => Q .non μ
  | .bl b => fun _ μ Q => Q (.bl b) μ
  | .int i => fun _ μ Q => Q (.int i) μ
  | .str x => fun _ μ Q => Q (.str x) μ
  | .glob _ t => fun _ μ Q => Q t μ
  | .tup es => fun τ μ Q => wEs es τ μ fun ts μ1 => ts.length ≤ sizeLine ∧ Q (.tup ts) μ1
  | .lst es => fun τ μ Q => wEs es τ μ fun ts μ1 => ts.length ≤ sizeLine ∧ ∀ p, μ1 p = none → Q (.ref p) (mset μ1 p (.lst ts))
  | .bin o a b => fun τ μ Q => wE a τ μ fun x μ1 => wE b τ μ1 fun y μ2 => binS o x y μ2 Q
  | .neg a => fun τ μ Q => wE a τ μ fun x μ1 => ∃ i, x = .int i ∧ Q (.int (-i)) μ1
  | .cmp o a b => fun τ μ Q => wE a τ μ fun x μ1 => wE b τ μ1 fun y μ2 => cmpS o x y μ2 Q
  | .chain o p a b c => fun τ μ Q => wE a τ μ fun x μ1 => wE b τ μ1 fun y μ2 => cmpS o x y μ2 fun r μ3 => ∃ k, r = .bl k ∧ (if k = true then wE c τ μ3 fun z μ4 => cmpS p y z μ4 Q else Q (.bl false) μ3)
  | .isN a => fun τ μ Q => wE a τ μ fun x μ1 => Q (.bl (isNon x)) μ1
  | .notN a => fun τ μ Q => wE a τ μ fun x μ1 => Q (.bl (!isNon x)) μ1
  | .isi a ty => fun τ μ Q => wE a τ μ fun x μ1 => ∃ b, isiS ty x μ1 = some b ∧ Q (.bl b) μ1
  | .and es => fun τ μ Q => wAnd es τ μ Q
  | .or es => fun τ μ Q => wOr es τ μ Q
  | .not a => fun τ μ Q => wE a τ μ fun x μ1 => ∃ k, x = .bl k ∧ Q (.bl (!k)) μ1
  | .ite c a b => fun τ μ Q => wT c τ μ fun k μ1 => if k = true then wE a τ μ1 Q else wE b τ μ1 Q
  | .ix a i => fun τ μ Q => wE a τ μ fun x μ1 => wE i τ μ1 fun y μ2 => ixS x y μ2 Q
  | .sl a lo hi => fun τ μ Q => wE a τ μ fun x μ1 => wEo lo τ μ1 fun l μ2 => wEo hi τ μ2 fun h μ3 => slS x l h μ3 Q
  | .rev a => fun τ μ Q => wE a τ μ fun x μ1 => revS x μ1 Q
  | .call f es => fun τ μ Q => wEs es τ μ fun ts μ1 => callS Φ f ts μ1 Q
  | .bi b es => fun τ μ Q => wEs es τ μ fun ts μ1 => biS b ts μ1 Q
  | .me m o es => fun τ μ Q => wE o τ μ fun x μ1 => meTy m x μ1 ∧ wEs es τ μ1 fun ts μ2 => meS m x ts μ2 Q
  | .lc elt tg sc c own => fun τ μ Q => wSc sc τ μ fun its stays μ1 => ∀ D, μ1 D = none → lcL tg (wEc c) (wE elt) stays D (wipeT τ own) (Q (.ref D)) its [] (mset μ1 D (.lst []))
  | .dc k v tg sc c own => fun τ μ Q => wSc sc τ μ fun its stays μ1 => ∀ D, μ1 D = none → dcL tg (wEc c) (wE k) (wE v) stays D (wipeT τ own) (Q (.ref D)) its [] (mset μ1 D (.dic []))
  | .dnew => fun _ μ Q => ∀ p, μ p = none → Q (.ref p) (mset μ p (.dic []))
  | .dnewT => fun _ μ Q => ∀ p, μ p = none → Q (.ref p) (mset μ p (.dit []))
  | .fld o f cs => fun τ μ Q => wE o τ μ fun x μ1 => ∃ a c fs t, x = .ref a ∧ μ1 a = some (.ins c fs) ∧ c ∈ cs ∧ fs.lookup f = some t ∧ Q t μ1
  | .make c g es => fun τ μ Q => wEs es τ μ fun ts μ1 => ∀ p, μ1 p = none → callS Φ g (.ref p :: ts) (mset μ1 p (.ins c [])) fun t μ2 => t = .non ∧ Q (.ref p) μ2
  | .mcall o m tb es => fun τ μ Q => wE o τ μ fun x μ1 => ∃ a c fs g, x = .ref a ∧ μ1 a = some (.ins c fs) ∧ fs.lookup m = none ∧ tb.lookup c = some g ∧ wEs es τ μ1 fun ts μ2 => callS Φ g (x :: ts) μ2 Q
  | .callC g es js mk => fun τ μ Q => wEs es τ μ fun ts μ1 => ∃ us fa c ws, ts = us ++ [.ref fa] ∧ μ1 fa = some (.fn (mk c)) ∧ js.map (fun j => τ[j]?) = ws.map (fun w => some (some w)) ∧ callS Φ g (ts ++ ws) μ1 Q
  | .callK g i es ws F0 => fun τ μ Q => ∃ fa, τ[i]? = some (some (.ref fa)) ∧ μ fa = some (.fn F0) ∧ wEs es τ μ fun ts μ1 => μ1 fa = some (.fn F0) ∧ callS Φ g (ts ++ ws) μ1 Q
  | .callH g es ws F0 => fun τ μ Q => wEs es τ μ fun ts μ1 => ∃ us fa, ts = us ++ [.ref fa] ∧ μ1 fa = some (.fn F0) ∧ callS Φ g (ts ++ ws) μ1 Q
def wEs : Es F → MA
  | .nil => fun _ μ Q => Q [] μ
  | .cons e es => fun τ μ Q => wE e τ μ fun t μ1 => wEs es τ μ1 fun ts μ2 => Q (t :: ts) μ2
/-- a part of a slice -/
def wEo : Eo F → Env → Mu → (Option Int → Mu → Prop) → Prop
  | .none => fun _ μ Q => Q none μ
  | .some e => fun τ μ Q => wE e τ μ fun t μ1 => ∃ i, t = .int i ∧ Q (some i) μ1
/-- a clause's test -/
def wEc : Eo F → MT
  | .none => fun _ μ Q => Q true μ
  | .some e => wT e
/-- a and b and .., as a value -/
def wAnd : Es F → ME
  | .nil => fun _ _ _ => False
  | .cons e .nil => wE e
  | .cons e (.cons f es) => fun τ μ Q => wE e τ μ fun x μ1 => ∃ k, x = .bl k ∧ (if k = true then wAnd (.cons f es) τ μ1 Q else Q (.bl false) μ1)
def wOr : Es F → ME
  | .nil => fun _ _ _ => False
  | .cons e .nil => wE e
  | .cons e (.cons f es) => fun τ μ Q => wE e τ μ fun x μ1 => ∃ k, x = .bl k ∧ (if k = true then Q (.bl true) μ1 else wOr (.cons f es) τ μ1 Q)
/-- tests -/
def wT : E F → MT
  | .and es => wTAnd es
  | .or es => wTOr es
  | .not a => fun τ μ Q => wT a τ μ fun k μ1 => Q (!k) μ1
  | .cmp o a b => fun τ μ Q => wE a τ μ fun x μ1 => wE b τ μ1 fun y μ2 => cmpS o x y μ2 fun r μ3 => ∃ k, r = .bl k ∧ Q k μ3
  | .chain o p a b c => fun τ μ Q => wE a τ μ fun x μ1 => wE b τ μ1 fun y μ2 => cmpS o x y μ2 fun r μ3 => ∃ k, r = .bl k ∧
      (if k = true then wE c τ μ3 fun z μ4 => cmpS p y z μ4 fun r' μ5 => ∃ k', r' = .bl k' ∧ Q k' μ5 else Q false μ3)
  | .isN a => fun τ μ Q => wE a τ μ fun x μ1 => Q (isNon x) μ1
  | .notN a => fun τ μ Q => wE a τ μ fun x μ1 => Q (!isNon x) μ1
  | .isi a ty => fun τ μ Q => wE a τ μ fun x μ1 => ∃ b, isiS ty x μ1 = some b ∧ Q b μ1
  | .var i => fun τ μ Q => ∃ t, τ[i]? = some (some t) ∧ ∃ k, truthS t μ = some k ∧ Q k μ
  | .ix a i => fun τ μ Q => wE a τ μ fun x μ1 => wE i τ μ1 fun y μ2 => ixS x y μ2 fun t μ3 => ∃ k, truthS t μ3 = some k ∧ Q k μ3
  | .call f es => fun τ μ Q => wEs es τ μ fun ts μ1 => callS Φ f ts μ1 fun t μ2 => ∃ k, truthS t μ2 = some k ∧ Q k μ2
  | .bi b es => fun τ μ Q => wEs es τ μ fun ts μ1 => biS b ts μ1 fun t μ2 => ∃ k, truthS t μ2 = some k ∧ Q k μ2
  | _ => fun _ _ _ => False
def wTAnd : Es F → MT
  | .nil => fun _ _ _ => False
  | .cons e .nil => wT e
  | .cons e (.cons f es) => fun τ μ Q => wT e τ μ fun k μ1 => if k = true then wTAnd (.cons f es) τ μ1 Q else Q false μ1
def wTOr : Es F → MT
  | .nil => fun _ _ _ => False
  | .cons e .nil => wT e
  | .cons e (.cons f es) => fun τ μ Q => wT e τ μ fun k μ1 => if k = true then Q true μ1 else wTOr (.cons f es) τ μ1 Q
def wSc : Sc F → MSc
  | .val e => fun τ μ Q => wE e τ μ fun t μ1 => match t with
    | .tup l => Q l (fun _ => True) μ1
    | .rol l => Q l (fun _ => True) μ1
    | .str x => Q (x.cps.toList.map fun c => .str ⟨#[c]⟩) (fun _ => True) μ1
    | .ref a => ∃ l, μ1 a = some (.lst l) ∧ Q l (fun μ => μ a = some (.lst l)) μ1
    | _ => False
  | .rng1 e => fun τ μ Q => wE e τ μ fun t μ1 => ∃ j, t = .int j ∧ lim62 j ∧ Q ((List.range j.toNat).map fun (n : Nat) => .int (n : Int)) (fun _ => True) μ1
  | .rng2 a b => fun τ μ Q => wE a τ μ fun t μ1 => wE b τ μ1 fun u μ2 => ∃ i j, t = .int i ∧ u = .int j ∧ lim62 i ∧ lim62 j ∧ Q ((List.range (j - i).toNat).map fun (n : Nat) => .int (i + n)) (fun _ => True) μ2
  | .enum e => fun τ μ Q => wE e τ μ fun t μ1 => match t with
    | .tup l => Q (l.zipIdx.map fun p => .tup [.int (p.2 : Nat), p.1]) (fun _ => True) μ1
    | .ref a => ∃ l, μ1 a = some (.lst l) ∧ Q (l.zipIdx.map fun p => .tup [.int (p.2 : Nat), p.1]) (fun μ => μ a = some (.lst l)) μ1
    | _ => False
  | .zip a b => fun τ μ Q => wE a τ μ fun t μ1 => wE b τ μ1 fun u μ2 => ∃ l r, t = .tup l ∧ u = .tup r ∧ Q (List.zipWith (fun x y => .tup [x, y]) l r) (fun _ => True) μ2
end

/-! ### statements -/
structure En where
  nx : Env → Mu → Prop
  rt : T → Mu → Prop
  bk : Env → Mu → Prop := fun _ _ => False
  ct : Env → Mu → Prop := fun _ _ => False
abbrev MS := En → Env → Mu → Prop
def whileL (c : MT) (b : MS) (D : En) : Nat → Env → Mu → Prop
  | 0, _, _ => False
  | n + 1, τ, μ => c τ μ fun k μ1 => if k = true then b { D with nx := whileL c b D n, ct := whileL c b D n, bk := D.nx } τ μ1 else D.nx τ μ1
def forL (tg : Tg) (stays : Mu → Prop) (b : MS) (D : En) : List T → Env → Mu → Prop
  | [], τ, μ => stays μ ∧ D.nx τ μ
  | x :: xs, τ, μ => stays μ ∧ wTg tg x τ fun τ' => b { D with nx := forL tg stays b D xs, ct := forL tg stays b D xs, bk := D.nx } τ' μ
def setsT (τ : Env) : List Nat → List T → Env
  | i :: is, t :: ts => setsT (τ.set i (some t)) is ts
  | _, _ => τ
mutual
def wS : S F → MS
  | .ex e => fun D τ μ => wE Φ e τ μ fun _ μ1 => D.nx τ μ1
  | .ret e => fun D τ μ => wE Φ e τ μ D.rt
  | .retN => fun D _ μ => D.rt .non μ
  | .pass => fun D τ μ => D.nx τ μ
  | .brk => fun D τ μ => D.bk τ μ
  | .cont => fun D τ μ => D.ct τ μ
  | .set i e => fun D τ μ => wE Φ e τ μ fun t μ1 => D.nx (τ.set i (some t)) μ1
  | .unp gs e => fun D τ μ => wE Φ e τ μ fun t μ1 => wUn gs t μ1 τ fun τ' => D.nx τ' μ1
  | .par is es => fun D τ μ => wEs Φ es τ μ fun ts μ1 => ts.length = is.length ∧ D.nx (setsT τ is ts) μ1
  | .sub o i e => fun D τ μ => wE Φ e τ μ fun t μ1 => wE Φ o τ μ1 fun x μ2 => wE Φ i τ μ2 fun k μ3 =>
      ∃ a, x = .ref a ∧ ((∃ l n j, μ3 a = some (.lst l) ∧ k = .int n ∧ ixN l.length n = some j ∧ D.nx τ (mset μ3 a (.lst (l.set j t)))) ∨
        (∃ kvs key, μ3 a = some (.dic kvs) ∧ keyOf k = some key ∧ kvs.length < 1000000 ∧ D.nx τ (mset μ3 a (.dic (putT kvs key t)))))
  | .aug i o e => fun D τ μ => ∃ x, τ[i]? = some (some x) ∧ wE Φ e τ μ fun y μ1 => ∃ n m, x = .int n ∧ y = .int m ∧
      (match o with
        | .Add => D.nx (τ.set i (some (.int (n + m)))) μ1
        | .Sub => D.nx (τ.set i (some (.int (n - m)))) μ1
        | _ => False)
  | .ite c a b => fun D τ μ => wT Φ c τ μ fun k μ1 => if k = true then wSs a D τ μ1 else wSs b D τ μ1
  | .whl c b => fun D τ μ => ∃ n, whileL (wT Φ c) (wSs b) D n τ μ
  | .for tg sc b => fun D τ μ => wSc Φ sc τ μ fun its stays μ1 => forL tg stays (wSs b) D its τ μ1
  | .delsl o lo => fun D τ μ => wE Φ o τ μ fun x μ1 => wE Φ lo τ μ1 fun k μ2 => ∃ a l n, x = .ref a ∧ μ2 a = some (.lst l) ∧ k = .int n ∧ 0 ≤ n ∧ n ≤ l.length ∧ D.nx τ (mset μ2 a (.lst (l.take n.toNat)))
  | .sfld o f e cs => fun D τ μ => wE Φ e τ μ fun t μ1 => wE Φ o τ μ1 fun x μ2 => ∃ a c fs, x = .ref a ∧ μ2 a = some (.ins c fs) ∧ c ∈ cs ∧ fs.length < 1000 ∧ D.nx τ (mset μ2 a (.ins c (putA f t fs)))
  | .afld o f p e cs => fun D τ μ => wE Φ o τ μ fun x μ1 => ∃ a c fs v, x = .ref a ∧ μ1 a = some (.ins c fs) ∧ c ∈ cs ∧ fs.lookup f = some v ∧ wE Φ e τ μ1 fun y μ2 => ∃ n m fs', v = .int n ∧ y = .int m ∧ μ2 a = some (.ins c fs') ∧ fs'.length < 1000 ∧
      (match p with
        | .Add => D.nx τ (mset μ2 a (.ins c (putA f (.int (n + m)) fs')))
        | .Sub => D.nx τ (mset μ2 a (.ins c (putA f (.int (n - m)) fs')))
        | _ => False)
  | .ndef i mk => fun D τ μ => ∀ c f, μ f = none → D.nx (τ.set i (some (.ref f))) (mset μ f (.fn (mk c)))
  | .never => fun _ _ _ => False
def wSs : Ss F → MS
  | .nil => fun D τ μ => D.nx τ μ
  | .cons s ss => fun D τ μ => wS s { D with nx := wSs ss D } τ μ
end
end
end TV

/-! What is wanted may be weakened. -/
namespace TV
open PySem PySem.Spec PyProof.Rows L2

abbrev Le (Q Q' : PQ) : Prop := ∀ t μ', Q t μ' → Q' t μ'
theorem addS_mono {x y : T} {μ : Mu} {Q Q' : PQ} (h : Le Q Q') (q : addS x y μ Q) : addS x y μ Q' := by
  unfold addS at q ⊢
  split <;> rename_i e1 <;> simp only at q
  · exact h _ _ q
  · exact ⟨q.1, h _ _ q.2⟩
  · exact ⟨q.1, h _ _ q.2⟩
  · obtain ⟨xs, ys, a, b, c, d⟩ := q
    exact ⟨xs, ys, a, b, c, fun p hp => h _ _ (d p hp)⟩
theorem mulS_mono {x y : T} {μ : Mu} {Q Q' : PQ} (h : Le Q Q') (q : mulS x y μ Q) : mulS x y μ Q' := by
  unfold mulS at q ⊢
  split <;> simp only at q
  · exact ⟨q.1, h _ _ q.2⟩
theorem binS_mono {o : Operator} {x y : T} {μ : Mu} {Q Q' : PQ} (h : Le Q Q') (q : binS o x y μ Q) : binS o x y μ Q' := by
  unfold binS at q ⊢
  cases o <;> simp only at q ⊢
  · exact addS_mono h q
  · obtain ⟨i, j, a, b, c⟩ := q; exact ⟨i, j, a, b, h _ _ c⟩
  · exact mulS_mono h q
  · obtain ⟨i, j, a, b, c, d⟩ := q; exact ⟨i, j, a, b, c, h _ _ d⟩
  · obtain ⟨i, j, a, b, c, d⟩ := q; exact ⟨i, j, a, b, c, h _ _ d⟩
  · obtain ⟨i, j, a, b, c, d⟩ := q; exact ⟨i, j, a, b, c, h _ _ d⟩
theorem inS_mono {n : Bool} {x y : T} {μ : Mu} {Q Q' : PQ} (h : Le Q Q') (q : inS n x y μ Q) : inS n x y μ Q' := by
  rcases q with ⟨i, j, a, b, c⟩ | ⟨l, a, b, c, d⟩ | ⟨a, kvs, k, b, c, d, e⟩ | ⟨a, kvs, k, b, c, d, e⟩
  · exact .inl ⟨i, j, a, b, h _ _ c⟩
  · exact .inr (.inl ⟨l, a, b, c, h _ _ d⟩)
  · exact .inr (.inr (.inl ⟨a, kvs, k, b, c, d, h _ _ e⟩))
  · exact .inr (.inr (.inr ⟨a, kvs, k, b, c, d, h _ _ e⟩))
theorem cmpI_mono {p : Int → Int → Bool} {x y : T} {μ : Mu} {Q Q' : PQ} (h : Le Q Q') (q : cmpI p x y μ Q) : cmpI p x y μ Q' := by
  obtain ⟨i, j, a, b, c⟩ := q; exact ⟨i, j, a, b, h _ _ c⟩
theorem cmpS_mono {o : CmpOp} {x y : T} {μ : Mu} {Q Q' : PQ} (h : Le Q Q') (q : cmpS o x y μ Q) : cmpS o x y μ Q' := by
  unfold cmpS at q ⊢
  cases o <;> simp only at q ⊢
  · exact ⟨q.1, h _ _ q.2⟩
  · exact ⟨q.1, h _ _ q.2⟩
  · exact cmpI_mono h q
  · exact cmpI_mono h q
  · exact cmpI_mono h q
  · exact cmpI_mono h q
  · exact inS_mono h q
  · exact inS_mono h q
theorem ixS_mono {a i : T} {μ : Mu} {Q Q' : PQ} (h : Le Q Q') (q : ixS a i μ Q) : ixS a i μ Q' := by
  rcases q with ⟨l, k, t, a, b, c, d⟩ | ⟨z, k, c, a, b, d, e⟩ | ⟨d, kvs, k, t, a, b, c, e, f⟩
  · exact .inl ⟨l, k, t, a, b, c, h _ _ d⟩
  · exact .inr (.inl ⟨z, k, c, a, b, d, h _ _ e⟩)
  · exact .inr (.inr ⟨d, kvs, k, t, a, b, c, e, h _ _ f⟩)
theorem slS_mono {a : T} {lo hi : Option Int} {μ : Mu} {Q Q' : PQ} (h : Le Q Q') (q : slS a lo hi μ Q) : slS a lo hi μ Q' := by
  unfold slS at q ⊢
  cases a <;> simp only at q ⊢
  · exact h _ _ q
  · obtain ⟨l, a, b⟩ := q; exact ⟨l, a, fun p hp => h _ _ (b p hp)⟩
  · exact fun p hp => h _ _ (q p hp)
theorem revS_mono {a : T} {μ : Mu} {Q Q' : PQ} (h : Le Q Q') (q : revS a μ Q) : revS a μ Q' := by
  unfold revS at q ⊢
  cases a <;> simp only at q ⊢
  · exact h _ _ q
  · obtain ⟨l, a, b⟩ := q; exact ⟨l, a, fun p hp => h _ _ (b p hp)⟩
theorem biS_mono {b : Bi} {xs : List T} {μ : Mu} {Q Q' : PQ} (h : Le Q Q') (q : biS b xs μ Q) : biS b xs μ Q' := by
  cases b <;> unfold biS at q ⊢ <;> simp only at q ⊢
  case len => unfold biLen at q ⊢; split at q <;> first | exact q.elim | (obtain ⟨n, a, c⟩ := q; exact ⟨n, a, h _ _ c⟩)
  case int => unfold biInt at q ⊢; split at q <;> first | exact h _ _ q | exact q.elim
  case max2 => unfold biII at q ⊢; split at q <;> first | exact h _ _ q | exact q.elim
  case min2 => unfold biII at q ⊢; split at q <;> first | exact h _ _ q | exact q.elim
  case abs => unfold biAbs at q ⊢; split at q <;> first | exact h _ _ q | exact q.elim
  case tuple => unfold biTuple at q ⊢; split at q <;> first | exact q.elim | (obtain ⟨n, a, c⟩ := q; exact ⟨n, a, h _ _ c⟩)
  case list => unfold biList at q ⊢; split at q <;> first | exact q.elim | (obtain ⟨n, a, c⟩ := q; exact ⟨n, a, fun p hp => h _ _ (c p hp)⟩)
  case all => unfold biBls at q ⊢; split at q <;> first | exact q.elim | (obtain ⟨n, m, a, c, d⟩ := q; exact ⟨n, m, a, c, h _ _ d⟩)
  case any => unfold biBls at q ⊢; split at q <;> first | exact q.elim | (obtain ⟨n, m, a, c, d⟩ := q; exact ⟨n, m, a, c, h _ _ d⟩)
  case sum => unfold biSum at q ⊢; split at q <;> first | exact q.elim | (obtain ⟨n, m, a, c, d⟩ := q; exact ⟨n, m, a, c, h _ _ d⟩)
  case dict => unfold biDict at q ⊢; split at q <;> first | exact q.elim | (obtain ⟨n, a, c⟩ := q; exact ⟨n, a, fun p hp => h _ _ (c p hp)⟩)
  case sorted => unfold biSorted at q ⊢; split at q <;> first | exact q.elim | (obtain ⟨n, a, c⟩ := q; exact ⟨n, a, fun k p h1 h2 hp => h _ _ (c k p h1 h2 hp)⟩)
  case lenset => unfold biLenset at q ⊢; split at q <;> first | exact q.elim | (obtain ⟨n, m, a, c, e, d⟩ := q; exact ⟨n, m, a, c, e, h _ _ d⟩)
theorem meS_mono {m : Me} {o : T} {xs : List T} {μ : Mu} {Q Q' : PQ} (h : Le Q Q') (q : meS m o xs μ Q) : meS m o xs μ Q' := by
  unfold meS at q ⊢
  split at q
  · unfold meAppend at q ⊢; split at q <;> first | exact q.elim | (obtain ⟨l, a, b, c⟩ := q; exact ⟨l, a, b, h _ _ c⟩)
  · unfold meExtend at q ⊢; split at q <;> first | exact q.elim | (obtain ⟨l, r, a, b, c, d⟩ := q; exact ⟨l, r, a, b, c, h _ _ d⟩)
  · unfold mePop at q ⊢; split at q <;> first | exact q.elim | (obtain ⟨l, x, a, b, c⟩ := q; exact ⟨l, x, a, b, h _ _ c⟩)
  · unfold meGet1 at q ⊢; split at q <;> first | exact q.elim | (obtain ⟨l, x, a, b, c⟩ := q; exact ⟨l, x, a, b, h _ _ c⟩)
  · unfold meGet2 at q ⊢; split at q <;> first | exact q.elim | (obtain ⟨l, x, a, b, c⟩ := q; exact ⟨l, x, a, b, h _ _ c⟩)
  · unfold meIndex at q ⊢; split at q <;> first | exact q.elim | (obtain ⟨l, j, z, a, b, c, d, e, f, g⟩ := q; exact ⟨l, j, z, a, b, c, d, e, f, h _ _ g⟩)
  · unfold meSetd at q ⊢
    split at q
    · obtain ⟨kvs, k, a, b, c, d⟩ := q
      refine ⟨kvs, k, a, b, c, ?_⟩
      cases hk : lookT kvs k <;> rw [hk] at d <;> exact h _ _ d
    · exact q.elim
  · unfold meJoin at q ⊢; split at q <;> first | exact q.elim | (obtain ⟨l, x, a, b, c, d, e⟩ := q; exact ⟨l, x, a, b, c, d, h _ _ e⟩)
  · exact q.elim

mutual
theorem wTg_mono {Q Q' : Env → Prop} (h : ∀ τ, Q τ → Q' τ) : ∀ (g : Tg) (t : T) (τ : Env), wTg g t τ Q → wTg g t τ Q'
  | .nm i, t, τ, q => by unfold wTg at q ⊢; exact h _ q
  | .tp gs, t, τ, q => by
    unfold wTg at q ⊢
    cases t <;> simp only at q ⊢
    exact wTgs_mono h gs _ _ q
theorem wTgs_mono {Q Q' : Env → Prop} (h : ∀ τ, Q τ → Q' τ) : ∀ (gs : List Tg) (l : List T) (τ : Env), wTgs gs l τ Q → wTgs gs l τ Q'
  | [], l, τ, q => by unfold wTgs at q ⊢; exact ⟨q.1, h _ q.2⟩
  | g :: gs, l, τ, q => by
    unfold wTgs at q ⊢
    cases l with
    | nil => exact q
    | cons x r => exact wTg_mono (fun τ' q' => wTgs_mono h gs r τ' q') g x τ q
end
theorem wUn_mono {Q Q' : Env → Prop} (h : ∀ τ, Q τ → Q' τ) {gs : List Tg} {t : T} {μ : Mu} {τ : Env} (q : wUn gs t μ τ Q) : wUn gs t μ τ Q' := by
  unfold wUn at q ⊢
  cases t <;> simp only at q ⊢ <;> first | exact wTg_mono h _ _ _ q | (obtain ⟨l, e, q⟩ := q; exact ⟨l, e, wTgs_mono h _ _ _ q⟩)
abbrev MonSc (m : MSc) : Prop := ∀ τ μ (Q Q' : List T → (Mu → Prop) → Mu → Prop), (∀ l s μ', Q l s μ' → Q' l s μ') → m τ μ Q → m τ μ Q'
theorem lcL_mono {tg : Tg} {c : MT} {elt : ME} {stays : Mu → Prop} {D : Addr} {τ : Env} {Q Q' : Mu → Prop} (hc : MonT c) (he : MonE elt) (h : ∀ μ, Q μ → Q' μ) :
    ∀ (xs acc : List T) (μ : Mu), lcL tg c elt stays D τ Q xs acc μ → lcL tg c elt stays D τ Q' xs acc μ
  | [], acc, μ, q => by unfold lcL at q ⊢; exact ⟨q.1, h _ q.2⟩
  | x :: xs, acc, μ, q => by
    unfold lcL at q ⊢
    refine ⟨q.1, wTg_mono (fun τ' q => hc _ _ _ _ (fun b μ1 q => ?_) q) _ _ _ q.2⟩
    cases b
    · simp only [Bool.false_eq_true, if_false] at q ⊢; exact ⟨q.1, lcL_mono hc he h _ _ _ q.2⟩
    · simp only [if_true] at q ⊢
      exact he _ _ _ _ (fun t μ2 q => ⟨q.1, q.2.1, lcL_mono hc he h _ _ _ q.2.2⟩) q
theorem dcL_mono {tg : Tg} {c : MT} {k v : ME} {stays : Mu → Prop} {D : Addr} {τ : Env} {Q Q' : Mu → Prop} (hc : MonT c) (hk : MonE k) (hv : MonE v) (h : ∀ μ, Q μ → Q' μ) :
    ∀ (xs : List T) (acc : List (Key × T)) (μ : Mu), dcL tg c k v stays D τ Q xs acc μ → dcL tg c k v stays D τ Q' xs acc μ
  | [], acc, μ, q => by unfold dcL at q ⊢; exact ⟨q.1, h _ q.2⟩
  | x :: xs, acc, μ, q => by
    unfold dcL at q ⊢
    refine ⟨q.1, wTg_mono (fun τ' q => hc _ _ _ _ (fun b μ1 q => ?_) q) _ _ _ q.2⟩
    cases b
    · simp only [Bool.false_eq_true, if_false] at q ⊢; exact ⟨q.1, dcL_mono hc hk hv h _ _ _ q.2⟩
    · simp only [if_true] at q ⊢
      refine hk _ _ _ _ (fun t μ2 q => hv _ _ _ _ (fun t μ2 q => ?_) q) q
      obtain ⟨key, a, b, c', d⟩ := q
      exact ⟨key, a, b, c', dcL_mono hc hk hv h _ _ _ d⟩

section
variable {F : Type} {Φ : F → Con}
theorem callS_mono {f : F} {ts : List T} {μ : Mu} {Q Q' : PQ} (h : Le Q Q') (q : callS Φ f ts μ Q) : callS Φ f ts μ Q' := ⟨q.1, fun t μ' p => h _ _ (q.2 t μ' p)⟩
mutual
theorem wE_mono : ∀ e : E F, MonE (wE Φ e)
  | .var i, τ, μ, Q, Q', h, q => by unfold wE at q ⊢; obtain ⟨t, a, b⟩ := q; exact ⟨t, a, h _ _ b⟩
  | .non, τ, μ, Q, Q', h, q => by unfold wE at q ⊢; exact h _ _ q
  | .bl _, τ, μ, Q, Q', h, q => by unfold wE at q ⊢; exact h _ _ q
  | .int _, τ, μ, Q, Q', h, q => by unfold wE at q ⊢; exact h _ _ q
  | .str _, τ, μ, Q, Q', h, q => by unfold wE at q ⊢; exact h _ _ q
  | .glob _ _, τ, μ, Q, Q', h, q => by unfold wE at q ⊢; exact h _ _ q
  | .tup es, τ, μ, Q, Q', h, q => by unfold wE at q ⊢; exact wEs_mono es _ _ _ _ (fun ts μ1 q => ⟨q.1, h _ _ q.2⟩) q
  | .lst es, τ, μ, Q, Q', h, q => by unfold wE at q ⊢; exact wEs_mono es _ _ _ _ (fun ts μ1 q => ⟨q.1, fun p hp => h _ _ (q.2 p hp)⟩) q
  | .bin o a b, τ, μ, Q, Q', h, q => by unfold wE at q ⊢; exact wE_mono a _ _ _ _ (fun x μ1 q => wE_mono b _ _ _ _ (fun y μ2 q => binS_mono h q) q) q
  | .neg a, τ, μ, Q, Q', h, q => by unfold wE at q ⊢; exact wE_mono a _ _ _ _ (fun x μ1 ⟨i, e, q⟩ => ⟨i, e, h _ _ q⟩) q
  | .cmp o a b, τ, μ, Q, Q', h, q => by unfold wE at q ⊢; exact wE_mono a _ _ _ _ (fun x μ1 q => wE_mono b _ _ _ _ (fun y μ2 q => cmpS_mono h q) q) q
  | .chain o p a b c, τ, μ, Q, Q', h, q => by
    unfold wE at q ⊢
    refine wE_mono a _ _ _ _ (fun x μ1 q => wE_mono b _ _ _ _ (fun y μ2 q => cmpS_mono (fun r μ3 ⟨k, e, q⟩ => ⟨k, e, ?_⟩) q) q) q
    cases k
    · simp only [Bool.false_eq_true, if_false] at q ⊢; exact h _ _ q
    · simp only [if_true] at q ⊢; exact wE_mono c _ _ _ _ (fun z μ4 q => cmpS_mono h q) q
  | .isN a, τ, μ, Q, Q', h, q => by unfold wE at q ⊢; exact wE_mono a _ _ _ _ (fun x μ1 q => h _ _ q) q
  | .notN a, τ, μ, Q, Q', h, q => by unfold wE at q ⊢; exact wE_mono a _ _ _ _ (fun x μ1 q => h _ _ q) q
  | .isi a ty, τ, μ, Q, Q', h, q => by unfold wE at q ⊢; exact wE_mono a _ _ _ _ (fun x μ1 ⟨b, e, q⟩ => ⟨b, e, h _ _ q⟩) q
  | .and es, τ, μ, Q, Q', h, q => by unfold wE at q ⊢; exact wAnd_mono es _ _ _ _ h q
  | .or es, τ, μ, Q, Q', h, q => by unfold wE at q ⊢; exact wOr_mono es _ _ _ _ h q
  | .not a, τ, μ, Q, Q', h, q => by unfold wE at q ⊢; exact wE_mono a _ _ _ _ (fun x μ1 ⟨i, e, q⟩ => ⟨i, e, h _ _ q⟩) q
  | .ite c a b, τ, μ, Q, Q', h, q => by
    unfold wE at q ⊢
    refine wT_mono c _ _ _ _ (fun k μ1 q => ?_) q
    cases k
    · simp only [Bool.false_eq_true, if_false] at q ⊢; exact wE_mono b _ _ _ _ h q
    · simp only [if_true] at q ⊢; exact wE_mono a _ _ _ _ h q
  | .ix a b, τ, μ, Q, Q', h, q => by unfold wE at q ⊢; exact wE_mono a _ _ _ _ (fun x μ1 q => wE_mono b _ _ _ _ (fun y μ2 q => ixS_mono h q) q) q
  | .sl a lo hi, τ, μ, Q, Q', h, q => by
    unfold wE at q ⊢
    exact wE_mono a _ _ _ _ (fun x μ1 q => wEo_mono lo _ _ _ _ (fun y μ2 q => wEo_mono hi _ _ _ _ (fun y μ2 q => slS_mono h q) q) q) q
  | .rev a, τ, μ, Q, Q', h, q => by unfold wE at q ⊢; exact wE_mono a _ _ _ _ (fun x μ1 q => revS_mono h q) q
  | .call f es, τ, μ, Q, Q', h, q => by unfold wE at q ⊢; exact wEs_mono es _ _ _ _ (fun x μ1 q => callS_mono h q) q
  | .bi f es, τ, μ, Q, Q', h, q => by unfold wE at q ⊢; exact wEs_mono es _ _ _ _ (fun x μ1 q => biS_mono h q) q
  | .me m o es, τ, μ, Q, Q', h, q => by unfold wE at q ⊢; exact wE_mono o _ _ _ _ (fun x μ1 q => ⟨q.1, wEs_mono es _ _ _ _ (fun x μ1 q => meS_mono h q) q.2⟩) q
  | .lc elt tg sc c own, τ, μ, Q, Q', h, q => by
    unfold wE at q ⊢
    exact wSc_mono sc _ _ _ _ (fun its st μ1 q D hD => lcL_mono (wEc_mono c) (wE_mono elt) (fun μ q => h _ _ q) _ _ _ (q D hD)) q
  | .dc k v tg sc c own, τ, μ, Q, Q', h, q => by
    unfold wE at q ⊢
    exact wSc_mono sc _ _ _ _ (fun its st μ1 q D hD => dcL_mono (wEc_mono c) (wE_mono k) (wE_mono v) (fun μ q => h _ _ q) _ _ _ (q D hD)) q
  | .dnew, τ, μ, Q, Q', h, q => by unfold wE at q ⊢; exact fun p hp => h _ _ (q p hp)
  | .dnewT, τ, μ, Q, Q', h, q => by unfold wE at q ⊢; exact fun p hp => h _ _ (q p hp)
  | .fld o f cs, τ, μ, Q, Q', h, q => by
    unfold wE at q ⊢
    exact wE_mono o _ _ _ _ (fun x μ1 ⟨a, c, fs, t, e1, e2, e3, e4, q⟩ => ⟨a, c, fs, t, e1, e2, e3, e4, h _ _ q⟩) q
  | .make c g es, τ, μ, Q, Q', h, q => by
    unfold wE at q ⊢
    exact wEs_mono es _ _ _ _ (fun ts μ1 q p hp => callS_mono (fun t μ2 q => ⟨q.1, h _ _ q.2⟩) (q p hp)) q
  | .mcall o m tb es, τ, μ, Q, Q', h, q => by
    unfold wE at q ⊢
    exact wE_mono o _ _ _ _ (fun x μ1 ⟨a, c, fs, g, e1, e2, e3, e4, q⟩ => ⟨a, c, fs, g, e1, e2, e3, e4, wEs_mono es _ _ _ _ (fun ts μ2 q => callS_mono h q) q⟩) q
  | .callC g es js mk, τ, μ, Q, Q', h, q => by
    unfold wE at q ⊢
    exact wEs_mono es _ _ _ _ (fun ts μ1 ⟨us, fa, c, ws, e1, e2, e3, q⟩ => ⟨us, fa, c, ws, e1, e2, e3, callS_mono h q⟩) q
  | .callK g i es ws F0, τ, μ, Q, Q', h, q => by
    unfold wE at q ⊢
    obtain ⟨fa, e1, e2, q⟩ := q
    exact ⟨fa, e1, e2, wEs_mono es _ _ _ _ (fun ts μ1 q => ⟨q.1, callS_mono h q.2⟩) q⟩
  | .callH g es ws F0, τ, μ, Q, Q', h, q => by
    unfold wE at q ⊢
    exact wEs_mono es _ _ _ _ (fun ts μ1 ⟨us, fa, e1, e2, q⟩ => ⟨us, fa, e1, e2, callS_mono h q⟩) q
theorem wEs_mono : ∀ es : Es F, MonA (wEs Φ es)
  | .nil, τ, μ, Q, Q', h, q => by unfold wEs at q ⊢; exact h _ _ q
  | .cons e es, τ, μ, Q, Q', h, q => by unfold wEs at q ⊢; exact wE_mono e _ _ _ _ (fun x μ1 q => wEs_mono es _ _ _ _ (fun x μ1 q => h _ _ q) q) q
theorem wEo_mono : ∀ (e : Eo F) (τ : Env) (μ : Mu) (Q Q' : Option Int → Mu → Prop), (∀ t μ', Q t μ' → Q' t μ') → wEo Φ e τ μ Q → wEo Φ e τ μ Q'
  | .none, τ, μ, Q, Q', h, q => by unfold wEo at q ⊢; exact h _ _ q
  | .some e, τ, μ, Q, Q', h, q => by unfold wEo at q ⊢; exact wE_mono e _ _ _ _ (fun x μ1 ⟨i, e, q⟩ => ⟨i, e, h _ _ q⟩) q
theorem wEc_mono : ∀ (e : Eo F), MonT (wEc Φ e)
  | .none, τ, μ, Q, Q', h, q => by unfold wEc at q ⊢; exact h _ _ q
  | .some e, τ, μ, Q, Q', h, q => by unfold wEc at q ⊢; exact wT_mono e _ _ _ _ h q
theorem wAnd_mono : ∀ es : Es F, MonE (wAnd Φ es)
  | .nil, τ, μ, Q, Q', h, q => by unfold wAnd at q; exact q.elim
  | .cons e .nil, τ, μ, Q, Q', h, q => by unfold wAnd at q ⊢; exact wE_mono e _ _ _ _ h q
  | .cons e (.cons f es), τ, μ, Q, Q', h, q => by
    unfold wAnd at q ⊢
    refine wE_mono e _ _ _ _ (fun x μ1 ⟨k, e, q⟩ => ⟨k, e, ?_⟩) q
    cases k
    · simp only [Bool.false_eq_true, if_false] at q ⊢; exact h _ _ q
    · simp only [if_true] at q ⊢; exact wAnd_mono (.cons f es) _ _ _ _ h q
theorem wOr_mono : ∀ es : Es F, MonE (wOr Φ es)
  | .nil, τ, μ, Q, Q', h, q => by unfold wOr at q; exact q.elim
  | .cons e .nil, τ, μ, Q, Q', h, q => by unfold wOr at q ⊢; exact wE_mono e _ _ _ _ h q
  | .cons e (.cons f es), τ, μ, Q, Q', h, q => by
    unfold wOr at q ⊢
    refine wE_mono e _ _ _ _ (fun x μ1 ⟨k, e, q⟩ => ⟨k, e, ?_⟩) q
    cases k
    · simp only [Bool.false_eq_true, if_false] at q ⊢; exact wOr_mono (.cons f es) _ _ _ _ h q
    · simp only [if_true] at q ⊢; exact h _ _ q
theorem wT_mono : ∀ e : E F, MonT (wT Φ e)
  | .and es, τ, μ, Q, Q', h, q => by unfold wT at q ⊢; exact wTAnd_mono es _ _ _ _ h q
  | .or es, τ, μ, Q, Q', h, q => by unfold wT at q ⊢; exact wTOr_mono es _ _ _ _ h q
  | .not a, τ, μ, Q, Q', h, q => by unfold wT at q ⊢; exact wT_mono a _ _ _ _ (fun k μ1 q => h _ _ q) q
  | .cmp o a b, τ, μ, Q, Q', h, q => by unfold wT at q ⊢; exact wE_mono a _ _ _ _ (fun x μ1 q => wE_mono b _ _ _ _ (fun y μ2 q => cmpS_mono (fun r μ3 ⟨k, e, q⟩ => ⟨k, e, h _ _ q⟩) q) q) q
  | .chain o p a b c, τ, μ, Q, Q', h, q => by
    unfold wT at q ⊢
    refine wE_mono a _ _ _ _ (fun x μ1 q => wE_mono b _ _ _ _ (fun y μ2 q => cmpS_mono (fun r μ3 ⟨k, e, q⟩ => ⟨k, e, ?_⟩) q) q) q
    cases k
    · simp only [Bool.false_eq_true, if_false] at q ⊢; exact h _ _ q
    · simp only [if_true] at q ⊢; exact wE_mono c _ _ _ _ (fun z μ4 q => cmpS_mono (fun r μ3 ⟨k, e, q⟩ => ⟨k, e, h _ _ q⟩) q) q
  | .isN a, τ, μ, Q, Q', h, q => by unfold wT at q ⊢; exact wE_mono a _ _ _ _ (fun x μ1 q => h _ _ q) q
  | .notN a, τ, μ, Q, Q', h, q => by unfold wT at q ⊢; exact wE_mono a _ _ _ _ (fun x μ1 q => h _ _ q) q
  | .isi a ty, τ, μ, Q, Q', h, q => by unfold wT at q ⊢; exact wE_mono a _ _ _ _ (fun x μ1 ⟨b, e, q⟩ => ⟨b, e, h _ _ q⟩) q
  | .var i, τ, μ, Q, Q', h, q => by unfold wT at q ⊢; obtain ⟨t, a, k, b, c⟩ := q; exact ⟨t, a, k, b, h _ _ c⟩
  | .ix a b, τ, μ, Q, Q', h, q => by unfold wT at q ⊢; exact wE_mono a _ _ _ _ (fun x μ1 q => wE_mono b _ _ _ _ (fun y μ2 q => ixS_mono (fun t μ3 ⟨k, e, q⟩ => ⟨k, e, h _ _ q⟩) q) q) q
  | .call f es, τ, μ, Q, Q', h, q => by unfold wT at q ⊢; exact wEs_mono es _ _ _ _ (fun x μ1 q => callS_mono (fun t μ3 ⟨k, e, q⟩ => ⟨k, e, h _ _ q⟩) q) q
  | .bi f es, τ, μ, Q, Q', h, q => by unfold wT at q ⊢; exact wEs_mono es _ _ _ _ (fun x μ1 q => biS_mono (fun t μ3 ⟨k, e, q⟩ => ⟨k, e, h _ _ q⟩) q) q
  | .non, τ, μ, Q, Q', h, q => by unfold wT at q; exact q.elim
  | .bl _, τ, μ, Q, Q', h, q => by unfold wT at q; exact q.elim
  | .int _, τ, μ, Q, Q', h, q => by unfold wT at q; exact q.elim
  | .str _, τ, μ, Q, Q', h, q => by unfold wT at q; exact q.elim
  | .glob _ _, τ, μ, Q, Q', h, q => by unfold wT at q; exact q.elim
  | .tup _, τ, μ, Q, Q', h, q => by unfold wT at q; exact q.elim
  | .lst _, τ, μ, Q, Q', h, q => by unfold wT at q; exact q.elim
  | .bin _ _ _, τ, μ, Q, Q', h, q => by unfold wT at q; exact q.elim
  | .neg _, τ, μ, Q, Q', h, q => by unfold wT at q; exact q.elim
  | .ite _ _ _, τ, μ, Q, Q', h, q => by unfold wT at q; exact q.elim
  | .sl _ _ _, τ, μ, Q, Q', h, q => by unfold wT at q; exact q.elim
  | .rev _, τ, μ, Q, Q', h, q => by unfold wT at q; exact q.elim
  | .me _ _ _, τ, μ, Q, Q', h, q => by unfold wT at q; exact q.elim
  | .lc _ _ _ _ _, τ, μ, Q, Q', h, q => by unfold wT at q; exact q.elim
  | .dc _ _ _ _ _ _, τ, μ, Q, Q', h, q => by unfold wT at q; exact q.elim
  | .dnew, τ, μ, Q, Q', h, q => by unfold wT at q; exact q.elim
theorem wTAnd_mono : ∀ es : Es F, MonT (wTAnd Φ es)
  | .nil, τ, μ, Q, Q', h, q => by unfold wTAnd at q; exact q.elim
  | .cons e .nil, τ, μ, Q, Q', h, q => by unfold wTAnd at q ⊢; exact wT_mono e _ _ _ _ h q
  | .cons e (.cons f es), τ, μ, Q, Q', h, q => by
    unfold wTAnd at q ⊢
    refine wT_mono e _ _ _ _ (fun k μ1 q => ?_) q
    cases k
    · simp only [Bool.false_eq_true, if_false] at q ⊢; exact h _ _ q
    · simp only [if_true] at q ⊢; exact wTAnd_mono (.cons f es) _ _ _ _ h q
theorem wTOr_mono : ∀ es : Es F, MonT (wTOr Φ es)
  | .nil, τ, μ, Q, Q', h, q => by unfold wTOr at q; exact q.elim
  | .cons e .nil, τ, μ, Q, Q', h, q => by unfold wTOr at q ⊢; exact wT_mono e _ _ _ _ h q
  | .cons e (.cons f es), τ, μ, Q, Q', h, q => by
    unfold wTOr at q ⊢
    refine wT_mono e _ _ _ _ (fun k μ1 q => ?_) q
    cases k
    · simp only [Bool.false_eq_true, if_false] at q ⊢; exact wTOr_mono (.cons f es) _ _ _ _ h q
    · simp only [if_true] at q ⊢; exact h _ _ q
theorem wSc_mono : ∀ sc : Sc F, MonSc (wSc Φ sc)
  | .val e, τ, μ, Q, Q', h, q => by
    unfold wSc at q ⊢
    refine wE_mono e _ _ _ _ (fun t μ1 q => ?_) q
    cases t <;> simp only at q ⊢
    · exact h _ _ _ q
    · exact h _ _ _ q
    · obtain ⟨l, a, b⟩ := q; exact ⟨l, a, h _ _ _ b⟩
    · exact h _ _ _ q
  | .rng1 e, τ, μ, Q, Q', h, q => by unfold wSc at q ⊢; exact wE_mono e _ _ _ _ (fun t μ1 ⟨j, a, b, q⟩ => ⟨j, a, b, h _ _ _ q⟩) q
  | .rng2 a b, τ, μ, Q, Q', h, q => by
    unfold wSc at q ⊢
    exact wE_mono a _ _ _ _ (fun t μ1 q => wE_mono b _ _ _ _ (fun t μ1 ⟨i, j, a, b, c, d, q⟩ => ⟨i, j, a, b, c, d, h _ _ _ q⟩) q) q
  | .enum e, τ, μ, Q, Q', h, q => by
    unfold wSc at q ⊢
    refine wE_mono e _ _ _ _ (fun t μ1 q => ?_) q
    cases t <;> simp only at q ⊢
    · exact h _ _ _ q
    · obtain ⟨l, a, b⟩ := q; exact ⟨l, a, h _ _ _ b⟩
  | .zip a b, τ, μ, Q, Q', h, q => by
    unfold wSc at q ⊢
    exact wE_mono a _ _ _ _ (fun t μ1 q => wE_mono b _ _ _ _ (fun t μ1 ⟨i, j, a, b, q⟩ => ⟨i, j, a, b, h _ _ _ q⟩) q) q
end

structure EnLe (D D' : En) : Prop where
  nx : ∀ τ μ, D.nx τ μ → D'.nx τ μ
  rt : ∀ t μ, D.rt t μ → D'.rt t μ
  bk : ∀ τ μ, D.bk τ μ → D'.bk τ μ
  ct : ∀ τ μ, D.ct τ μ → D'.ct τ μ
abbrev MonS (m : MS) : Prop := ∀ D D' τ μ, EnLe D D' → m D τ μ → m D' τ μ
theorem whileL_mono {c : MT} {b : MS} (hc : MonT c) (hb : MonS b) {D D' : En} (h : EnLe D D') : ∀ (n : Nat) (τ : Env) (μ : Mu), whileL c b D n τ μ → whileL c b D' n τ μ
  | 0, _, _, q => q.elim
  | n + 1, τ, μ, q => by
    unfold whileL at q ⊢
    refine hc _ _ _ _ (fun k μ1 q => ?_) q
    cases k
    · simp only [Bool.false_eq_true, if_false] at q ⊢; exact h.nx _ _ q
    · simp only [if_true] at q ⊢
      exact hb { D with nx := whileL c b D n, ct := whileL c b D n, bk := D.nx } { D' with nx := whileL c b D' n, ct := whileL c b D' n, bk := D'.nx } _ _ { nx := whileL_mono hc hb h n, rt := h.rt, bk := h.nx, ct := whileL_mono hc hb h n } q
theorem forL_mono {tg : Tg} {stays : Mu → Prop} {b : MS} (hb : MonS b) {D D' : En} (h : EnLe D D') : ∀ (xs : List T) (τ : Env) (μ : Mu), forL tg stays b D xs τ μ → forL tg stays b D' xs τ μ
  | [], τ, μ, q => by unfold forL at q ⊢; exact ⟨q.1, h.nx _ _ q.2⟩
  | x :: xs, τ, μ, q => by
    unfold forL at q ⊢
    exact ⟨q.1, wTg_mono (fun τ' q => hb { D with nx := forL tg stays b D xs, ct := forL tg stays b D xs, bk := D.nx } { D' with nx := forL tg stays b D' xs, ct := forL tg stays b D' xs, bk := D'.nx } _ _ { nx := forL_mono hb h xs, rt := h.rt, bk := h.nx, ct := forL_mono hb h xs } q) _ _ _ q.2⟩
mutual
theorem wS_mono : ∀ s : S F, MonS (wS Φ s)
  | .ex e, D, D', τ, μ, h, q => by unfold wS at q ⊢; exact wE_mono e _ _ _ _ (fun _ _ q => h.nx _ _ q) q
  | .ret e, D, D', τ, μ, h, q => by unfold wS at q ⊢; exact wE_mono e _ _ _ _ (fun _ _ q => h.rt _ _ q) q
  | .retN, D, D', τ, μ, h, q => by unfold wS at q ⊢; exact h.rt _ _ q
  | .pass, D, D', τ, μ, h, q => by unfold wS at q ⊢; exact h.nx _ _ q
  | .brk, D, D', τ, μ, h, q => by unfold wS at q ⊢; exact h.bk _ _ q
  | .cont, D, D', τ, μ, h, q => by unfold wS at q ⊢; exact h.ct _ _ q
  | .set i e, D, D', τ, μ, h, q => by unfold wS at q ⊢; exact wE_mono e _ _ _ _ (fun _ _ q => h.nx _ _ q) q
  | .unp gs e, D, D', τ, μ, h, q => by unfold wS at q ⊢; exact wE_mono e _ _ _ _ (fun _ _ q => wUn_mono (fun _ q => h.nx _ _ q) q) q
  | .par is es, D, D', τ, μ, h, q => by unfold wS at q ⊢; exact wEs_mono es _ _ _ _ (fun _ _ q => ⟨q.1, h.nx _ _ q.2⟩) q
  | .sub o i e, D, D', τ, μ, h, q => by
    unfold wS at q ⊢
    refine wE_mono e _ _ _ _ (fun _ _ q => wE_mono o _ _ _ _ (fun _ _ q => wE_mono i _ _ _ _ (fun _ _ q => ?_) q) q) q
    obtain ⟨a, e, q⟩ := q
    rcases q with ⟨l, n, j, a1, a2, a3, a4⟩ | ⟨kvs, key, a1, a2, a3, a4⟩
    · exact ⟨a, e, .inl ⟨l, n, j, a1, a2, a3, h.nx _ _ a4⟩⟩
    · exact ⟨a, e, .inr ⟨kvs, key, a1, a2, a3, h.nx _ _ a4⟩⟩
  | .aug i o e, D, D', τ, μ, h, q => by
    unfold wS at q ⊢
    obtain ⟨x, e1, q⟩ := q
    refine ⟨x, e1, wE_mono e _ _ _ _ (fun _ _ q => ?_) q⟩
    obtain ⟨n, m, a, b, q⟩ := q
    refine ⟨n, m, a, b, ?_⟩
    cases o <;> simp only at q ⊢
    · exact h.nx _ _ q
    · exact h.nx _ _ q
  | .ite c a b, D, D', τ, μ, h, q => by
    unfold wS at q ⊢
    refine wT_mono c _ _ _ _ (fun k μ1 q => ?_) q
    cases k
    · simp only [Bool.false_eq_true, if_false] at q ⊢; exact wSs_mono b _ _ _ _ h q
    · simp only [if_true] at q ⊢; exact wSs_mono a _ _ _ _ h q
  | .whl c b, D, D', τ, μ, h, q => by unfold wS at q ⊢; obtain ⟨n, q⟩ := q; exact ⟨n, whileL_mono (wT_mono c) (wSs_mono b) h n _ _ q⟩
  | .for tg sc b, D, D', τ, μ, h, q => by unfold wS at q ⊢; exact wSc_mono sc _ _ _ _ (fun _ _ _ q => forL_mono (wSs_mono b) h _ _ _ q) q
  | .delsl o lo, D, D', τ, μ, h, q => by
    unfold wS at q ⊢
    refine wE_mono o _ _ _ _ (fun _ _ q => wE_mono lo _ _ _ _ (fun _ _ q => ?_) q) q
    obtain ⟨a, l, n, a1, a2, a3, a4, a5, a6⟩ := q
    exact ⟨a, l, n, a1, a2, a3, a4, a5, h.nx _ _ a6⟩
  | .sfld o f e cs, D, D', τ, μ, h, q => by
    unfold wS at q ⊢
    exact wE_mono e _ _ _ _ (fun _ _ q => wE_mono o _ _ _ _ (fun _ _ ⟨a, c, fs, e1, e2, e3, e4, q⟩ => ⟨a, c, fs, e1, e2, e3, e4, h.nx _ _ q⟩) q) q
  | .afld o f p e cs, D, D', τ, μ, h, q => by
    unfold wS at q ⊢
    refine wE_mono o _ _ _ _ (fun _ _ ⟨a, c, fs, v, e1, e2, e3, e4, q⟩ => ⟨a, c, fs, v, e1, e2, e3, e4, wE_mono e _ _ _ _ (fun _ _ ⟨n, m, fs', a1, a2, a3, a4, q⟩ => ⟨n, m, fs', a1, a2, a3, a4, ?_⟩) q⟩) q
    cases p <;> simp only at q ⊢
    · exact h.nx _ _ q
    · exact h.nx _ _ q
  | .ndef i mk, D, D', τ, μ, h, q => by unfold wS at q ⊢; exact fun c f hf => h.nx _ _ (q c f hf)
  | .never, D, D', τ, μ, h, q => by unfold wS at q; exact q.elim
theorem wSs_mono : ∀ s : Ss F, MonS (wSs Φ s)
  | .nil, D, D', τ, μ, h, q => by unfold wSs at q ⊢; exact h.nx _ _ q
  | .cons s ss, D, D', τ, μ, h, q => by unfold wSs at q ⊢; exact wS_mono s { D with nx := wSs Φ ss D } { D' with nx := wSs Φ ss D' } _ _ { nx := fun τ μ q => wSs_mono ss _ _ _ _ h q, rt := h.rt, bk := h.bk, ct := h.ct } q
end
end
example {F : Type} {Φ : F → Con} : wE Φ (.int 3) = fun _ μ Q => Q (.int 3) μ := rfl
end TV

/-! Operators and comparisons over trees. -/
namespace TV
open PySem PySem.Spec PyProof.Rows L2

/-- a two-place operation over trees, read over the heap -/
def rOf (K : PySem.W.Frag) (Tb : List NdefX.NTab) (m : T → T → Mu → PQ → Prop) : R2 := fun vx vy H Q => ∃ x y μ, Rep K H x vx ∧ Rep K H y vy ∧ RepH K Tb H μ ∧ m x y μ (QE K Tb H Q)
theorem OpR.or {X : Cx} {f : Value → Value → Sem Value} {r r' : R2} (h : OpR X f r) (h' : OpR X f r') : OpR X f (fun x y H Q => r x y H Q ∨ r' x y H Q) := by
  intro pins s σ H x y v u Q I rx ry q
  rcases q with q | q
  · exact h pins s σ H x y v u Q I rx ry q
  · exact h' pins s σ H x y v u Q I rx ry q
theorem OpR.imp {X : Cx} {f : Value → Value → Sem Value} {r r' : R2} (h : OpR X f r) (hi : ∀ x y H Q, r' x y H Q → r x y H Q) : OpR X f r' := by
  intro pins s σ H x y v u Q I rx ry q
  exact h pins s σ H x y v u Q I rx ry (hi _ _ _ _ q)
theorem OpR.inv {X : Cx} {f : Value → Value → Sem Value} {r : R2} (h : ∀ x y H Q, (∀ pins s σ, Inv X pins σ H s → ∃ r', OpR X f r' ∧ (r x y H Q → r' x y H Q))) : OpR X f r := by
  intro pins s σ H x y v u Q I rx ry q
  obtain ⟨r', h1, h2⟩ := h x y H Q pins s σ I
  exact h1 pins s σ H x y v u Q I rx ry (h2 q)

theorem strOk_append {a b : Str} (ha : PyData.strOk a = true) (hb : PyData.strOk b = true) : PyData.strOk (a ++ b) = true := by
  unfold PyData.strOk at *
  have e : (a ++ b).cps = a.cps ++ b.cps := rfl
  rw [e, Array.all_append, ha, hb]
  rfl
theorem len_append (a b : Str) : (a ++ b).length = a.length + b.length := by
  show (a.cps ++ b.cps).size = _
  rw [Array.size_append]
  rfl

section
variable {X : Cx} {K : PySem.W.Frag} {H : Hp} {μ : Mu} {Q : VK}
theorem QE.here {t : T} {v : V} (q : QE K Tb H Q t μ) (r : Rep K H t v) (h : RepH K Tb H μ) : Q v H := q v H TK.refl r h
theorem QE.newTup {ts : List T} {vs : List V} (q : QE K Tb H Q (.tup ts) μ) (r : Reps K H ts vs) (h : RepH K Tb H μ) : NewT H Q vs := by
  intro p ob hp hd
  refine q _ _ (TK.new hp) ?_ (h.newT hp)
  exact ⟨p, vs, rfl, .inl ⟨ob, upd_same, hd⟩, r.mono (TK.new hp)⟩
theorem QE.newLst {ts : List T} {vs : List V} (h : RepH K Tb H μ) (r : Reps K H ts vs) (q : ∀ p, μ p = none → QE K Tb H Q (.ref p) (mset μ p (.lst ts))) {p : Addr} (hp : H p = none) : Q (.ref p) (upd H p (.lst vs)) :=
  q p (h.free hp) _ _ (TK.new hp) rfl (h.new hp ⟨vs, upd_same, r.mono (TK.new hp)⟩)
theorem QE.newDic {ks : List (Key × T)} {vs : List (Key × V)} (h : RepH K Tb H μ) (e : vs.map (·.1) = ks.map (·.1)) (r : Reps K H (ks.map (·.2)) (vs.map (·.2))) (nd : (vs.map (·.1)).Nodup) (q : ∀ p, μ p = none → QE K Tb H Q (.ref p) (mset μ p (.dic ks))) {p : Addr} (hp : H p = none) : Q (.ref p) (upd H p (.dK vs)) :=
  q p (h.free hp) _ _ (TK.new hp) rfl (h.new hp ⟨vs, upd_same, e, r.mono (TK.new hp), nd⟩)

theorem Rep.int_of {i : Int} {v : V} (h : Rep K H (.int i) v) : v = .int i := h
theorem Rep.str_of {i : Str} {v : V} (h : Rep K H (.str i) v) : v = .str i := h.1
theorem Rep.str_mk {x : Str} (h1 : PyData.strOk x = true) (h2 : x.length ≤ sizeLine) : Rep K H (.str x) (.str x) := ⟨rfl, h1, h2⟩

theorem opr_add : OpR X (binaryOp .Add) (rOf X.K Tb addS) := by
  refine OpR.imp (OpR.or op_add (OpR.or op_add_str (OpR.or op_catF op_cat))) fun vx vy H Q h => ?_
  obtain ⟨x, y, μ, rx, ry, rh, q⟩ := h
  unfold addS at q
  split at q
  · rename_i i j
    obtain rfl : vx = .int i := rx
    obtain rfl : vy = .int j := ry
    exact .inl ⟨i, j, rfl, rfl, q.here rfl rh⟩
  · rename_i a b
    obtain ⟨rfl, o1, l1⟩ := rx
    obtain ⟨rfl, o2, l2⟩ := ry
    refine .inr (.inl ⟨a, b, rfl, rfl, q.1, q.2.here (Rep.str_mk (strOk_append o1 o2) (by rw [len_append]; exact q.1)) rh⟩)
  · rename_i a b
    obtain ⟨pa, va, rfl, sa, ra⟩ := rx
    obtain ⟨pb, vb, rfl, sb, rb⟩ := ry
    obtain ⟨hz, q⟩ := q
    have la := ra.length
    have lb := rb.length
    refine .inr (.inr (.inl ⟨pa, pb, va, vb, rfl, rfl, sa.seq, sb.seq, by omega, fun e => ?_, fun e => ?_, q.newTup (ra.append rb) rh⟩))
    · subst e
      have : a = [] := List.length_eq_zero_iff.mp (by rw [la]; rfl)
      subst this
      exact q.here ⟨pb, vb, rfl, sb, rb⟩ rh
    · subst e
      have : b = [] := List.length_eq_zero_iff.mp (by rw [lb]; rfl)
      subst this
      rw [List.append_nil] at q
      exact q.here ⟨pa, va, rfl, sa, ra⟩ rh
  · rename_i a b
    obtain rfl : vx = .ref a := rx
    obtain rfl : vy = .ref b := ry
    obtain ⟨xs, ys, e1, e2, hz, q⟩ := q
    obtain ⟨va, h1, r1⟩ := rh a _ e1
    obtain ⟨vb, h2, r2⟩ := rh b _ e2
    have la := r1.length
    have lb := r2.length
    exact .inr (.inr (.inr ⟨a, b, va, vb, rfl, rfl, h1, h2, by omega, fun p hp => QE.newLst rh (r1.append r2) q hp⟩))
  · exact q.elim
theorem opr_bin (o : Operator) : OpR X (binaryOp o) (rOf X.K Tb (binS o)) := by
  cases o with
  | Add => exact opr_add
  | Sub =>
    refine OpR.imp op_sub fun vx vy H Q h => ?_
    obtain ⟨x, y, μ, rx, ry, rh, i, j, rfl, rfl, q⟩ := h
    exact ⟨i, j, rx, ry, q.here rfl rh⟩
  | Mult =>
    refine OpR.imp op_mul fun vx vy H Q h => ?_
    obtain ⟨x, y, μ, rx, ry, rh, q⟩ := h
    unfold binS mulS at q
    simp only at q
    split at q
    · rename_i i j
      exact ⟨i, j, rx, ry, q.1, q.2.here rfl rh⟩
    · exact q.elim
  | FloorDiv =>
    refine OpR.imp op_fdiv fun vx vy H Q h => ?_
    obtain ⟨x, y, μ, rx, ry, rh, i, j, rfl, rfl, c, q⟩ := h
    exact ⟨i, j, rx, ry, c, q.here rfl rh⟩
  | Mod =>
    refine OpR.imp op_mod fun vx vy H Q h => ?_
    obtain ⟨x, y, μ, rx, ry, rh, i, j, rfl, rfl, c, q⟩ := h
    exact ⟨i, j, rx, ry, c, q.here rfl rh⟩
  | Pow =>
    refine OpR.imp op_pow fun vx vy H Q h => ?_
    obtain ⟨x, y, μ, rx, ry, rh, i, j, rfl, rfl, c, q⟩ := h
    exact ⟨i, j, rx, ry, c, q.here rfl rh⟩
  | _ => intro pins s σ H x y v u Q I rx ry q; obtain ⟨_, _, _, _, _, _, q⟩ := q; exact q.elim
end

/-! ### equality -/
mutual
def pd : T → PyData
  | .non => .none
  | .bl b => .bool b
  | .int i => .int i
  | .str x => .str x
  | .tup l => .tuple (pds l)
  | .ref _ => .none
  | .rol _ => .none
def pds : List T → List PyData
  | [] => []
  | x :: xs => pd x :: pds xs
end
mutual
theorem pd_depth : ∀ t : T, t.pure = true → (pd t).depth = t.depth
  | .non, _ => rfl
  | .bl _, _ => rfl
  | .int _, _ => rfl
  | .str _, _ => rfl
  | .tup l, h => by
    have h' : pures l = true := by unfold T.pure at h; exact h
    unfold pd T.depth PyData.depth
    rw [pds_depth l h']
  | .ref _, h => by unfold T.pure at h; cases h
  | .rol _, h => by unfold T.pure at h; cases h
theorem pds_depth : ∀ l : List T, pures l = true → PyData.depthAll (pds l) = depths l
  | [], _ => rfl
  | x :: xs, h => by
    have h' : x.pure = true ∧ pures xs = true := by unfold pures at h; simpa using h
    unfold pds depths PyData.depthAll
    rw [pd_depth x h'.1, pds_depth xs h'.2]
end
mutual
theorem pd_eqv : ∀ x y : T, x.pure = true → y.pure = true → PyData.eqv (pd x) (pd y) = peq x y
  | .non, y, _, hy => by cases y <;> first | rfl | (unfold T.pure at hy; cases hy)
  | .bl a, y, _, hy => by cases y <;> first | rfl | (unfold T.pure at hy; cases hy)
  | .int a, y, _, hy => by cases y <;> first | rfl | (unfold T.pure at hy; cases hy)
  | .str a, y, _, hy => by cases y <;> first | rfl | (unfold T.pure at hy; cases hy)
  | .tup a, y, hx, hy => by
    have hx' : pures a = true := by unfold T.pure at hx; exact hx
    cases y with
    | tup b =>
      have hy' : pures b = true := by unfold T.pure at hy; exact hy
      unfold pd PyData.eqv peq
      exact pds_eqv a b hx' hy'
    | ref _ => unfold T.pure at hy; cases hy
    | rol _ => unfold T.pure at hy; cases hy
    | _ => rfl
  | .ref _, _, h, _ => by unfold T.pure at h; cases h
  | .rol _, _, h, _ => by unfold T.pure at h; cases h
theorem pds_eqv : ∀ x y : List T, pures x = true → pures y = true → PyData.eqvAll (pds x) (pds y) = peqs x y
  | [], y, _, _ => by cases y <;> rfl
  | x :: xs, [], _, _ => rfl
  | x :: xs, y :: ys, hx, hy => by
    have hx' : x.pure = true ∧ pures xs = true := by unfold pures at hx; simpa using hx
    have hy' : y.pure = true ∧ pures ys = true := by unfold pures at hy; simpa using hy
    unfold pds PyData.eqvAll peqs
    rw [pd_eqv x y hx'.1 hy'.1, pds_eqv xs ys hx'.2 hy'.2]
end
mutual
theorem Rep.dp {K : PySem.W.Frag} {H : Hp} : ∀ {t : T} {v : V}, Rep K H t v → t.pure = true → Dp K H v (pd t) ∧ (pd t).canLay0 = true
  | .non, v, h, _ => by obtain rfl : v = .non := h; exact ⟨.non, rfl⟩
  | .bl b, v, h, _ => by obtain rfl : v = .bl b := h; exact ⟨.bl b, rfl⟩
  | .int i, v, h, _ => by obtain rfl : v = .int i := h; exact ⟨.int i, rfl⟩
  | .str x, v, h, _ => by obtain ⟨rfl, h1, _⟩ := h; exact ⟨.str x, h1⟩
  | .tup l, v, h, hp => by
    have hp' : pures l = true := by unfold T.pure at hp; exact hp
    obtain ⟨a, vs, rfl, sq, r⟩ := h
    obtain ⟨d, c⟩ := Reps.dp r hp'
    exact ⟨.tup sq.seq d, c⟩
  | .ref _, _, _, h => by unfold T.pure at h; cases h
  | .rol _, _, _, h => by unfold T.pure at h; cases h
theorem Reps.dp {K : PySem.W.Frag} {H : Hp} : ∀ {ts : List T} {vs : List V}, Reps K H ts vs → pures ts = true → DpAll K H vs (pds ts) ∧ PyData.canLayAll0 (pds ts) = true
  | [], _, h, _ => by unfold Reps at h; subst h; exact ⟨.nil, rfl⟩
  | t :: ts, _, h, hp => by
    have hp' : t.pure = true ∧ pures ts = true := by unfold pures at hp; simpa using hp
    unfold Reps at h
    obtain ⟨v, r, rfl, h1, h2⟩ := h
    obtain ⟨d1, c1⟩ := Rep.dp h1 hp'.1
    obtain ⟨d2, c2⟩ := Reps.dp h2 hp'.2
    refine ⟨.cons d1 d2, ?_⟩
    unfold pds PyData.canLayAll0
    rw [c1, c2]; rfl
end

section
variable {X : Cx}
theorem opr_eq (hu : X.A.units + 200 < cLine) : OpR X (compareOp .Eq) (rOf X.K Tb (cmpS .Eq)) := by
  intro pins s σ H x y v u Q I rx ry h
  obtain ⟨tx, ty, μ, qx, qy, rh, ⟨p1, p2, hd⟩, q⟩ := h
  obtain ⟨d1, c1⟩ := qx.dp p1
  obtain ⟨d2, c2⟩ := qy.dp p2
  obtain ⟨as, r1⟩ := Dp.reads I _ x v d1 rx
  obtain ⟨bs, r2⟩ := Dp.reads I _ y u d2 ry
  refine SeqAt.compareEq_reads r1 r2 c1 c2 ?_ ⟨.bl _, H, I, rfl, ?_⟩
  · rw [pd_depth _ p1, pd_depth _ p2]
    omega
  · rw [pd_eqv _ _ p1 p2]
    exact q.here rfl rh
theorem opr_ne (hu : X.A.units + 200 < cLine) : OpR X (compareOp .NotEq) (rOf X.K Tb (cmpS .NotEq)) := by
  intro pins s σ H x y v u Q I rx ry h
  obtain ⟨tx, ty, μ, qx, qy, rh, ⟨p1, p2, hd⟩, q⟩ := h
  obtain ⟨d1, c1⟩ := qx.dp p1
  obtain ⟨d2, c2⟩ := qy.dp p2
  obtain ⟨as, r1⟩ := Dp.reads I _ x v d1 rx
  obtain ⟨bs, r2⟩ := Dp.reads I _ y u d2 ry
  refine SeqAt.compareNe_reads r1 r2 c1 c2 ?_ ⟨.bl _, H, I, rfl, ?_⟩
  · rw [pd_depth _ p1, pd_depth _ p2]
    omega
  · rw [pd_eqv _ _ p1 p2]
    exact q.here rfl rh

/-! ### in -/
theorem Rep.flat {K : PySem.W.Frag} {H : Hp} {t : T} {v : V} (h : Rep K H t v) (f : flatT t = true) : flatV v = true := by
  cases t <;> first | (unfold flatT at f; exact absurd f Bool.false_ne_true) | skip
  · obtain rfl : v = .non := h; rfl
  · obtain rfl : v = .bl _ := h; rfl
  · obtain rfl : v = .int _ := h; rfl
  · obtain ⟨rfl, _⟩ := h; rfl
theorem Rep.eqV {K : PySem.W.Frag} {H : Hp} {t u : T} {v w : V} (h : Rep K H t v) (k : Rep K H u w) (f : flatT t = true) (g : flatT u = true) : eqV v w = peq t u := by
  cases t <;> first | (unfold flatT at f; exact absurd f Bool.false_ne_true) | skip
  all_goals cases u <;> first | (unfold flatT at g; exact absurd g Bool.false_ne_true) | skip
  all_goals
    first
      | (obtain rfl := (show v = _ from h))
      | (obtain ⟨rfl, _⟩ := h)
    first
      | (obtain rfl := (show w = _ from k))
      | (obtain ⟨rfl, _⟩ := k)
    rfl
theorem Reps.any {K : PySem.W.Frag} {H : Hp} {x : T} {vx : V} (hx : Rep K H x vx) (fx : flatT x = true) : ∀ {ts : List T} {vs : List V}, Reps K H ts vs → ts.all flatT = true →
    vs.all flatV = true ∧ inV vx vs = ts.any (fun z => peq z x)
  | [], _, h, _ => by unfold Reps at h; subst h; exact ⟨rfl, rfl⟩
  | t :: ts, _, h, f => by
    rw [List.all_cons, Bool.and_eq_true] at f
    unfold Reps at h
    obtain ⟨v, r, rfl, h1, h2⟩ := h
    obtain ⟨a, b⟩ := Reps.any hx fx h2 f.2
    refine ⟨by rw [List.all_cons, h1.flat f.1, a]; rfl, ?_⟩
    unfold inV at b ⊢
    rw [List.any_cons, List.any_cons, b, h1.eqV hx f.1 fx]
theorem itemsOf_rep {K : PySem.W.Frag} {H : Hp} {μ : Mu} (rh : RepH K Tb H μ) {t : T} {v : V} {l : List T} (r : Rep K H t v) (e : itemsOf μ t = some l) : ∃ p vs, v = .ref p ∧ (SqL K H p vs ∨ SqT K H p vs) ∧ Reps K H l vs := by
  cases t <;> unfold itemsOf at e <;> simp only at e <;> try cases e
  · obtain ⟨p, vs, rfl, sq, q⟩ := r; exact ⟨p, vs, rfl, .inr sq.seq, q⟩
  · rename_i a
    obtain rfl : v = .ref a := r
    cases h : μ a with
    | none => rw [h] at e; cases e
    | some mo =>
      cases mo with
      | lst l' =>
        rw [h] at e; cases e
        obtain ⟨vs, e1, q⟩ := rh a _ h
        exact ⟨a, vs, rfl, .inl (SqL.of e1), q⟩
      | _ => rw [h] at e; cases e
  · obtain ⟨p, vs, rfl, sq, q⟩ := r; exact ⟨p, vs, rfl, .inl sq.seq, q⟩

theorem DGet.isSome_any {kvs : List (Key × T)} {ks : List (Key × V)} (e : ks.map (·.1) = kvs.map (·.1)) (k : Key) : (valV ks k).isSome = kvs.any (fun p => decide (p.1 = k)) := by
  rw [← valV_any]
  have h1 : (ks.any fun kv => decide (kv.1 = k)) = (ks.map (·.1)).any fun z => decide (z = k) := by rw [List.any_map]; rfl
  have h2 : (kvs.any fun kv => decide (kv.1 = k)) = (kvs.map (·.1)).any fun z => decide (z = k) := by rw [List.any_map]; rfl
  rw [h1, h2, e]
theorem op_dictIn (hu : X.A.units + 200 < cLine) : OpR X (compareOp .In) (fun x y H Q => ∃ a o, y = .ref a ∧ DGet H a x o ∧ Q (.bl o.isSome) H) := by
  intro pins s σ H x y v u Q I rx ry h
  obtain ⟨a, o, rfl, g, q⟩ := h
  cases ry
  exact d_in (by omega) I g rx fun s' I' => ⟨.bl _, H, I', rfl, q⟩
theorem op_dictNotIn (hu : X.A.units + 200 < cLine) : OpR X (compareOp .NotIn) (fun x y H Q => ∃ a o, y = .ref a ∧ DGet H a x o ∧ Q (.bl (!o.isSome)) H) := by
  intro pins s σ H x y v u Q I rx ry h
  obtain ⟨a, o, rfl, g, q⟩ := h
  cases ry
  exact d_notIn (by omega) I g rx fun s' I' => ⟨.bl _, H, I', rfl, q⟩
theorem opr_in (hu : X.A.units + 200 < cLine) : OpR X (compareOp .In) (rOf X.K Tb (cmpS .In)) := by
  refine OpR.imp (OpR.or op_in_str (OpR.or op_in_seq (op_dictIn hu))) fun vx vy H Q h => ?_
  obtain ⟨x, y, μ, rx, ry, rh, q⟩ := h
  rcases q with ⟨i, j, rfl, rfl, q⟩ | ⟨l, e, f1, f2, q⟩ | ⟨a, kvs, k, rfl, e, rfl, q⟩ | ⟨a, kvs, k, rfl, e, rfl, q⟩
  · obtain ⟨rfl, _⟩ := rx
    obtain ⟨rfl, _⟩ := ry
    exact .inl ⟨i, j, rfl, rfl, by have := q.here (v := .bl (strIn i j)) (by simp [Rep]) rh; exact this⟩
  · obtain ⟨p, vs, rfl, sq, r⟩ := itemsOf_rep rh ry e
    obtain ⟨a, b⟩ := Reps.any rx f1 r f2
    refine .inr (.inl ⟨p, vs, rfl, sq, rx.flat f1, a, ?_⟩)
    rw [if_neg Bool.false_ne_true, b]
    exact q.here (by simp [Rep]) rh
  · obtain rfl : vy = .ref a := ry
    obtain rfl : vx = .int k := rx
    obtain ⟨ks, e1, e2, r, _⟩ := rh a _ e
    refine .inr (.inr ⟨a, _, rfl, DGet.k (k := Sum.inl k) e1, ?_⟩)
    rw [DGet.isSome_any e2]
    exact q.here (by simp [Rep]) rh
  · obtain rfl : vy = .ref a := ry
    obtain ⟨rfl, _⟩ := rx
    obtain ⟨ks, e1, e2, r, _⟩ := rh a _ e
    refine .inr (.inr ⟨a, _, rfl, DGet.k (k := Sum.inr k) e1, ?_⟩)
    rw [DGet.isSome_any e2]
    exact q.here (by simp [Rep]) rh
theorem opr_notIn (hu : X.A.units + 200 < cLine) : OpR X (compareOp .NotIn) (rOf X.K Tb (cmpS .NotIn)) := by
  refine OpR.imp (OpR.or op_notin_str (OpR.or op_notIn_seq (op_dictNotIn hu))) fun vx vy H Q h => ?_
  obtain ⟨x, y, μ, rx, ry, rh, q⟩ := h
  rcases q with ⟨i, j, rfl, rfl, q⟩ | ⟨l, e, f1, f2, q⟩ | ⟨a, kvs, k, rfl, e, rfl, q⟩ | ⟨a, kvs, k, rfl, e, rfl, q⟩
  · obtain ⟨rfl, _⟩ := rx
    obtain ⟨rfl, _⟩ := ry
    exact .inl ⟨i, j, rfl, rfl, by have := q.here (v := .bl (!(strIn i j))) (by simp [Rep]) rh; exact this⟩
  · obtain ⟨p, vs, rfl, sq, r⟩ := itemsOf_rep rh ry e
    obtain ⟨a, b⟩ := Reps.any rx f1 r f2
    refine .inr (.inl ⟨p, vs, rfl, sq, rx.flat f1, a, ?_⟩)
    rw [if_pos rfl, b]
    exact q.here (by simp [Rep]) rh
  · obtain rfl : vy = .ref a := ry
    obtain rfl : vx = .int k := rx
    obtain ⟨ks, e1, e2, r, _⟩ := rh a _ e
    refine .inr (.inr ⟨a, _, rfl, DGet.k (k := Sum.inl k) e1, ?_⟩)
    rw [DGet.isSome_any e2]
    exact q.here (by simp [Rep]) rh
  · obtain rfl : vy = .ref a := ry
    obtain ⟨rfl, _⟩ := rx
    obtain ⟨ks, e1, e2, r, _⟩ := rh a _ e
    refine .inr (.inr ⟨a, _, rfl, DGet.k (k := Sum.inr k) e1, ?_⟩)
    rw [DGet.isSome_any e2]
    exact q.here (by simp [Rep]) rh
theorem opr_cmp (o : CmpOp) (hu : X.A.units + 200 < cLine) : OpR X (compareOp o) (rOf X.K Tb (cmpS o)) := by
  have hint : ∀ {f : Value → Value → Sem Value} {p : Int → Int → Bool}, OpR X f (rI0 fun i j => .bl (p i j)) → OpR X f (rOf X.K Tb (cmpI p)) := fun {f p} h => by
    refine OpR.imp h fun vx vy H Q h => ?_
    obtain ⟨x, y, μ, rx, ry, rh, i, j, rfl, rfl, q⟩ := h
    exact ⟨i, j, rx, ry, q.here rfl rh⟩
  cases o with
  | Eq => exact opr_eq hu
  | NotEq => exact opr_ne hu
  | Lt => exact hint op_lt
  | LtE => exact hint op_le
  | Gt => exact hint op_gt
  | GtE => exact hint op_ge
  | In => exact opr_in hu
  | NotIn => exact opr_notIn hu
  | Is => intro pins s σ H x y v u Q I rx ry q; obtain ⟨_, _, _, _, _, _, q⟩ := q; exact q.elim
  | IsNot => intro pins s σ H x y v u Q I rx ry q; obtain ⟨_, _, _, _, _, _, q⟩ := q; exact q.elim
end
end TV

/-! Subscripts, slices, built-in functions and methods over trees. -/
namespace TV
open PySem PySem.Spec PyProof.Rows L2

theorem IxR.imp {X : Cx} {r r' : R2} (h : IxR X r) (hi : ∀ x y H Q, r' x y H Q → r x y H Q) : IxR X r' :=
  fun value slice pins s σ H x y v u Q I rx ry q hs => h value slice pins s σ H x y v u Q I rx ry (hi _ _ _ _ q) hs
theorem SlR.imp {X : Cx} {r r' : V → Option Int → Option Int → Hp → VK → Prop} (h : SlR X r) (hi : ∀ x lo hi H Q, r' x lo hi H Q → r x lo hi H Q) : SlR X r' :=
  fun pins s σ H x v vl vu lo hi' sl Q I rx hs pl pu q => h pins s σ H x v vl vu lo hi' sl Q I rx hs pl pu (hi _ _ _ _ _ q)
theorem CallR.imp {X : Cx} {f : Value} {r r' : List V → Hp → VK → Prop} (h : CallR X f r) (hi : ∀ xs H Q, r' xs H Q → r xs H Q) : CallR X f r' :=
  fun pins s σ H xs us Q I rx q => h pins s σ H xs us Q I rx (hi _ _ _ q)
theorem CallR.or {X : Cx} {f : Value} {r r' : List V → Hp → VK → Prop} (h : CallR X f r) (h' : CallR X f r') : CallR X f (fun xs H Q => r xs H Q ∨ r' xs H Q) := by
  intro pins s σ H xs us Q I rx q
  rcases q with q | q
  · exact h pins s σ H xs us Q I rx q
  · exact h' pins s σ H xs us Q I rx q
theorem MtR.imp {X : Cx} {id : String} {r r' : V → List V → Hp → VK → Prop} (h : MtR X id r) (hi : ∀ x xs H Q, r' x xs H Q → r x xs H Q) : MtR X id r' :=
  fun pins s σ H x xs v us Q I rx rs q => h pins s σ H x xs v us Q I rx rs (hi _ _ _ _ q)

theorem cutV_eq (xs : List V) (lo hi : Option Int) : cutV xs lo hi = cutL xs lo hi := rfl
theorem Reps.cut {K : PySem.W.Frag} {H : Hp} {ts : List T} {vs : List V} (r : Reps K H ts vs) (lo hi : Option Int) : Reps K H (cutL ts lo hi) (cutL vs lo hi) := by
  unfold cutL
  rw [r.length]
  exact (r.drop _).take _
theorem atI_rep {K : PySem.W.Frag} {H : Hp} {ts : List T} {vs : List V} (r : Reps K H ts vs) {k : Int} {t : T} (e : atI ts k = some t) : ∃ v, atI vs k = some v ∧ Rep K H t v := by
  unfold atI at e ⊢
  rw [← r.length]
  cases q : ixN ts.length k with
  | none => rw [q] at e; cases e
  | some j =>
    rw [q] at e
    exact r.get (by simpa using e)
theorem strOk_one {z : Str} (h : PyData.strOk z = true) {c : Nat} (hc : c ∈ z.cps.toList) : PyData.strOk ⟨#[c]⟩ = true := by
  unfold PyData.strOk at h ⊢
  have := Array.all_eq_true_iff_forall_mem.mp h c (Array.mem_toList_iff.mp hc)
  simpa using this
theorem atI_mem {α : Type} {xs : List α} {k : Int} {a : α} (e : atI xs k = some a) : a ∈ xs := by
  unfold atI at e
  cases q : ixN xs.length k with
  | none => rw [q] at e; cases e
  | some j => rw [q] at e; exact List.mem_of_getElem? e
theorem valV_rep {K : PySem.W.Frag} {H : Hp} : ∀ {kvs : List (Key × T)} {ks : List (Key × V)}, ks.map (·.1) = kvs.map (·.1) → Reps K H (kvs.map (·.2)) (ks.map (·.2)) → ∀ k : Key,
    (lookT kvs k = none ∧ valV ks k = none) ∨ ∃ t v, lookT kvs k = some t ∧ valV ks k = some v ∧ Rep K H t v
  | [], [], _, _, _ => .inl ⟨rfl, rfl⟩
  | [], _ :: _, e, _, _ => by simp at e
  | _ :: _, [], e, _, _ => by simp at e
  | (k1, t) :: r, (k2, v) :: q, e, h, k => by
    simp only [List.map_cons, List.cons.injEq] at e
    obtain ⟨e1, e2⟩ := e
    subst e1
    simp only [List.map_cons] at h
    unfold Reps at h
    obtain ⟨v', r', ee, h1, h2⟩ := h
    simp only [List.cons.injEq] at ee
    obtain ⟨rfl, rfl⟩ := ee
    by_cases hk : k2 = k
    · refine .inr ⟨t, v, ?_, ?_, h1⟩
      · unfold lookT; simp [List.find?_cons, hk]
      · exact valV_pos hk
    · have a1 : lookT ((k2, t) :: r) k = lookT r k := by unfold lookT; simp [List.find?_cons, hk]
      have a2 : valV ((k2, v) :: q) k = valV q k := valV_neg hk
      rw [a1, a2]
      exact valV_rep e2 h2 k
theorem keyOf_rep {K : PySem.W.Frag} {H : Hp} {t : T} {v : V} {k : Key} (r : Rep K H t v) (e : keyOf t = some k) : v = kV k := by
  cases t <;> unfold keyOf at e <;> simp only at e <;> cases e
  · exact r
  · exact r.1

section
variable {X : Cx}
theorem ix_dict (hu : X.A.units + 200 < cLine) : IxR X (fun x y H Q => ∃ a v, x = .ref a ∧ DGet H a y (some v) ∧ Q v H) := by
  intro value slice pins s σ H x y v u Q I rx ry h hs
  obtain ⟨a, r, rfl, g, q⟩ := h
  cases rx
  exact tail_any (dict_typeIs I g) slot_dict_getitem.lookup (d_getItem (by omega) I g ry fun w' s' I' rw' => ⟨r, H, I', rw', q⟩) hs
theorem ixr_all (hu : X.A.units + 200 < cLine) : IxR X (rOf X.K Tb ixS) := by
  refine IxR.imp (IxR.or ix_seq (ix_dict hu)) fun vx vy H Q h => ?_
  obtain ⟨x, y, μ, rx, ry, rh, q⟩ := h
  rcases q with ⟨l, k, t, e, rfl, e2, q⟩ | ⟨z, k, c, rfl, rfl, e2, q⟩ | ⟨d, kvs, k, t, rfl, e, e2, e3, q⟩
  · obtain ⟨p, vs, rfl, sq, r⟩ := itemsOf_rep rh rx e
    obtain ⟨v, e4, rv⟩ := atI_rep r e2
    obtain rfl : vy = .int k := ry
    rcases sq with sq | sq
    · exact .inl (.inl ⟨p, vs, k, v, rfl, rfl, sq, e4, q.here rv rh⟩)
    · exact .inl (.inr (.inl ⟨p, vs, k, v, rfl, rfl, sq, e4, q.here rv rh⟩))
  · obtain ⟨rfl, o1, l1⟩ := rx
    obtain rfl : vy = .int k := ry
    refine .inl (.inr (.inr ⟨z, k, c, rfl, rfl, l1, e2, q.here (Rep.str_mk (strOk_one o1 (atI_mem e2)) ?_) rh⟩))
    show 1 ≤ sizeLine
    decide
  · obtain rfl : vx = .ref d := rx
    obtain ⟨ks, e4, e5, r, _⟩ := rh d _ e
    have ey := keyOf_rep ry e2
    subst ey
    rcases valV_rep e5 r k with ⟨n, _⟩ | ⟨t', v, a1, a2, rv⟩
    · rw [n] at e3; cases e3
    · rw [a1] at e3; cases e3
      exact .inr ⟨d, v, rfl, by rw [← a2]; exact DGet.k e4, q.here rv rh⟩

def rSl (K : PySem.W.Frag) (Tb : List NdefX.NTab) : V → Option Int → Option Int → Hp → VK → Prop := fun vx lo hi H Q => ∃ x μ, Rep K H x vx ∧ RepH K Tb H μ ∧ slS x lo hi μ (QE K Tb H Q)
theorem slr_all : SlR X (rSl X.K Tb) := by
  refine SlR.imp (SlR.or sl_tupF sl_list) fun vx lo hi H Q h => ?_
  obtain ⟨x, μ, rx, rh, q⟩ := h
  unfold slS at q
  cases x <;> simp only at q
  · rename_i l
    obtain ⟨p, vs, rfl, sq, r⟩ := rx
    refine .inl ⟨p, vs, rfl, sq.seq, fun w => ?_, q.newTup (r.cut lo hi) rh⟩
    have c := r.cut lo hi
    rw [← cutV_eq, w] at c
    exact q.here ⟨p, vs, rfl, sq, c⟩ rh
  · rename_i d
    obtain rfl : vx = .ref d := rx
    obtain ⟨l, e, q⟩ := q
    obtain ⟨vs, e1, r⟩ := rh d _ e
    exact .inr ⟨d, vs, rfl, SqL.of e1, fun p hp => QE.newLst rh (r.cut lo hi) q hp⟩
  · obtain ⟨p, vs, rfl, sq, r⟩ := rx
    exact .inr ⟨p, vs, rfl, sq.seq, fun p hp => QE.newLst rh (r.cut lo hi) q hp⟩

/-! ### calls of built-in functions -/
def rBi (K : PySem.W.Frag) (Tb : List NdefX.NTab) (b : Bi) : List V → Hp → VK → Prop := fun vs H Q => ∃ ts μ, Reps K H ts vs ∧ RepH K Tb H μ ∧ biS b ts μ (QE K Tb H Q)
theorem Reps.one {K : PySem.W.Frag} {H : Hp} {t : T} {vs : List V} (h : Reps K H [t] vs) : ∃ v, vs = [v] ∧ Rep K H t v := by
  unfold Reps at h
  obtain ⟨v, r, rfl, h1, h2⟩ := h
  unfold Reps at h2
  subst h2
  exact ⟨v, rfl, h1⟩
theorem Reps.two {K : PySem.W.Frag} {H : Hp} {t u : T} {vs : List V} (h : Reps K H [t, u] vs) : ∃ v w, vs = [v, w] ∧ Rep K H t v ∧ Rep K H u w := by
  unfold Reps at h
  obtain ⟨v, r, rfl, h1, h2⟩ := h
  obtain ⟨w, rfl, h3⟩ := h2.one
  exact ⟨v, w, rfl, h1, h3⟩
theorem call_lenD : CallR X (.builtin "len") (fun xs H Q => ∃ a kvs, xs = [.ref a] ∧ H a = some (.dK kvs) ∧ Q (.int kvs.length) H) := by
  intro pins s σ H xs us Q I r h
  obtain ⟨a, kvs, rfl, e, q⟩ := h
  obtain ⟨u, rfl, rx⟩ := vals1 r
  cases rx
  exact d_len I (.inl e) fun t s' I' => ⟨.int kvs.length, H, I', ⟨t, rfl⟩, q⟩
theorem kmap_length {kvs : List (Key × T)} {ks : List (Key × V)} (e : ks.map (·.1) = kvs.map (·.1)) : ks.length = kvs.length := by
  have := congrArg List.length e
  simpa using this
theorem bi_len : CallR X (.builtin "len") (rBi X.K Tb .len) := by
  refine CallR.imp (CallR.or call_len call_lenD) fun vs H Q h => ?_
  obtain ⟨ts, μ, rs, rh, q⟩ := h
  dsimp only [biS] at q
  unfold biLen at q
  split at q <;> first | exact q.elim | skip
  rename_i x
  obtain ⟨v, rfl, r⟩ := rs.one
  obtain ⟨n, e, q⟩ := q
  unfold lenS at e
  cases x <;> simp only at e <;> try cases e
  · obtain ⟨rfl, o1, l1⟩ := r
    exact .inl ⟨_, _, rfl, ⟨l1, rfl⟩, q.here (by simp [Rep]) rh⟩
  · obtain ⟨p, vs, rfl, sq, r⟩ := r
    refine .inl ⟨_, vs.length, rfl, .inr ⟨vs, sq.seq, rfl⟩, q.here ?_ rh⟩
    rw [r.length]; simp [Rep]
  · rename_i a
    obtain rfl : v = .ref a := r
    cases hm : μ a with
    | none => rw [hm] at e; cases e
    | some mo =>
      cases mo with
      | lst l =>
        rw [hm] at e; cases e
        obtain ⟨vs, e1, r⟩ := rh a _ hm
        refine .inl ⟨_, vs.length, rfl, .inl ⟨vs, SqL.of e1, rfl⟩, q.here ?_ rh⟩
        rw [r.length]; simp [Rep]
      | dic l =>
        rw [hm] at e; cases e
        obtain ⟨ks, e1, e2, r, _⟩ := rh a _ hm
        refine .inr ⟨a, ks, rfl, e1, q.here ?_ rh⟩
        rw [kmap_length e2]; simp [Rep]
      | _ => rw [hm] at e; cases e
  · obtain ⟨p, vs, rfl, sq, r⟩ := r
    refine .inl ⟨_, vs.length, rfl, .inl ⟨vs, sq.seq, rfl⟩, q.here ?_ rh⟩
    rw [r.length]; simp [Rep]
theorem bi_int : CallR X (.type "int") (rBi X.K Tb .int) := by
  refine CallR.imp call_int1 fun vs H Q h => ?_
  obtain ⟨ts, μ, rs, rh, q⟩ := h
  dsimp only [biS] at q
  unfold biInt at q
  split at q <;> first | exact q.elim | skip
  · rename_i i
    obtain ⟨v, rfl, r⟩ := rs.one
    obtain rfl : v = .int i := r
    exact .inl ⟨i, rfl, q.here rfl rh⟩
  · rename_i i
    obtain ⟨v, rfl, r⟩ := rs.one
    obtain rfl : v = .bl i := r
    exact .inr ⟨i, rfl, q.here rfl rh⟩
theorem bi_max (hc : X.calm = true) : CallR X (.builtin "max") (rBi X.K Tb .max2) := by
  refine CallR.imp (call_max2 hc) fun vs H Q h => ?_
  obtain ⟨ts, μ, rs, rh, q⟩ := h
  dsimp only [biS] at q
  unfold biII at q
  split at q <;> first | exact q.elim | skip
  rename_i i j
  obtain ⟨v, w, rfl, r1, r2⟩ := rs.two
  obtain rfl : v = .int i := r1
  obtain rfl : w = .int j := r2
  exact ⟨i, j, rfl, q.here rfl rh⟩
theorem bi_min (hc : X.calm = true) : CallR X (.builtin "min") (rBi X.K Tb .min2) := by
  refine CallR.imp (call_min2 hc) fun vs H Q h => ?_
  obtain ⟨ts, μ, rs, rh, q⟩ := h
  dsimp only [biS] at q
  unfold biII at q
  split at q <;> first | exact q.elim | skip
  rename_i i j
  obtain ⟨v, w, rfl, r1, r2⟩ := rs.two
  obtain rfl : v = .int i := r1
  obtain rfl : w = .int j := r2
  exact ⟨i, j, rfl, q.here rfl rh⟩
theorem bi_abs : CallR X (.builtin "abs") (rBi X.K Tb .abs) := by
  refine CallR.imp call_abs fun vs H Q h => ?_
  obtain ⟨ts, μ, rs, rh, q⟩ := h
  dsimp only [biS] at q
  unfold biAbs at q
  split at q <;> first | exact q.elim | skip
  rename_i i
  obtain ⟨v, rfl, r⟩ := rs.one
  obtain rfl : v = .int i := r
  exact ⟨i, rfl, q.here rfl rh⟩
theorem bi_tuple : CallR X (.type "tuple") (rBi X.K Tb .tuple) := by
  refine CallR.imp call_tupleF fun vs H Q h => ?_
  obtain ⟨ts, μ, rs, rh, q⟩ := h
  dsimp only [biS] at q
  unfold biTuple at q
  split at q <;> first | exact q.elim | skip
  rename_i x
  obtain ⟨v, rfl, r⟩ := rs.one
  obtain ⟨l, e, q⟩ := q
  cases x <;> unfold itemsOf at e <;> simp only at e <;> try cases e
  · obtain ⟨p, vs, rfl, sq, r'⟩ := r
    exact ⟨p, vs, rfl, .inr ⟨sq.seq, q.here ⟨p, vs, rfl, sq, r'⟩ rh⟩⟩
  · rename_i a
    obtain rfl : v = .ref a := r
    cases h : μ a with
    | none => rw [h] at e; cases e
    | some mo =>
      cases mo with
      | lst l' =>
        rw [h] at e; cases e
        obtain ⟨vs, e1, r'⟩ := rh a _ h
        exact ⟨a, vs, rfl, .inl ⟨SqL.of e1, q.newTup r' rh⟩⟩
      | _ => rw [h] at e; cases e
  · obtain ⟨p, vs, rfl, sq, r'⟩ := r
    exact ⟨p, vs, rfl, .inl ⟨sq.seq, q.newTup r' rh⟩⟩
theorem bi_list : CallR X (.type "list") (rBi X.K Tb .list) := by
  refine CallR.imp call_list_of fun vs H Q h => ?_
  obtain ⟨ts, μ, rs, rh, q⟩ := h
  dsimp only [biS] at q
  unfold biList at q
  split at q <;> first | exact q.elim | skip
  rename_i x
  obtain ⟨v, rfl, r⟩ := rs.one
  obtain ⟨l, e, q⟩ := q
  obtain ⟨p, vs, rfl, sq, r⟩ := itemsOf_rep rh r e
  exact ⟨p, vs, rfl, sq, fun p' hp => QE.newLst rh r q hp⟩
theorem bls_rep {K : PySem.W.Frag} {H : Hp} : ∀ {ts : List T} {vs : List V} {bs : List Bool}, Reps K H ts vs → blsOf ts = some bs → vs = bs.map V.bl
  | [], vs, bs, r, e => by unfold blsOf at e; cases e; unfold Reps at r; subst r; rfl
  | .bl b :: ts, vs, bs, r, e => by
    unfold blsOf at e
    obtain ⟨cs, e1, rfl⟩ := Option.map_eq_some_iff.mp e
    unfold Reps at r
    obtain ⟨v, q, rfl, r1, r2⟩ := r
    obtain rfl : v = .bl b := r1
    rw [bls_rep r2 e1]; rfl
  | .non :: _, _, _, _, e | .int _ :: _, _, _, _, e | .str _ :: _, _, _, _, e | .tup _ :: _, _, _, _, e | .ref _ :: _, _, _, _, e | .rol _ :: _, _, _, _, e => by unfold blsOf at e; cases e
theorem ints_rep {K : PySem.W.Frag} {H : Hp} : ∀ {ts : List T} {vs : List V} {bs : List Int}, Reps K H ts vs → intsOf ts = some bs → vs = bs.map V.int
  | [], vs, bs, r, e => by unfold intsOf at e; cases e; unfold Reps at r; subst r; rfl
  | .int b :: ts, vs, bs, r, e => by
    unfold intsOf at e
    obtain ⟨cs, e1, rfl⟩ := Option.map_eq_some_iff.mp e
    unfold Reps at r
    obtain ⟨v, q, rfl, r1, r2⟩ := r
    obtain rfl : v = .int b := r1
    rw [ints_rep r2 e1]; rfl
  | .non :: _, _, _, _, e | .bl _ :: _, _, _, _, e | .str _ :: _, _, _, _, e | .tup _ :: _, _, _, _, e | .ref _ :: _, _, _, _, e | .rol _ :: _, _, _, _, e => by unfold intsOf at e; cases e
theorem strs_rep {K : PySem.W.Frag} {H : Hp} : ∀ {ts : List T} {vs : List V} {bs : List Str}, Reps K H ts vs → strsOf ts = some bs → vs = bs.map V.str ∧ ∀ x ∈ bs, PyData.strOk x = true ∧ x.length ≤ sizeLine
  | [], vs, bs, r, e => by unfold strsOf at e; cases e; unfold Reps at r; subst r; exact ⟨rfl, fun _ h => nomatch h⟩
  | .str b :: ts, vs, bs, r, e => by
    unfold strsOf at e
    obtain ⟨cs, e1, rfl⟩ := Option.map_eq_some_iff.mp e
    unfold Reps at r
    obtain ⟨v, q, rfl, r1, r2⟩ := r
    obtain ⟨rfl, o1⟩ := r1
    obtain ⟨e2, h⟩ := strs_rep r2 e1
    refine ⟨by rw [e2]; rfl, fun x hx => ?_⟩
    rcases List.mem_cons.mp hx with rfl | hx
    · exact o1
    · exact h x hx
  | .non :: _, _, _, _, e | .bl _ :: _, _, _, _, e | .int _ :: _, _, _, _, e | .tup _ :: _, _, _, _, e | .ref _ :: _, _, _, _, e | .rol _ :: _, _, _, _, e => by unfold strsOf at e; cases e
theorem bi_all (hc : X.calm = true) : CallR X (.builtin "all") (rBi X.K Tb .all) := by
  refine CallR.imp (cr_all hc) fun vs H Q h => ?_
  obtain ⟨ts, μ, rs, rh, q⟩ := h
  dsimp only [biS] at q
  unfold biBls at q
  split at q <;> first | exact q.elim | skip
  rename_i a
  obtain ⟨v, rfl, r⟩ := rs.one
  obtain rfl : v = .ref a := r
  obtain ⟨l, bs, e, e2, q⟩ := q
  obtain ⟨ws, e1, r⟩ := rh a _ e
  exact ⟨a, bs, rfl, by rw [← bls_rep r e2]; exact SqL.of e1, q.here rfl rh⟩
theorem bi_any (hc : X.calm = true) : CallR X (.builtin "any") (rBi X.K Tb .any) := by
  refine CallR.imp (cr_any hc) fun vs H Q h => ?_
  obtain ⟨ts, μ, rs, rh, q⟩ := h
  dsimp only [biS] at q
  unfold biBls at q
  split at q <;> first | exact q.elim | skip
  rename_i a
  obtain ⟨v, rfl, r⟩ := rs.one
  obtain rfl : v = .ref a := r
  obtain ⟨l, bs, e, e2, q⟩ := q
  obtain ⟨ws, e1, r⟩ := rh a _ e
  exact ⟨a, bs, rfl, by rw [← bls_rep r e2]; exact SqL.of e1, q.here rfl rh⟩
theorem bi_sum (hc : X.calm = true) : CallR X (.builtin "sum") (rBi X.K Tb .sum) := by
  refine CallR.imp (cr_sum hc) fun vs H Q h => ?_
  obtain ⟨ts, μ, rs, rh, q⟩ := h
  dsimp only [biS] at q
  unfold biSum at q
  split at q <;> first | exact q.elim | skip
  rename_i a
  obtain ⟨v, rfl, r⟩ := rs.one
  obtain rfl : v = .ref a := r
  obtain ⟨l, bs, e, e2, q⟩ := q
  obtain ⟨ws, e1, r⟩ := rh a _ e
  exact ⟨a, bs, rfl, by rw [← ints_rep r e2]; exact SqL.of e1, q.here rfl rh⟩

/-! ### methods -/
def rMe (K : PySem.W.Frag) (Tb : List NdefX.NTab) (m : Me) : V → List V → Hp → VK → Prop := fun vx vs H Q => ∃ x ts μ, Rep K H x vx ∧ Reps K H ts vs ∧ RepH K Tb H μ ∧ meS m x ts μ (QE K Tb H Q)
theorem QE.write {K : PySem.W.Frag} {H : Hp} {μ : Mu} {Q : VK} {a : Addr} {o : HO} {u : HO} {mo : MO} {t : T} {v : V} (q : QE K Tb H Q t (mset μ a mo)) (rh : RepH K Tb H μ) (h : H a = some u) (mu : Wr u)
    (r : RepO K (upd H a o) a mo) (rt : Rep K (upd H a o) t v) : Q v (upd H a o) := q _ _ (TK.write h mu) rt (rh.write h mu r)
theorem Reps.dropLast {K : PySem.W.Frag} {H : Hp} {ts : List T} {vs : List V} (r : Reps K H ts vs) : Reps K H ts.dropLast vs.dropLast := by
  rw [List.dropLast_eq_take, List.dropLast_eq_take, r.length]
  exact r.take _
theorem me_append : MtR X "list.append" (rMe X.K Tb .append) := by
  refine MtR.imp mt_append fun vx vs H Q h => ?_
  obtain ⟨x, ts, μ, rx, rs, rh, q⟩ := h
  cases x <;> unfold meS at q <;> simp only at q
  rename_i a
  unfold meAppend at q
  split at q <;> first | exact q.elim | skip
  rename_i y
  obtain rfl : vx = .ref a := rx
  obtain ⟨v, rfl, r⟩ := rs.one
  obtain ⟨l, e, hl, q⟩ := q
  obtain ⟨ws, e1, r1⟩ := rh a _ e
  have tk := TK.write (K := X.K) (o := .lst (ws ++ [v])) e1 trivial
  exact ⟨a, ws, v, rfl, rfl, e1, by rw [← r1.length]; exact hl, q.write rh e1 trivial ⟨_, upd_same, (r1.mono tk).append (.cons (r.mono tk) .nil)⟩ rfl⟩
theorem me_pop : MtR X "list.pop" (rMe X.K Tb .pop) := by
  refine MtR.imp mt_pop fun vx vs H Q h => ?_
  obtain ⟨x, ts, μ, rx, rs, rh, q⟩ := h
  cases x <;> unfold meS at q <;> simp only at q
  rename_i a
  unfold mePop at q
  split at q <;> first | exact q.elim | skip
  obtain rfl : vx = .ref a := rx
  unfold Reps at rs
  subst rs
  obtain ⟨l, y, e, hl, q⟩ := q
  obtain ⟨ws, e1, r1⟩ := rh a _ e
  obtain ⟨v, hv, rv⟩ := r1.get hl
  have tk := TK.write (K := X.K) (o := .lst ws.dropLast) e1 trivial
  refine ⟨a, ws, v, rfl, rfl, e1, by rw [← r1.length]; exact hv, q.write rh e1 trivial ⟨_, upd_same, r1.dropLast.mono tk⟩ (rv.mono tk)⟩
theorem IsTup.parts {h : Heap} {b : Addr} {xs : Array Value} (p : IsTup h b xs) : ∃ (n : Nat) (od : Option Addr) (sl : Array (Option Value)), h.get? b = some (⟨.type "tuple", od, .seq xs n, sl⟩ : Obj) := by
  obtain ⟨⟨c, d, dt, sl⟩, e, hc, n, hd⟩ := p
  simp only at hc hd
  subst hc hd
  exact ⟨n, d, sl, e⟩
end
end TV

/-! extend by a list or a tuple. -/
namespace TV
open PySem PySem.Spec PyProof.Rows L2
/-- a list or a tuple stands there -/
def SeqAt2 (h : Heap) (b : Addr) (xs : Array Value) : Prop := ∃ (o : Obj) (n : Nat) (N : String), h.get? b = some o ∧ o.cls = .type N ∧ (N = "list" ∨ N = "tuple") ∧ o.data = .seq xs n
theorem meets_extend2 (l b : Addr) (xs ys : Array Value) (n : Nat) (small : xs.size + ys.size ≤ sizeLine) :
    Meets (Builtin.«list.extend» ⟨[.ref l, .ref b], []⟩) (fun _ R s => s.heap.get? l = some { cls := .type "list", dict := none, data := .seq xs n, slots := #[] } ∧ SeqAt2 s.heap b ys ∧
      R (.ok (.ret .none)) { s with heap := s.heap.update l (Obj.mapSeq fun z => z ++ ys), toks := s.toks }) := by
  refine .of_wp fun prog w A R s h => ?_
  obtain ⟨hl, ⟨o, m, N, hb, hc, hN, hd⟩, hR⟩ := h
  have same : (Builtin.List.listSameRef (.ref l) (.ref b) || Value.type N == Value.type "list" || Value.type N == Value.type "tuple") = true := by
    rcases hN with e | e <;> subst e <;> simp
  have few : (!xs.isEmpty && Builtin.List.listTooLong (xs.size + ys.size)) = false := by rw [notLongL small, Bool.and_false]
  show wpAny (model prog w) A.in1 (Builtin.List.listExtendWith (Value.ref l) (.ref b) Value.none) _ _ s
  unfold Builtin.List.listExtendWith
  refine wpAny_bind (wpAny_typeOf (T := N) ⟨o, hb, hc⟩ ?_)
  rw [if_pos same]
  refine wpAny_bind ?_
  unfold Builtin.List.listItems
  refine wpAny_bind (wpAny_seqItems hb hd (wpAny_pure ?_))
  refine wpAny_bind (wpAny_bind (wpAny_seqItems hl rfl (wpAny_pure ?_)))
  rw [if_neg (by rw [few]; exact Bool.false_ne_true)]
  refine wpAny_bind ?_
  have z : sizeLine = 16777216 := sizeLine_eq
  refine wpAny_updateSeq hl rfl ?_ (hz := by omega) (_hz' := by rw [Array.size_append]; omega)
  exact wpAny_pure ⟨_, rfl, hR⟩

section
variable {X : Cx}
theorem seqAt2_of {pins : List (Addr × Obj)} {σ : L2.St} {H : Hp} {s : Shared} {p : Addr} {vs : List V} (I : Inv X pins σ H s) (h : SqL X.K H p vs ∨ SqT X.K H p vs) : ∃ its : List Value, Vals vs its ∧ SeqAt2 s.heap p its.toArray := by
  rcases h with h | h
  · obtain ⟨its, r, pl, _⟩ := I.list h
    obtain ⟨o, n, e, c, _, d⟩ := pl
    exact ⟨its, r, o, n, _, e, c, .inl rfl, d⟩
  · obtain ⟨its, r, pl, _⟩ := I.tuple h
    obtain ⟨o, e, c, n, d⟩ := pl
    exact ⟨its, r, o, n, _, e, c, .inr rfl, d⟩
theorem me_extend : MtR X "list.extend" (rMe X.K Tb .extend) := by
  intro pins s σ H vx vs v us Q I rv rvs h
  obtain ⟨x, ts, μ, rx, rs, rh, q⟩ := h
  cases x <;> unfold meS at q <;> simp only at q
  rename_i a
  unfold meExtend at q
  split at q <;> first | exact q.elim | skip
  rename_i y
  obtain rfl : vx = .ref a := rx
  obtain ⟨vy, rfl, ry⟩ := rs.one
  obtain ⟨l, r, e, e2, hl, q⟩ := q
  obtain ⟨p, zs, rfl, sq, r2⟩ := itemsOf_rep rh ry e2
  obtain ⟨ws, e1, r1⟩ := rh a _ e
  cases rv
  obtain ⟨u, rfl, ru⟩ := rvs.one
  cases ru
  obtain ⟨z, its, n, rr, hlen, eo⟩ := I.lstM e1
  obtain ⟨its2, rr2, sq2⟩ := seqAt2_of I sq
  have k1 := r1.length
  have k2 := r2.length
  have k3 := rr2.length
  have tk := TK.write (K := X.K) (o := .lst (ws ++ zs)) e1 trivial
  refine call_meets F.slot_list_extend ⟨_, eo, rfl⟩ F.entry_list_extend (F.args_list_extend_2 _ _) (meets_extend2 a p its.toArray its2.toArray n (by simp only [List.size_toArray]; omega)) ⟨eo, sq2, ?_⟩
  refine ⟨.non, _, I.lset (its' := its ++ its2) e1 eo (by simp) (rr.append rr2) (by rw [List.length_append]; omega), rfl, ?_⟩
  exact q.write rh e1 trivial ⟨_, upd_same, (r1.mono tk).append (r2.mono tk)⟩ rfl
theorem me_get1 (hu : X.A.units + 200 < cLine) : MtR X "dict.get" (rMe X.K Tb .get1) := by
  intro pins s σ H vx vs v us Q I rv rvs h
  obtain ⟨x, ts, μ, rx, rs, rh, q⟩ := h
  cases x <;> unfold meS at q <;> simp only at q
  rename_i a
  unfold meGet1 at q
  split at q <;> first | exact q.elim | skip
  rename_i y
  obtain rfl : vx = .ref a := rx
  obtain ⟨vy, rfl, ry⟩ := rs.one
  obtain ⟨kvs, k, e, e2, q⟩ := q
  obtain ⟨ks, e4, e5, r, _⟩ := rh a _ e
  have ey := keyOf_rep ry e2
  subst ey
  cases rv
  obtain ⟨u, rfl, ru⟩ := rvs.one
  refine d_get1 (by omega) I (DGet.k e4) ru fun w' s' I' rw' => ⟨_, H, I', rw', ?_⟩
  rcases valV_rep e5 r k with ⟨a1, a2⟩ | ⟨t', v', a1, a2, rv'⟩
  · rw [a1] at q; rw [a2]; exact q.here rfl rh
  · rw [a1] at q; rw [a2]; exact q.here rv' rh
theorem me_get2 (hu : X.A.units + 200 < cLine) : MtR X "dict.get" (rMe X.K Tb .get2) := by
  intro pins s σ H vx vs v us Q I rv rvs h
  obtain ⟨x, ts, μ, rx, rs, rh, q⟩ := h
  cases x <;> unfold meS at q <;> simp only at q
  rename_i a
  unfold meGet2 at q
  split at q <;> first | exact q.elim | skip
  rename_i y d
  obtain rfl : vx = .ref a := rx
  obtain ⟨vy, vd, rfl, ry, rd⟩ := rs.two
  obtain ⟨kvs, k, e, e2, q⟩ := q
  obtain ⟨ks, e4, e5, r, _⟩ := rh a _ e
  have ey := keyOf_rep ry e2
  subst ey
  cases rv
  obtain ⟨u, u2, rfl, ru, ru2⟩ := rvs.two
  refine d_get2 (by omega) I (DGet.k e4) ru ru2 fun w' s' I' rw' => ⟨_, H, I', rw', ?_⟩
  rcases valV_rep e5 r k with ⟨a1, a2⟩ | ⟨t', v', a1, a2, rv'⟩
  · rw [a1] at q; rw [a2]; exact q.here rd rh
  · rw [a1] at q; rw [a2]; exact q.here rv' rh
theorem catS_join : ∀ zs : List Str, Str.join ⟨#[]⟩ zs = catS zs
  | [] => rfl
  | [x] => by
    show x = x ++ (⟨#[]⟩ : Str)
    have e : (x ++ (⟨#[]⟩ : Str)).cps = x.cps ++ #[] := rfl
    have e2 : x.cps ++ #[] = x.cps := by simp
    cases x
    simp only [e2] at e
    exact (congrArg Str.mk e).symm
  | x :: y :: r => by
    show x ++ (⟨#[]⟩ : Str) ++ Str.join ⟨#[]⟩ (y :: r) = x ++ catS (y :: r)
    rw [catS_join (y :: r)]
    have e2 : x ++ (⟨#[]⟩ : Str) = x := by
      show (⟨x.cps ++ #[]⟩ : Str) = x
      simp
    rw [e2]
theorem catS_ok : ∀ zs : List Str, (∀ x ∈ zs, PyData.strOk x = true ∧ x.length ≤ sizeLine) → PyData.strOk (catS zs) = true ∧ (catS zs).length = (zs.map Str.length).sum
  | [], _ => ⟨by simp [PyData.strOk, catS], rfl⟩
  | x :: r, h => by
    obtain ⟨a, b⟩ := catS_ok r fun y hy => h y (List.mem_cons_of_mem _ hy)
    refine ⟨strOk_append (h x List.mem_cons_self).1 a, ?_⟩
    show (x ++ catS r).length = _
    rw [len_append, b, List.map_cons, List.sum_cons]
theorem me_join : MtR X "str.join" (rMe X.K Tb .join) := by
  refine MtR.imp mt_join fun vx vs H Q h => ?_
  obtain ⟨x, ts, μ, rx, rs, rh, q⟩ := h
  cases x <;> unfold meS at q <;> simp only at q
  rename_i sep
  unfold meJoin at q
  split at q <;> first | exact q.elim | skip
  rename_i a
  obtain ⟨rfl, _⟩ := rx
  obtain ⟨vy, rfl, ry⟩ := rs.one
  obtain rfl : vy = .ref a := ry
  obtain ⟨l, zs, e, e2, rfl, hz, q⟩ := q
  obtain ⟨ws, e1, r1⟩ := rh a _ e
  obtain ⟨rfl, ok⟩ := strs_rep r1 e2
  obtain ⟨c1, c2⟩ := catS_ok zs ok
  refine ⟨_, a, zs, rfl, rfl, .inl (SqL.of e1), ?_, ?_⟩
  · have z : sizeLine = 16777216 := sizeLine_eq
    show (zs.map (·.length)).sum + zs.length * 0 ≤ 16777216
    rw [Nat.mul_zero, Nat.add_zero, ← z]
    exact hz
  · rw [TL.join_eq, catS_join]
    exact q.here (Rep.str_mk c1 (by rw [c2]; exact hz)) rh

/-! ### what a value is -/
theorem isi_ok {K : PySem.W.Frag} {H : Hp} {μ : Mu} (rh : RepH K Tb H μ) {x : T} {v : V} (r : Rep K H x v) {ty : String} {b : Bool} (e : isiS ty x μ = some b) (hty : ty ∈ ["int", "bool", "str", "tuple", "list", "dict"]) :
    ∃ t : String, TyX K H v (.type t) ∧ kitB t ty = some b := by
  simp only [List.mem_cons, List.not_mem_nil, or_false] at hty
  cases x <;> unfold isiS at e <;> simp only at e
  · obtain rfl : v = .non := r
    refine ⟨"NoneType", .base .non, ?_⟩
    cases e
    rcases hty with rfl | rfl | rfl | rfl | rfl | rfl <;> decide +kernel
  · obtain rfl : v = .bl _ := r
    refine ⟨"bool", .base (.bl _), ?_⟩
    cases e
    rcases hty with rfl | rfl | rfl | rfl | rfl | rfl <;> decide +kernel
  · obtain rfl : v = .int _ := r
    refine ⟨"int", .base (.int _), ?_⟩
    cases e
    rcases hty with rfl | rfl | rfl | rfl | rfl | rfl <;> decide +kernel
  · obtain ⟨rfl, _⟩ := r
    refine ⟨"str", .base (.str _), ?_⟩
    cases e
    rcases hty with rfl | rfl | rfl | rfl | rfl | rfl <;> decide +kernel
  · obtain ⟨p, vs, rfl, sq, _⟩ := r
    refine ⟨"tuple", ?_, ?_⟩
    · rcases sq with ⟨o, sq, _⟩ | ⟨o, its, n, h1, h2, _⟩
      · exact .fTuple sq
      · exact .kTuple h1 h2
    · cases e
      rcases hty with rfl | rfl | rfl | rfl | rfl | rfl <;> decide +kernel
  · rename_i a
    obtain rfl : v = .ref a := r
    cases hm : μ a with
    | none => rw [hm] at e; cases e
    | some mo =>
      cases mo with
      | lst l =>
        rw [hm] at e
        obtain ⟨vs, e1, _⟩ := rh a _ hm
        refine ⟨"list", .base (.lst e1), ?_⟩
        cases e
        rcases hty with rfl | rfl | rfl | rfl | rfl | rfl <;> decide +kernel
      | dic l =>
        rw [hm] at e
        obtain ⟨vs, e1, _⟩ := rh a _ hm
        refine ⟨"dict", .base (.dK e1), ?_⟩
        cases e
        rcases hty with rfl | rfl | rfl | rfl | rfl | rfl <;> decide +kernel
      | _ => rw [hm] at e; cases e
  · cases e
theorem truth_ok {K : PySem.W.Frag} {H : Hp} {μ : Mu} (rh : RepH K Tb H μ) {x : T} {v : V} (r : Rep K H x v) {b : Bool} (e : truthS x μ = some b) : TruV K v H b := by
  cases x <;> unfold truthS at e <;> simp only at e
  · obtain rfl : v = .non := r; cases e; rfl
  · obtain rfl : v = .bl _ := r; cases e; rfl
  · obtain rfl : v = .int _ := r; cases e; rfl
  · obtain ⟨rfl, _, h⟩ := r; cases e; exact ⟨h, rfl⟩
  · obtain ⟨p, vs, rfl, sq, q⟩ := r
    cases e
    refine .inr (.inl ⟨vs, sq.seq, ?_⟩)
    rename_i l
    cases l <;> cases vs <;> first | rfl | (have := q.length; simp at this)
  · rename_i a
    obtain rfl : v = .ref a := r
    cases hm : μ a with
    | none => rw [hm] at e; cases e
    | some mo =>
      cases mo with
      | lst l =>
        rw [hm] at e
        obtain ⟨vs, e1, q⟩ := rh a _ hm
        cases e
        refine .inl ⟨vs, SqL.of e1, ?_⟩
        cases l <;> cases vs <;> first | rfl | (have := q.length; simp at this)
      | dic l =>
        rw [hm] at e
        obtain ⟨vs, e1, e2, q⟩ := rh a _ hm
        cases e
        refine .inr (.inr ⟨vs, e1, ?_⟩)
        have := kmap_length e2
        cases l <;> cases vs <;> first | rfl | simp at this
      | _ => rw [hm] at e; cases e
  · obtain ⟨p, vs, rfl, sq, q⟩ := r
    cases e
    refine .inl ⟨vs, sq.seq, ?_⟩
    rename_i l
    cases l <;> cases vs <;> first | rfl | (have := q.length; simp at this)
end
end TV

/-! t[::-1] of lists and tuples. -/
namespace TV
open PySem PySem.Spec PyProof.Rows L2
section
variable {prog : Program} {w : World} {A : Around} {E : Value → Shared → Prop} {s : Shared}
theorem adjust_back (n : Nat) : Builtin.Slice.sliceAdjust none none (-1) (n : Int) = ((n : Int) - 1, -1) := by
  have h1 : ((-1 : Int) < 0) := by omega
  unfold Builtin.Slice.sliceAdjust
  simp only [h1, if_true]
theorem places_back (n : Nat) : Builtin.Slice.slicePlaces ((n : Int) - 1) (-1) (-1) = n := by
  unfold Builtin.Slice.slicePlaces
  have h1 : ¬ ((-1 : Int) > 0) := by omega
  simp only [h1, if_false, show (- -1 : Int) = 1 from rfl, Int.ediv_one]
  split <;> omega
theorem part_int {v : Value} {i : Int} {Q : Option Int → Shared → Prop} (p : IsPart v (some i)) (h : Q (some i) s) : wpAny (model prog w) A (Builtin.Slice.slicePartIndex v) Q E s := HT.slicePart_ p h
theorem applied_back {sl : Addr} {vl vu vs : Value} {n : Nat} {Q : Int × Int × Nat → Shared → Prop} (hs : s.heap.IsSliceOf sl vl vu vs) (pl : IsPart vl none) (pu : IsPart vu none) (ps : IsPart vs (some (-1)))
    (h : Q ((n : Int) - 1, -1, n) s) : wpAny (model prog w) A (Builtin.Slice.sliceApplied (.ref sl) (pure (n : Int))) Q E s := by
  obtain ⟨o, ho, hc, hd⟩ := id hs
  unfold Builtin.Slice.sliceApplied Builtin.Slice.sliceFields
  refine wpAny_bind (wpAny_bind (wpAny_field ho hd (x := vl) rfl (wpAny_bind (wpAny_field ho hd (x := vu) rfl (wpAny_bind (wpAny_field ho hd (x := vs) rfl (wpAny_pure ?_)))))))
  refine wpAny_bind (part_int ps ?_)
  show wpAny _ _ (if ((-1 : Int) == 0) = true then _ else _) _ _ s
  rw [if_neg (by decide)]
  refine wpAny_bind (HT.slicePart_ pl (wpAny_bind (HT.slicePart_ pu (wpAny_bind (wpAny_pure ?_)))))
  show wpAny _ _ (match Builtin.Slice.sliceAdjust none none (-1) (n : Int) with | (lo, hi) => pure (lo, (-1 : Int), Builtin.Slice.slicePlaces lo hi (-1))) _ _ s
  rw [adjust_back n]
  show wpAny _ _ (pure ((n : Int) - 1, (-1 : Int), Builtin.Slice.slicePlaces ((n : Int) - 1) (-1) (-1))) _ _ s
  rw [places_back]
  exact wpAny_pure h
theorem pick_back (xs : Array Value) : ((List.range xs.size).filterMap fun (m : Nat) => xs[((xs.size : Int) - 1 + (m : Int) * -1).toNat]?).toArray = xs.toList.reverse.toArray := by
  congr 1
  refine List.ext_getElem? fun i => ?_
  have e : ∀ k, k ≤ xs.size → ((List.range k).filterMap fun (m : Nat) => xs[((xs.size : Int) - 1 + (m : Int) * -1).toNat]?) = (xs.toList.reverse).take k := by
    intro k
    induction k with
    | zero => intro _; rfl
    | succ k ih =>
      intro hk
      rw [List.range_succ, List.filterMap_append, ih (by omega), List.take_add_one]
      congr 1
      have e1 : ((xs.size : Int) - 1 + (k : Int) * -1).toNat = xs.size - 1 - k := by omega
      simp only [List.filterMap_cons, List.filterMap_nil, e1]
      have lt : xs.size - 1 - k < xs.size := by omega
      rw [List.getElem?_reverse (by simp; omega)]
      simp [lt]
  rw [e xs.size (Nat.le_refl _), List.take_of_length_le (by simp)]
theorem getItem_tuple_back {t sl : Addr} {items : Array Value} {vl vu vs : Value} {Q : Value → Shared → Prop} (ht : IsTup s.heap t items) (hs : s.heap.IsSliceOf sl vl vu vs) (pl : IsPart vl none) (pu : IsPart vu none) (ps : IsPart vs (some (-1)))
    (h : Q (.ref s.heap.objs.size) { s with heap := s.heap.push { cls := .type "tuple", data := .seq items.toList.reverse.toArray } })
    (hsz : items.size ≤ sizeLine) : wpAny (model prog w) A (getItem (.ref t) (.ref sl)) Q E s := by
  have small : sizeOk (.seq items.toList.reverse.toArray) := by
    show items.toList.reverse.toArray.size ≤ sizeLine
    simpa using hsz
  obtain ⟨o, ho, hc, hd⟩ := id hs
  have hT : s.TypeIs (.ref sl) "slice" := ⟨o, ho, hc⟩
  unfold getItem
  try with_reducible refine wpAny_holding ?_
  first | refine wpAny_bind (wpAny_pure ?_) | skip
  refine wpAny_bind (wpAny_sequenceKey ht.typeIs (by decide) ?_)
  refine wpAny_bind (wpAny_callSpecial?_slot (name := Str.ofString "__getitem__") ht.typeIs PyProof.Rows.slot_tuple_getitem (wpAny_call_entry PyProof.Rows.slot_tuple_getitem ht.typeIs entry_tuple_getitem ?_ (args_tuple_getitem _ _)))
  show wpAny _ _ (Builtin.Tuple.tupleItemsOf (.ref t) >>= _) _ _ s
  refine wpAny_bind (PyProof.Rows.tupleItemsOf_ ht ?_)
  refine wpAny_bind (wpAny_typeOf hT ?_)
  rw [if_pos (by decide)]
  refine wpAny_bind (applied_back hs pl pu ps ?_)
  have no : ¬ ((((items.size : Int) - 1) == 0 && (-1 : Int) == 1 && items.size == items.size) = true) := by simp
  show wpAny _ _ (if (((items.size : Int) - 1) == 0 && (-1 : Int) == 1 && items.size == items.size) = true then _ else _) _ _ s
  rw [if_neg no, pick_back]
  first
    | exact wpAny_bind (m := Builtin.Tuple.tupleExact _) (wpAny_newObj_type (wpAny_pure ⟨_, rfl, wpAny_pure h⟩) small)
    | exact wpAny_bind (m := Builtin.Tuple.tupleExact _) (wpAny_newObj_type (wpAny_bind (wpAny_pure (wpAny_pure ⟨_, rfl, wpAny_pure h⟩))) small)
    | exact wpAny_bind (wpAny_bind (m := Builtin.Tuple.tupleExact _) (wpAny_newObj_type (wpAny_pure (wpAny_pure ⟨_, rfl, wpAny_pure h⟩)) small))
    | exact wpAny_bind (wpAny_bind (m := Builtin.Tuple.tupleExact _) (wpAny_newObj_type (wpAny_pure ⟨_, rfl, wpAny_pure h⟩) small))
end
section
variable {X : Cx} {e : Expr} {te : TE} {k : Nat} {p1 p2 p3 pos : Pos}
def tRevA (K : PySem.W.Frag) (te : TE) : TE := fun σ H Q => te σ H fun x H1 => ∃ a xs, x = .ref a ∧ ((SqL K H1 a xs ∧ ∀ p, H1 p = none → Q (.ref p) (upd H1 p (.lst xs.reverse))) ∨ (SqT K H1 a xs ∧ NewT H1 Q xs.reverse))
theorem pe_revA (he : PE X e te) : PE X (.Subscript e (.Slice none none (some (.UnaryOp .USub (.Constant (.int 1) k p1) p2)) p3) pos) (tRevA X.K te) := by
  refine ⟨fun pins s σ H Q I h => ?_⟩
  refine Subscript_ (thn (he.run pins s σ H _ I h) fun v s1 ⟨x, H1, I1, r1, q1⟩ => ?_)
  obtain ⟨a, xs, ex, q⟩ := q1
  subst ex
  cases r1
  have step : PO X (some (.UnaryOp .USub (.Constant (.int 1) k p1) p2)) (tPart (tUn (rU fun i => .int (-i)) (tC (.int 1)))) := po_some (pe_un un_neg pe_int)
  refine wpAny_Slice (thn (po_none.run pins s1 σ H1 (fun o H2 => o = none ∧ H2 = H1) I1 ⟨rfl, rfl⟩) fun vl s2 ⟨l, H2, I2, pl, el, e2⟩ => ?_)
  subst el e2
  refine thn (po_none.run pins s2 σ H2 (fun o H3 => o = none ∧ H3 = H2) I2 ⟨rfl, rfl⟩) fun vu s3 ⟨u, H3, I3, pu, eu, e3⟩ => ?_
  subst eu e3
  refine thn (step.run pins s3 σ H3 (fun o H4 => o = some (-1) ∧ H4 = H3) I3 ⟨1, rfl, -1, rfl, rfl, rfl⟩) fun vs s4 ⟨o, H4, I4, ps, eo, e4⟩ => ?_
  subst eo e4
  have I5 : Inv X pins σ H4 { s4 with heap := s4.heap.push { cls := .type "slice", data := .fields #[vl, vu, vs] } } := I4.kept (t' := s4.toks) fun b ob q => Heap.get?_push_of_some _ q
  show wpAny (model X.prog X.w) X.A (subscriptTail e (.Slice none none (some (.UnaryOp .USub (.Constant (.int 1) k p1) p2)) p3) (.ref a) (.ref s4.heap.objs.size)) (EP X pins σ Q) X.xe { s4 with heap := s4.heap.push { cls := .type "slice", data := .fields #[vl, vu, vs] } }
  rcases q with ⟨hx, q⟩ | ⟨hx, q⟩
  · obtain ⟨its, r, ht, hz⟩ := I5.list hx
    have hlen := r.length
    refine tail_any (ops := [.ref a, .ref s4.heap.objs.size]) ht.isList.typeIs (PySem.slot_list_getitem.lookup) ?_ (by with_unfolding_all rfl)
    refine wpAny_getItem_list_slice ht.isList (Heap.IsSliceOf.new _ vl vu vs) pl pu ps (by decide) ?_ (by rw [List.size_toArray]; omega)
    rw [PySem.W.krv_pick]
    refine ⟨.ref _, _, I5.laid (t' := s4.toks) (o := .lst xs.reverse) (fun b ob q => Heap.get?_push_of_some _ q) (Nat.le_refl _) ?_, rfl, q _ (I5.hok.fresh (Nat.le_refl _))⟩
    exact ⟨by rw [List.length_reverse]; exact hz, _, 0, r.reverse, Heap.get?_push_size _ rfl⟩
  · obtain ⟨its, r, ht, hz⟩ := I5.tuple hx
    have hlen := r.length
    refine tail_any (ops := [.ref a, .ref s4.heap.objs.size]) ht.typeIs (PyProof.Rows.slot_tuple_getitem.lookup) ?_ (by with_unfolding_all rfl)
    refine getItem_tuple_back ht (Heap.IsSliceOf.new _ vl vu vs) pl pu ps ?_ (by rw [List.size_toArray]; omega)
    have := newT_end (t' := s4.toks) I5 r.reverse (by rw [List.length_reverse]; exact hz) q
    exact this
end
end TV

/-! dict(t) of a tuple of pairs. -/
namespace TV
open PySem PySem.Spec PyProof.Rows L2

/-- a dict's pairs, borne -/
structure RepD (K : PySem.W.Frag) (H : Hp) (kvs : List (Key × T)) (ks : List (Key × V)) : Prop where
  keys : ks.map (·.1) = kvs.map (·.1)
  vals : Reps K H (kvs.map (·.2)) (ks.map (·.2))
theorem RepD.nil {K : PySem.W.Frag} {H : Hp} : RepD K H [] [] := ⟨rfl, Reps.nil⟩
theorem RepD.cons {K : PySem.W.Frag} {H : Hp} {k : Key} {t : T} {v : V} {kvs : List (Key × T)} {ks : List (Key × V)} (r : Rep K H t v) (d : RepD K H kvs ks) : RepD K H ((k, t) :: kvs) ((k, v) :: ks) :=
  ⟨by simp [d.keys], Reps.cons r d.vals⟩
theorem RepD.uncons {K : PySem.W.Frag} {H : Hp} {k k' : Key} {t : T} {v : V} {kvs : List (Key × T)} {ks : List (Key × V)} (d : RepD K H ((k, t) :: kvs) ((k', v) :: ks)) : k' = k ∧ Rep K H t v ∧ RepD K H kvs ks := by
  obtain ⟨a, b⟩ := d
  simp only [List.map_cons, List.cons.injEq] at a
  simp only [List.map_cons] at b
  unfold Reps at b
  obtain ⟨v', r, e, h1, h2⟩ := b
  simp only [List.cons.injEq] at e
  obtain ⟨rfl, rfl⟩ := e
  exact ⟨a.1, h1, a.2, h2⟩
theorem putK_cons {k k' : Key} {v v' : V} {ks : List (Key × V)} : putK ((k', v') :: ks) k v = if k' = k then (k', v) :: (ks.map fun kv => if kv.1 = k then (kv.1, v) else kv) else (k', v') :: putK ks k v := by
  unfold putK
  by_cases h : k' = k
  · simp [h]
  · simp only [List.any_cons, h, decide_false, Bool.false_or, List.map_cons, if_false]
    split <;> simp
/-- in a dict no key stands twice -/
theorem put_map {k : Key} {v : V} : ∀ {ks : List (Key × V)}, k ∉ ks.map (·.1) → (ks.map fun kv => if kv.1 = k then (kv.1, v) else kv) = ks
  | [], _ => rfl
  | (k', v') :: r, h => by
    simp only [List.map_cons, List.mem_cons, not_or] at h
    rw [List.map_cons, put_map h.2, if_neg (fun e => h.1 e.symm)]
theorem RepD.put {K : PySem.W.Frag} {H : Hp} {k : Key} {t : T} {v : V} (r : Rep K H t v) : ∀ {kvs : List (Key × T)} {ks : List (Key × V)}, RepD K H kvs ks → (ks.map (·.1)).Nodup → RepD K H (putT kvs k t) (putK ks k v)
  | [], [], _, _ => by
    have e : putK ([] : List (Key × V)) k v = [(k, v)] := rfl
    rw [e]
    exact RepD.cons r RepD.nil
  | [], _ :: _, d, _ => by have := d.keys; simp at this
  | _ :: _, [], d, _ => by have := d.keys; simp at this
  | (k1, t1) :: kvs, (k2, v2) :: ks, d, nd => by
    obtain ⟨rfl, r1, d1⟩ := d.uncons
    simp only [List.map_cons, List.nodup_cons] at nd
    rw [putK_cons]
    unfold putT
    by_cases h : k2 = k
    · rw [if_pos h, if_pos h]
      subst h
      rw [put_map nd.1]
      exact RepD.cons r d1
    · rw [if_neg h, if_neg h]
      exact RepD.cons r1 (d1.put r nd.2)
theorem putK_keys {k : Key} {v : V} {ks : List (Key × V)} (nd : (ks.map (·.1)).Nodup) : ((putK ks k v).map (·.1)).Nodup := by
  unfold putK
  split
  · rename_i h
    have e : (ks.map fun kv => if kv.1 = k then (kv.1, v) else kv).map (·.1) = ks.map (·.1) := by
      rw [List.map_map]
      refine List.map_congr_left fun p _ => ?_
      simp only [Function.comp]
      split <;> rfl
    rw [e]; exact nd
  · rename_i h
    rw [List.map_append, List.nodup_append]
    refine ⟨nd, by simp, fun a ha b hb e => ?_⟩
    simp only [List.map_cons, List.map_nil, List.mem_singleton] at hb
    subst e
    subst hb
    obtain ⟨p, hp, ep⟩ := List.mem_map.mp ha
    exact h (List.any_eq_true.mpr ⟨p, hp, by simpa using ep⟩)
theorem RepD.merge {K : PySem.W.Frag} {H : Hp} : ∀ {ps : List (Key × T)} {qs : List (Key × V)} {kvs : List (Key × T)} {ks : List (Key × V)}, RepD K H ps qs → RepD K H kvs ks → (ks.map (·.1)).Nodup →
    RepD K H (ps.foldl (fun d p => putT d p.1 p.2) kvs) (mergeK ks qs)
  | [], [], _, _, _, d, _ => d
  | [], _ :: _, _, _, p, _, _ => by have := p.keys; simp at this
  | _ :: _, [], _, _, p, _, _ => by have := p.keys; simp at this
  | (k, t) :: ps, (k', v) :: qs, kvs, ks, p, d, nd => by
    obtain ⟨rfl, r, p1⟩ := p.uncons
    exact RepD.merge (ps := ps) (qs := qs) (kvs := putT kvs k' t) (ks := putK ks k' v) p1 (d.put r nd) (putK_keys nd)

section
variable {X : Cx} {pins : List (Addr × Obj)} {σ : L2.St} {H : Hp} {s : Shared}
/-- what is known of a tuple's pairs -/
structure Prs (X : Cx) (H : Hp) (h : Heap) (ps : List (Key × T)) (its : List Value) (Ts : List Addr) (kv : List (Value × Value)) (rs : List (Key × Value)) (qs : List (Key × V)) : Prop where
  refs : its = Ts.map Value.ref
  len : Ts.length = kv.length
  tups : ∀ (j : Nat) (t : Addr) (k v : Value), Ts[j]? = some t → kv[j]? = some (k, v) → IsTup h t #[k, v]
  len2 : rs.length = kv.length
  key : ∀ (j : Nat) (k v : Value), kv[j]? = some (k, v) → ∃ y, rs[j]? = some (y, v) ∧ keyIs y k = true
  kvs : KV qs rs
  rep : RepD X.K H ps qs
theorem prs_of (I : Inv X pins σ H s) : ∀ {l : List T} {vs : List V} {its : List Value} {ps : List (Key × T)}, Reps X.K H l vs → Vals vs its → pairsOf l = some ps → ∃ Ts kv rs qs, Prs X H s.heap ps its Ts kv rs qs
  | [], vs, its, ps, r, v, e => by
    unfold pairsOf at e; cases e
    unfold Reps at r; subst r
    cases v
    exact ⟨[], [], [], [], rfl, rfl, fun j t k v h => by simp at h, rfl, fun j k v h => by simp at h, .nil, RepD.nil⟩
  | .tup [a, b] :: l, vs, its, ps, r, v, e => by
    unfold pairsOf at e
    cases ea : keyOf a with
    | none => rw [ea] at e; cases e
    | some y =>
      cases eb : pairsOf l with
      | none => rw [ea, eb] at e; cases e
      | some ps' =>
        rw [ea, eb] at e; cases e
        unfold Reps at r
        obtain ⟨w, r', rfl, r1, r2⟩ := r
        cases v with
        | cons v1 v2 =>
          rename_i u us
          obtain ⟨Ts, kv, rs, qs, P⟩ := prs_of I r2 v2 eb
          obtain ⟨t, ws, rfl, tf, rr⟩ := r1
          obtain ⟨va, vb, rfl, ra, rb⟩ := rr.two
          cases v1
          obtain ⟨its2, rv, pl, _⟩ := I.tuple tf.seq
          obtain ⟨ua, ub, rfl, qa, qb⟩ := Vals.two rv
          have hk := keyOf_rep ra ea
          subst hk
          refine ⟨t :: Ts, (ua, ub) :: kv, (y, ub) :: rs, (y, vb) :: qs, by rw [P.refs]; rfl, by simp [P.len], fun j t' k v h1 h2 => ?_, by simp [P.len2], fun j k v h => ?_, .cons ⟨rfl, qb⟩ P.kvs, RepD.cons rb P.rep⟩
          · cases j with
            | zero => simp at h1 h2; obtain ⟨rfl, rfl⟩ := h2; subst h1; exact pl
            | succ j => exact P.tups j t' k v (by simpa using h1) (by simpa using h2)
          · cases j with
            | zero =>
              simp at h; obtain ⟨rfl, rfl⟩ := h
              exact ⟨y, rfl, kV_is (P := X.prog) (w := X.w) qa⟩
            | succ j =>
              obtain ⟨z, h1, h2⟩ := P.key j k v (by simpa using h)
              exact ⟨z, by simpa using h1, h2⟩
  | .non :: _, _, _, _, _, _, e | .bl _ :: _, _, _, _, _, _, e | .int _ :: _, _, _, _, _, _, e | .str _ :: _, _, _, _, _, _, e | .ref _ :: _, _, _, _, _, _, e | .rol _ :: _, _, _, _, _, _, e
  | .tup [] :: _, _, _, _, _, _, e | .tup [_] :: _, _, _, _, _, _, e | .tup (_ :: _ :: _ :: _) :: _, _, _, _, _, _, e => by unfold pairsOf at e; cases e
theorem pairsOf_length : ∀ {l : List T} {ps : List (Key × T)}, pairsOf l = some ps → ps.length = l.length
  | [], ps, e => by unfold pairsOf at e; cases e; rfl
  | .tup [a, b] :: l, ps, e => by
    unfold pairsOf at e
    cases ea : keyOf a with
    | none => rw [ea] at e; cases e
    | some y =>
      cases eb : pairsOf l with
      | none => rw [ea, eb] at e; cases e
      | some ps' => rw [ea, eb] at e; cases e; simp [pairsOf_length eb]
  | .non :: _, _, e | .bl _ :: _, _, e | .int _ :: _, _, e | .str _ :: _, _, e | .ref _ :: _, _, e | .rol _ :: _, _, e
  | .tup [] :: _, _, e | .tup [_] :: _, _, e | .tup (_ :: _ :: _ :: _) :: _, _, e => by unfold pairsOf at e; cases e
end
section
variable {X : Cx}
theorem plain_tup {pins : List (Addr × Obj)} {σ : L2.St} {H : Hp} {s : Shared} {p : Addr} {vs : List V} {its : List Value} (I : Inv X pins σ H s) (h : TupF X.K H p vs) (pl : IsTup s.heap p its.toArray) : PlainSeq "tuple" s.heap p its.toArray := by
  obtain ⟨o, e, c, n, d⟩ := pl
  refine ⟨o, n, e, c, ?_, d⟩
  rcases h with ⟨o', h, hd⟩ | ⟨o', xs, m, h1, _, hd, _⟩
  · obtain ⟨e2, _⟩ := I.hok p _ h
    rw [e] at e2; cases e2
    exact hd
  · have e2 := I.kIn p o' h1
    rw [e] at e2; cases e2
    exact hd
theorem bi_dict (hc : X.calm = true) : CallR X (.type "dict") (rBi X.K Tb .dict) := by
  intro pins s σ H vs us Q I rv h
  obtain ⟨ts, μ, rs, rh, q⟩ := h
  dsimp only [biS] at q
  unfold biDict at q
  split at q <;> first | exact q.elim | skip
  rename_i l
  obtain ⟨v, rfl, r⟩ := rs.one
  obtain ⟨ps, ep, q⟩ := q
  obtain ⟨p, ws, rfl, tf, rr⟩ := r
  obtain ⟨u, rfl, ru⟩ := vals1 rv
  cases ru
  obtain ⟨its, ri, pl, hz⟩ := I.tuple tf.seq
  obtain ⟨Ts, kv, rs', qs, P⟩ := prs_of I rr ri ep
  have n1 := rr.length
  have n2 := ri.length
  have n3 : its.length = kv.length := by rw [P.refs, List.length_map, P.len]
  have nK : rs'.length = kv.length := P.len2
  let F : Nat → Addr := fun j => Ts.getD j 0
  have items : PairItems s.heap its.toArray F kv := by
    refine ⟨by simpa using n3, fun j k w e => ?_⟩
    have lt : j < Ts.length := by rw [P.len]; exact (List.getElem?_eq_some_iff.mp e).1
    have eT : Ts[j]? = some (F j) := by simp [F, List.getD, lt]
    refine ⟨?_, .inl (P.tups j _ k w eT e)⟩
    rw [P.refs]
    simp [eT]
  refine PySem.call_dict_pairs (knd := mixKind X.prog X.w) (kvs := rs') (PairArg.tuple p its.toArray F kv) (I.ok.hd hc) ⟨plain_tup I tf pl, items⟩ ⟨nK, fun i k w e => ?_⟩ (by omega) fun h' tk hd hk => ?_
  · obtain ⟨y, e1, e2⟩ := P.key i k w e
    exact ⟨y, e1, e2⟩
  · have hm : (s.heap.objs.size == sysModules) = false := beq_eq_false_iff_ne.mpr (Nat.ne_of_gt I.big)
    have nQ : qs.length = rs'.length := P.kvs.length
    have len : (mergeK [] qs).length ≤ sizeLine := by
      have := length_mergeK qs []
      simp only [List.length_nil, Nat.zero_add] at this
      omega
    have D : RepD X.K H (dictOf ps) (mergeK [] qs) := RepD.merge P.rep RepD.nil (by simp)
    have nd : ((mergeK [] qs).map (·.1)).Nodup := by
      have go : ∀ (qs ks : List (Key × V)), (ks.map (·.1)).Nodup → ((mergeK ks qs).map (·.1)).Nodup := by
        intro qs
        induction qs with
        | nil => intro ks h; exact h
        | cons x r ih => intro ks h; exact ih _ (putK_keys h)
      exact go qs [] (by simp)
    have J : Inv X pins σ (upd H s.heap.objs.size (.dK (mergeK [] qs))) { s with heap := h', toks := tk } :=
      I.laid (t' := tk) (fun b o e => hk b o (by simp) e) (Nat.le_refl _) (show ObjOk X.prog X.w _ h' _ (.dK (mergeK [] qs)) from ⟨len, hm, merged [] rs', KV.merge P.kvs .nil, hd⟩)
    exact ⟨.ref _, _, J, rfl, QE.newDic rh D.keys D.vals nd q (I.hok.fresh (Nat.le_refl _))⟩
end
end TV

/-! len(set(texts)). -/
namespace TV
open PySem PySem.Spec PyProof.Rows L2

theorem seen_snoc (zs : List Str) (x : Str) : seen (zs ++ [x]) = metS (seen zs) x := by unfold seen; rw [List.foldl_append]; rfl
theorem metS_any (acc : List Str) (x k : Str) : ((metS acc x).any fun y => y == k) = ((acc.any fun y => y == k) || decide (k = x)) := by
  unfold metS
  by_cases h : x ∈ acc
  · rw [if_pos h]
    by_cases e : k = x
    · subst e
      have : (acc.any fun y => y == k) = true := List.any_eq_true.mpr ⟨k, h, by simp⟩
      rw [this]; rfl
    · simp [e]
  · rw [if_neg h, List.any_append]
    congr 1
    by_cases e : k = x
    · simp [e]
    · have e2 : ¬ x = k := fun z => e z.symm
      simp [e, e2]
theorem metS_len (acc : List Str) (x : Str) : (metS acc x).length = if (acc.any fun y => y == x) then acc.length else acc.length + 1 := by
  unfold metS
  by_cases h : x ∈ acc
  · rw [if_pos h, if_pos (List.any_eq_true.mpr ⟨x, h, by simp⟩)]
  · rw [if_neg h, if_neg (fun z => ?_)]
    · simp
    · obtain ⟨y, hy, e⟩ := List.any_eq_true.mp z
      exact h (by have : y = x := by simpa using e
                  rw [← this]; exact hy)
theorem seen_le : ∀ (n : Nat) (zs : List Str), zs.length = n → (seen zs).length ≤ n
  | 0, zs, e => by
    have : zs = [] := List.length_eq_zero_iff.mp e
    subst this; exact Nat.le_refl _
  | n + 1, zs, e => by
    have hne : zs ≠ [] := fun z => by subst z; cases e
    rw [← List.dropLast_concat_getLast hne, seen_snoc, metS_len]
    have ih := seen_le n zs.dropLast (by rw [List.length_dropLast, e]; rfl)
    split <;> omega

section
variable {prog : Program} {w : World} {A : Around} {R : Result → Shared → Prop} {I : Addr} {fp wr : List Addr} {G : Array GenState → Array GenState → Prop} {n : Nat} {P : Nat → Value → Prop} {St : Nat → Shared → Prop}
theorem loopTexts (W : WalksS prog w A.in1 I fp wr G n P St) (D : Addr) (apart : D ∉ fp) (zs : List Str) (hlen : zs.length = n) (few : n + 1 < scanBound)
    (is : ∀ i v, P i v → ∃ t, v = .str (zs.getD i Str.empty) t) : ∀ (left i : Nat) (s : Shared), n - i = left → i ≤ n → St i s →
      s.heap.SetOf (PySem.strKind prog w) D (fun k => (seen (zs.take i)).any fun y => y == k) (seen (zs.take i)).length →
      (∀ s', Moved (D :: wr) G s s' → s'.heap.SetOf (PySem.strKind prog w) D (fun k => (seen zs).any fun y => y == k) (seen zs).length → R (.ok (.ret .none)) s') →
      codeAny (model prog w) A (.builtin "set.update.loop" ⟨[.ref D, .ref I], []⟩) R s := by
  have outside : D ∉ wr := fun m => apart (W.sub _ m)
  have more : ∀ b ∈ wr, b ∈ D :: wr := fun b m => List.mem_cons_of_mem _ m
  intro left
  induction left with
  | zero =>
    intro i s e0 le st set0 fin
    obtain rfl : i = n := by omega
    refine codeAny_builtin PyProof.Rows.F.entry_set_update_loop ?_
    rw [Around.under_plainId PyProof.Rows.F.plain_set_update_loop _]
    show wpAny _ A.in1 (pyNext (.ref I) >>= _) _ _ s
    refine wpAny_bind (W.done s _ _ st fun s1 mv => ?_)
    show wpAny _ A.in1 (ret Value.none) _ _ s1
    have whole : zs.take i = zs := List.take_of_length_le (by omega)
    rw [whole] at set0
    refine wpAny_pure (fin s1 (mv.mono more) ?_)
    obtain ⟨o, es, ep, t, there, others⟩ := set0
    exact ⟨o, es, ep, t, mv.heap D _ outside there, others⟩
  | succ left again =>
    intro i s e0 le st set0 fin
    have below : i < n := by omega
    refine codeAny_builtin PyProof.Rows.F.entry_set_update_loop ?_
    rw [Around.under_plainId PyProof.Rows.F.plain_set_update_loop _]
    show wpAny _ A.in1 (pyNext (.ref I) >>= _) _ _ s
    refine wpAny_bind (W.item i s _ _ below st fun v s1 pv st1 mv => ?_)
    obtain ⟨t, rfl⟩ := is i v pv
    have set1 : s1.heap.SetOf (PySem.strKind prog w) D (fun k => (seen (zs.take i)).any fun y => y == k) (seen (zs.take i)).length := by
      obtain ⟨o, es, ep, tb, there, others⟩ := set0
      exact ⟨o, es, ep, tb, mv.heap D _ outside there, others⟩
    show wpAny _ A.in1 (holding [Value.str (zs.getD i Str.empty) t] (setAdd D (.str (zs.getD i Str.empty) t)) >>= _) _ _ s1
    refine wpAny_bind (wpAny_holding ?_)
    unfold setAdd
    refine wpAny_holding (wpAny_bind ((PySem.strKind prog w).pyHash (k := zs.getD i Str.empty) (strKind_is _ _ _ _) ?_))
    have cnt := seen_le i (zs.take i) (by rw [List.length_take]; omega)
    refine wpAny_setAddHashed_of (knd := PySem.strKind prog w) (s := { s1 with toks := s1.toks + 1 }) (strKind_is _ _ _ _) rfl set1 (by omega) fun h2 but set2 => ?_
    have next : zs.take (i + 1) = zs.take i ++ [zs.getD i Str.empty] := by
      have hi : i < zs.length := by omega
      rw [List.take_add_one, List.getElem?_eq_getElem hi, List.getD_eq_getElem?_getD, List.getElem?_eq_getElem hi]
      rfl
    have set3 : h2.SetOf (PySem.strKind prog w) D (fun k => (seen (zs.take (i + 1))).any fun y => y == k) (seen (zs.take (i + 1))).length :=
      SetOf_congr set2 (fun k => by rw [next, seen_snoc, metS_any]) (by rw [next, seen_snoc, metS_len])
    refine wpAny_pure ⟨plainId_quiet PyProof.Rows.F.plain_set_update_loop _, again (i + 1) _ (by omega) below (W.frame _ s1 _ _ st1 (Nat.le_succ _) fun b m o e => ?_) set3 fun s3 mv3 set4 => ?_⟩
    · rw [but.2 b (fun q : b = D => apart (by rw [← q]; exact m))]; exact e
    · refine fin s3 (Moved.trans W.gtrans ((mv.mono more).then_heap (Nat.le_succ _) fun b o m e => ?_) mv3) set4
      rw [but.2 b (fun q : b = D => m (by rw [q]; exact List.mem_cons_self))]; exact e
end
section
variable {prog : Program} {w : World} {A : Around} {E : Value → Shared → Prop} {s : Shared}
set_option maxHeartbeats 3200000 in
theorem set_texts {l : Addr} {items : Array Value} {zs : List Str} {Q : Value → Shared → Prop} (hh : A.handled = none) (hl : s.heap.IsList l items) (hi : PyProof.Rows.StrsAre items.toList zs) (few : zs.length + 1 < scanBound)
    (h : ∀ (h' : Heap) (tk : Nat), h'.SetOf (PySem.strKind prog w) s.heap.objs.size (fun k => (seen zs).any fun y => y == k) (seen zs).length →
      (∀ b o, b < s.heap.objs.size → s.heap.get? b = some o → h'.get? b = some o) → Q (.ref s.heap.objs.size) { s with heap := h', toks := tk }) :
    wpAny (model prog w) A (call (.type "set") [.ref l]) Q E s := by
  obtain ⟨c, tl, hmro⟩ := PySem.F.called_set.mro
  have made0 := PySem.F.called_set.made
  have sub0 := PySem.F.called_set.sub
  refine wpAny_call (codeAny_of_tree ?_)
  show wpAny _ _ (callAny (.type "set") _) _ _ _
  refine wpAny_pure ⟨Code.quiet_builtin _ (by decide +kernel), codeAny_builtin PySem.F.entry_type_call ?_⟩
  rw [Around.under_plain (weight_type_call_type "set" [.ref l] []) rfl]
  have t1 := PySem.F.called_set.notType
  have t2 := PySem.F.called_set.canCreate
  have t3 := PySem.F.typeCall_set_1 (.ref l)
  repeat (any_goals (first | assumption | wp_step))

  refine codeAny_mono (code_set_new_1 (.ref l) (E := E) (Q₁ := fun obj s₁ => ∃ led : Bool, obj = .ref s.heap.objs.size ∧ s₁ = { s with heap := s.heap.push { cls := .type "set", dict := none, data := .set #[] 0 (.fresh 0 0 led) } }) fun led => ⟨led, rfl, rfl⟩) fun r s₁ hr => ?_
  cases r with
  | error e => exact hr
  | ok fl =>
    cases fl with
    | ret obj =>
      obtain ⟨led, rfl, rfl⟩ := hr
      have mine : (s.heap.push { cls := .type "set", dict := none, data := .set #[] 0 (.fresh 0 0 led) }).get? s.heap.objs.size = some { cls := .type "set", dict := none, data := .set #[] 0 (.fresh 0 0 led) } := Heap.get?_push_size _ rfl
      have typ : Shared.TypeIs { s with heap := s.heap.push { cls := .type "set", dict := none, data := .set #[] 0 (.fresh 0 0 led) } } (.ref s.heap.objs.size) "set" := ⟨_, mine, rfl⟩
      have i1 := PySem.F.called_set.init.lookup
      have i2 := PySem.F.called_set.init.bind (.ref s.heap.objs.size)
      repeat (any_goals (first | assumption | wp_step))

      refine codeAny_mono (codeAny_call_builtin (R := wants (fun r s₂ => r = .none ∧ ∃ h' tk, s₂ = { s with heap := h', toks := tk } ∧
          h'.SetOf (PySem.strKind prog w) s.heap.objs.size (fun k => (seen zs).any fun y => y == k) (seen zs).length ∧
          (∀ b o, b < s.heap.objs.size → s.heap.get? b = some o → h'.get? b = some o)) E) PySem.F.called_set.init.plain PySem.F.entry_set_init (check_set_init_1 typ ?_)) fun r₂ s₂ hr₂ => ?_
      · obtain ⟨ol, hol, hcl, nl, hdl⟩ := hl
        obtain ⟨ocls, odict, odata, oslots⟩ := ol
        simp only at hcl hdl
        subst hcl; subst hdl
        have hol' : (s.heap.push { cls := .type "set", dict := none, data := .set #[] 0 (.fresh 0 0 led) }).get? l = some { cls := .type "list", dict := odict, data := .seq items nl, slots := oslots } := Heap.get?_push_of_some _ hol
        have s1' := PySem.F.sub_list_set
        have s2' := PySem.F.sub_list_frozenset
        have hne : (Value.type "list" == Value.type "dict") = false := by decide
        have hl1 : (s.heap.push { cls := .type "set", dict := none, data := .set #[] 0 (.fresh 0 0 led) }).IsList l items := ⟨_, hol', rfl, nl, rfl⟩
        unfold Builtin.«set.__init__» noKeywords Builtin.Frozenset.updateFrom
        generalize hPI : pyIter = PI
        wp_walk
        subst hPI

        refine wpAny_pyIter_list hl1 ?_
        refine wpAny_bind (wpAny_runValue ?_)
        have hlS : l < s.heap.objs.size := Heap.lt_size hol
        have hh3 : A.in1.in1.in1.handled = none := by simp [hh]
        have hneI : l ≠ (s.heap.push { cls := .type "set", dict := none, data := .set #[] 0 (.fresh 0 0 led) }).objs.size := by
          rw [Heap.size_push]; exact Nat.ne_of_lt (Nat.lt_succ_of_lt hlS)
        have hSf : s.heap.objs.size ∉ [(s.heap.push { cls := .type "set", dict := none, data := .set #[] 0 (.fresh 0 0 led) }).objs.size, l] := by
          rw [Heap.size_push]; simp only [List.mem_cons, List.mem_singleton, List.not_mem_nil, or_false, not_or]
          exact ⟨Nat.ne_of_lt (Nat.lt_succ_self _), Nat.ne_of_gt hlS⟩
        have hsz : zs.length = items.size := by rw [← StrsAre.len_eq hi, Array.length_toList]
        have hval : ∀ (i : Nat) (v : Value), items[i]? = some v → ∃ t, v = .str (zs.getD i Str.empty) t := fun i v hv => SS.strs_at hi i v (by rw [Array.getElem?_toList]; exact hv)
        refine loopTexts ((Walks.list hh3 _ l hneI items).toS) s.heap.objs.size hSf zs hsz (by rw [← hsz]; exact few) hval (items.size - 0) 0 _ (by omega) (Nat.zero_le _)
          ⟨⟨_, Heap.get?_push_size _ rfl, rfl, rfl⟩, (hl1.push _)⟩ ?hS0 ?hR
        case hS0 =>
          have hget : ((s.heap.push { cls := .type "set", dict := none, data := .set #[] 0 (.fresh 0 0 led) }).push { cls := .type "list_iterator", data := .fields #[.ref l, .int 0 0] }).get? s.heap.objs.size
              = some { cls := .type "set", dict := none, data := .set #[] 0 (.fresh 0 0 led) } := Heap.get?_push_of_some _ mine
          exact PyProof.Rows.SetOf_congr ((PyProof.Rows.setObjOf_fresh (knd := PySem.strKind prog w) led).setOf hget (by unfold scanBound; omega)) (fun _ => rfl) rfl
        case hR =>
          intro s' hm hS'
          obtain ⟨h', g', d', tk', os'⟩ := s'
          have eg : g' = s.gens := hm.gens
          have ed : d' = s.drawn := hm.drawn
          have eo : os' = s.os := hm.os
          subst eg; subst ed; subst eo
          show wpAny _ _ _ _ _ _
          refine wpAny_pure ?_
          show wpAny _ _ (ret Value.none) _ _ _
          refine wpAny_pure ⟨rfl, h', tk', rfl, hS', fun b o hb e => ?_⟩
          have hb1 : b ≠ s.heap.objs.size := Nat.ne_of_lt hb
          have hb2 : b ≠ (s.heap.push { cls := .type "set", dict := none, data := .set #[] 0 (.fresh 0 0 led) }).objs.size := by
            rw [Heap.size_push]; exact Nat.ne_of_lt (Nat.lt_succ_of_lt hb)
          exact hm.heap b o (by simp only [List.mem_cons, List.mem_singleton, List.not_mem_nil, or_false, not_or]; exact ⟨hb1, hb2⟩) (Heap.get?_push_of_some _ (Heap.get?_push_of_some _ e))

      · cases r₂ with
        | error e => exact hr₂
        | ok fl₂ =>
          cases fl₂ with
          | ret r =>
            obtain ⟨rfl, h', tk, rfl, hS', hk'⟩ := hr₂
            repeat (any_goals (first | assumption | wp_step))
            exact h _ _ hS' hk'
          | _ => exact hr₂.elim
    | _ => exact hr.elim
end

section
variable {X : Cx}
/-- len(set(xs)), xs a list of texts -/
def tLenTx (ta : TE) : TE := fun σ H Q => ta σ H fun x H1 => ∃ l, ∃ zs : List Str, x = .ref l ∧ H1 l = some (.lst (zs.map V.str)) ∧ zs.length ≤ 1000 ∧ Q (.int (seen zs).length) H1
theorem strs_vals : ∀ {ys : List Str} {us : List Value}, Vals (ys.map V.str) us → StrsAre us ys
  | [], _, .nil => .nil
  | y :: ys, _, .cons r q => by
    obtain ⟨k, rfl⟩ := r
    exact .cons y k (strs_vals q)
theorem pe_lenTx {a : Expr} {ta : TE} {p p2 q pos : Pos} (hc : X.calm = true) (hg : Gl X "len") (hm : X.mg "len" = none) (hg2 : Gl X "set") (hm2 : X.mg "set" = none) (ha : PE X a ta)
    (na : starEach [a] X.env = (false, eval a X.env) :: starEach [] X.env) : PE X (.Call (.Name "len" p) [.Call (.Name "set" p2) [a] [] q] [] pos) (tLenTx ta) := by
  refine ⟨fun pins s σ H Q I h => Call_ (ld_blt I hg hm boot_len ?_)⟩
  refine PyProof.Rows.callWith_builtin1 (PyProof.Rows.args_cons ?_ rfl) rfl rfl
  refine Call_ (ld_blt I hg2 hm2 boot_set ?_)
  refine PyProof.Rows.callWith_type1 (PyProof.Rows.args_cons (thn (ha.run pins s σ H _ I h) fun v s1 ⟨x, H1, I1, r1, q1⟩ => PyProof.Rows.args_nil ?_) na) na rfl
  obtain ⟨l, zs, rfl, hq, few, q1⟩ := q1
  cases r1
  obtain ⟨its, r, pl, _⟩ := I1.list (SqL.of hq)
  refine set_texts (I1.ok.hd hc) pl.isList (by simpa using strs_vals r) (by unfold scanBound; omega) fun h' tk made kept => ?_
  refine PyProof.Rows.args_nil ?_
  have bound := seen_le _ zs rfl
  obtain ⟨o, es, ep, t, ho, hex, hd, _, _, _, hf, hn⟩ := made
  have I2 : Inv X pins σ H1 { s1 with heap := h', toks := tk } := I1.kept fun b o e => kept b o (Heap.lt_size e) e
  exact call_len_set ho hex hd hf (by rw [hn]; omega) ⟨.int (seen zs).length, H1, I2.tok _, ⟨_, by rw [hn]⟩, q1⟩
end
end TV

/-! sorted(pairs of ints), list.index, dict.setdefault. -/
namespace TV
open PySem PySem.Spec PyProof.Rows L2
section
variable {X : Cx}
theorem Reps.mapI {K : PySem.W.Frag} {H : Hp} {ks : List (Int × Int)} {vs : List V} (r : Reps K H (ks.map pairI) vs) : ∀ v ∈ vs, ∃ (a : Addr) (p : Int × Int), v = .ref a ∧ p ∈ ks ∧ TupF K H a [.int p.1, .int p.2] := by
  induction ks generalizing vs with
  | nil => unfold List.map Reps at r; subst r; intro v hv; cases hv
  | cons p ks ih =>
    rw [List.map_cons] at r
    unfold Reps at r
    obtain ⟨v, rr, rfl, h1, h2⟩ := r
    intro u hu
    rcases List.mem_cons.mp hu with rfl | hu
    · unfold pairI Rep at h1
      obtain ⟨a, ws, rfl, q, r⟩ := h1
      unfold Reps at r
      obtain ⟨w1, r1, rfl, e1, r⟩ := r
      unfold Reps at r
      obtain ⟨w2, r2, rfl, e2, r⟩ := r
      unfold Reps at r
      subst r
      obtain rfl : w1 = .int _ := e1
      obtain rfl : w2 = .int _ := e2
      exact ⟨a, p, rfl, List.mem_cons_self, q⟩
    · obtain ⟨a, p', e, m, q⟩ := ih h2 u hu
      exact ⟨a, p', e, List.mem_cons_of_mem _ m, q⟩
theorem Reps.of_all {K : PySem.W.Frag} {H : Hp} {ks : List (Int × Int)} {vs : List V} (k : V → Int × Int) (hk : ks = vs.map k) (h : ∀ v ∈ vs, ∃ a, v = .ref a ∧ TupF K H a [.int (k v).1, .int (k v).2]) : Reps K H (ks.map pairI) vs := by
  subst hk
  induction vs with
  | nil => exact Reps.nil
  | cons v vs ih =>
    obtain ⟨a, e, q⟩ := h v List.mem_cons_self
    refine Reps.cons ?_ (ih fun u hu => h u (List.mem_cons_of_mem _ hu))
    unfold pairI Rep
    exact ⟨a, _, e, q, Reps.cons rfl (Reps.cons rfl Reps.nil)⟩
/-- what a reference's pair is, by the heap -/
noncomputable def kAt (K : PySem.W.Frag) (H : Hp) (v : V) : Int × Int := by
  classical
  exact if h : ∃ p : Int × Int, ∃ a, v = .ref a ∧ TupF K H a [.int p.1, .int p.2] then h.choose else (0, 0)
theorem kAt_ok {K : PySem.W.Frag} {H : Hp} {v : V} (h : ∃ p : Int × Int, ∃ a, v = .ref a ∧ TupF K H a [.int p.1, .int p.2]) : ∃ a, v = .ref a ∧ TupF K H a [.int (kAt K H v).1, .int (kAt K H v).2] := by
  unfold kAt
  rw [dif_pos h]
  exact h.choose_spec
theorem bi_sorted : CallR X (.builtin "sorted") (rBi X.K Tb .sorted) := by
  intro pins s σ H vs us Q I rvs h
  obtain ⟨ts, μ, rs, rh, q⟩ := h
  dsimp only [biS] at q
  unfold biSorted at q
  split at q <;> first | exact q.elim | skip
  rename_i a
  obtain ⟨v0, rfl, r0⟩ := rs.one
  obtain rfl : v0 = .ref a := r0
  obtain ⟨ks, e, q⟩ := q
  obtain ⟨xs, e1, r1⟩ := rh a _ e
  have all := r1.mapI
  have hk : ∀ v ∈ xs, ∃ t, v = .ref t ∧ TupF X.K H t [.int (kAt X.K H v).1, .int (kAt X.K H v).2] := fun v hv => by
    obtain ⟨t, p, e, _, qq⟩ := all v hv
    exact kAt_ok ⟨p, t, e, qq⟩
  -- the keys are the pairs
  have eks : xs.map (kAt X.K H) = ks := by
    have : ∀ {ks : List (Int × Int)} {xs : List V}, Reps X.K H (ks.map pairI) xs → (∀ v ∈ xs, ∃ t, v = .ref t ∧ TupF X.K H t [.int (kAt X.K H v).1, .int (kAt X.K H v).2]) → xs.map (kAt X.K H) = ks := by
      intro ks
      induction ks with
      | nil => intro xs r _; unfold List.map Reps at r; subst r; rfl
      | cons p ks ih =>
        intro xs r hh
        rw [List.map_cons] at r
        unfold Reps at r
        obtain ⟨v, rr, rfl, h1, h2⟩ := r
        rw [List.map_cons, ih h2 fun u hu => hh u (List.mem_cons_of_mem _ hu)]
        congr 1
        obtain ⟨t, e, q1⟩ := hh v List.mem_cons_self
        unfold pairI Rep at h1
        obtain ⟨b, ws, e2, q2, rr2⟩ := h1
        rw [e] at e2
        cases e2
        have s1 := q1.seq
        have s2 := q2.seq
        obtain ⟨i1, v1, p1, _⟩ := I.tuple s1
        obtain ⟨i2, v2, p2, _⟩ := I.tuple s2
        obtain ⟨o1, ho1, _, n1, d1⟩ := p1
        obtain ⟨o2, ho2, _, n2, d2⟩ := p2
        rw [ho1] at ho2
        cases ho2
        rw [d1] at d2
        have ei : i1 = i2 := by
          injection d2 with d2 _
          have := congrArg Array.toList d2
          simpa using this
        subst ei
        unfold Reps at rr2
        obtain ⟨w1, r1, rfl, f1, rr2⟩ := rr2
        unfold Reps at rr2
        obtain ⟨w2, r2, rfl, f2, rr2⟩ := rr2
        unfold Reps at rr2
        subst rr2
        obtain rfl : w1 = .int _ := f1
        obtain rfl : w2 = .int _ := f2
        obtain ⟨u1, u2, rfl, ru1, ru2⟩ := vals2 v1
        obtain ⟨t1, rfl⟩ := ru1
        obtain ⟨t2, rfl⟩ := ru2
        obtain ⟨z1, z2, ez, rz1, rz2⟩ := vals2 v2
        simp only [List.cons.injEq, and_true] at ez
        obtain ⟨rfl, rfl⟩ := ez
        obtain ⟨t3, e3⟩ := rz1
        obtain ⟨t4, e4⟩ := rz2
        injection e3 with e3 _
        injection e4 with e4 _
        exact Prod.ext e3 e4
    exact this r1 hk
  obtain ⟨its, rv, hl, hz⟩ := I.list (SqL.of e1)
  obtain ⟨u, rfl, ru⟩ := vals1 rvs
  obtain rfl : u = Value.ref a := ru
  obtain ⟨f1, f2⟩ := refs_back rv fun x m => by
    obtain ⟨t, e, _⟩ := hk x m
    exact ⟨t, e⟩
  refine SrtO.sorted_pairsO (k := fun u => kAt X.K H (backV u)) hl.isList (by rw [← rv.length]; exact hz) (fun v hv => ?_) fun h' d out h1 h2 kp hd hn => ?_
  · obtain ⟨t, rfl⟩ := f2 v hv
    have hm : V.ref t ∈ xs := by rw [f1]; exact List.mem_map.mpr ⟨_, hv, rfl⟩
    obtain ⟨t', e, ht⟩ := hk _ hm
    cases e
    obtain ⟨its2, r2, pl2, _⟩ := I.tuple ht.seq
    obtain ⟨o, ho, hc, n, hd⟩ := pl2
    obtain ⟨u1, u2, rfl, ri, rj⟩ := vals2 r2
    obtain ⟨t1, rfl⟩ := ri
    obtain ⟨t2, rfl⟩ := rj
    exact ⟨t, o, t1, t2, n, rfl, ho, hc, hd⟩
  · have h3 : ∀ u ∈ out, ∃ a, u = Value.ref a := fun u hu => f2 u (h2.perm.mem_iff.mp hu)
    obtain ⟨n, hn⟩ := hn
    have hb : SrtO.Stb (ltP (kAt X.K H)) (out.map backV) xs := by
      rw [f1]
      exact SrtO.Stb.map (ltP_swo (kAt X.K H)) backV h2
    have fresh : H d = none := I.hok.fresh hd
    have kk := TK.new (K := X.K) (o := .lst (out.map backV)) fresh
    refine ⟨.ref d, upd H d (.lst (out.map backV)), I.laid (t' := s.toks) kp hd ⟨?_, out, n, vals_back h3, hn⟩, rfl, ?_⟩
    · rw [hb.len]
      exact hz
    · have pm : ((out.map backV).map (kAt X.K H)).Perm ks := by rw [← eks]; exact hb.perm.map _
      have so : SrtI ((out.map backV).map (kAt X.K H)) := by
        have := SrtO.srtd_map (f := backV) (lt := ltP (kAt X.K H)) h1
        unfold SrtI
        rw [List.pairwise_map]
        exact this
      refine q _ d pm so (rh.free fresh) _ _ kk rfl (rh.new fresh ⟨_, upd_same, Reps.mono kk (Reps.of_all (kAt X.K H) rfl fun v hv => ?_)⟩)
      exact hk v (hb.perm.mem_iff.mp hv)
theorem me_index : MtR X "list.index" (rMe X.K Tb .index) := by
  refine MtR.imp mt_index fun vx vs H Q h => ?_
  obtain ⟨x, ts, μ, rx, rs, rh, q⟩ := h
  cases x <;> unfold meS at q <;> simp only at q
  rename_i a
  unfold meIndex at q
  split at q <;> first | exact q.elim | skip
  rename_i y
  obtain rfl : vx = .ref a := rx
  obtain ⟨vy, rfl, ry⟩ := rs.one
  obtain ⟨l, j, z, e, fx, fl, ez, eq, no, q⟩ := q
  obtain ⟨ws, e1, r1⟩ := rh a _ e
  obtain ⟨w, hw, rw⟩ := r1.get ez
  have fz : flatT z = true := List.all_eq_true.mp fl z (List.mem_of_getElem? ez)
  refine ⟨a, ws, vy, j, w, rfl, rfl, SqL.of e1, ry.flat fx, ?_, hw, ?_, ?_, q.here rfl rh⟩
  · rw [List.all_eq_true]
    intro v hv
    obtain ⟨i, hi⟩ := List.getElem?_of_mem hv
    obtain ⟨t, ht, rt⟩ := r1.get' hi
    exact rt.flat (List.all_eq_true.mp fl t (List.mem_of_getElem? ht))
  · rw [rw.eqV ry fz fx]; exact eq
  · intro m v hm hv
    obtain ⟨t, ht, rt⟩ := r1.get' hv
    rw [rt.eqV ry (List.all_eq_true.mp fl t (List.mem_of_getElem? ht)) fx]
    exact no m t hm ht
theorem me_setd : MtR X "dict.setdefault" (rMe X.K Tb .setdefault) := by
  intro pins s σ H vx vs v us Q I rv rvs h
  obtain ⟨x, ts, μ, rx, rs, rh, q⟩ := h
  cases x <;> unfold meS at q <;> simp only at q
  rename_i a
  unfold meSetd at q
  split at q <;> first | exact q.elim | skip
  rename_i y d
  obtain rfl : vx = .ref a := rx
  obtain ⟨vy, vd, rfl, ry, rd⟩ := rs.two
  obtain ⟨kvs, k, e, e2, few, q⟩ := q
  obtain ⟨ks, e4, e5, r, nd⟩ := rh a _ e
  have ey := keyOf_rep ry e2
  subst ey
  cases rv
  obtain ⟨u, u2, rfl, ru, ru2⟩ := rvs.two
  have lk : ks.length = kvs.length := by simpa using congrArg List.length e5
  have hz : sizeLine = 16777216 := sizeLine_eq
  refine d_setd I e4 ru ru2 (by omega) (fun w hw w' s' I' rw' => ?_) fun hn w' s' I' rw' => ?_
  · rcases valV_rep e5 r k with ⟨a1, a2⟩ | ⟨t', v', a1, a2, rv'⟩
    · rw [a2] at hw; cases hw
    · rw [a2] at hw; cases hw
      rw [a1] at q
      exact ⟨_, H, I', rw', q.here rv' rh⟩
  · rcases valV_rep e5 r k with ⟨a1, a2⟩ | ⟨t', v', a1, a2, rv'⟩
    · rw [a1] at q
      have tk := TK.write (K := X.K) (o := .dK (putK ks k vd)) e4 trivial
      have dd := RepD.put (k := k) rd ⟨e5, r⟩ nd
      exact ⟨_, _, I', rw', q.write rh e4 trivial ⟨_, upd_same, dd.keys, (dd.vals).mono tk, putK_keys nd⟩ (rd.mono tk)⟩
    · rw [a2] at hn; cases hn
end
end TV

/-! From the rules of the hand layer to rules over trees: expressions and tests. -/
namespace TV
open PySem PySem.Spec PyProof.Rows L2

theorem QE.mono {K : PySem.W.Frag} {H H1 : Hp} {Q : VK} (k : TK K H H1) {t : T} {μ : Mu} (q : QE K Tb H Q t μ) : QE K Tb H1 Q t μ := fun v H2 k2 r rh => q v H2 (k.trans k2) r rh

section
variable {K : PySem.W.Frag} {σ : L2.St} {H : Hp} {τ : Env} {μ : Mu}
theorem LE.bind {m : ME} (mm : MonE m) (rs : RepS K H τ σ) (rh : RepH K Tb H μ) {k : PQ} {R : VK} (h : m τ μ k)
    (hk : ∀ t μ1 v H1, k t μ1 → TK K H H1 → Rep K H1 t v → RepS K H1 τ σ → RepH K Tb H1 μ1 → R v H1) : LE K Tb m σ H R :=
  ⟨τ, μ, rs, rh, mm _ _ _ _ (fun t μ1 kt v H1 tk r rh1 => hk t μ1 v H1 kt tk r (rs.mono tk) rh1) h⟩
theorem LT.bind {m : MT} (mm : MonT m) (rs : RepS K H τ σ) (rh : RepH K Tb H μ) {k : Bool → Mu → Prop} {R : Bool → Hp → Prop} (h : m τ μ k)
    (hk : ∀ b μ1 H1, k b μ1 → TK K H H1 → RepS K H1 τ σ → RepH K Tb H1 μ1 → R b H1) : LT K Tb m σ H R :=
  ⟨τ, μ, rs, rh, mm _ _ _ _ (fun b μ1 kt H1 tk rh1 => hk b μ1 H1 kt tk (rs.mono tk) rh1) h⟩
theorem LA.bind {m : MA} (mm : MonA m) (rs : RepS K H τ σ) (rh : RepH K Tb H μ) {k : List T → Mu → Prop} {R : List V → Hp → Prop} (h : m τ μ k)
    (hk : ∀ ts μ1 vs H1, k ts μ1 → TK K H H1 → Reps K H1 ts vs → RepS K H1 τ σ → RepH K Tb H1 μ1 → R vs H1) : LA K Tb m σ H R :=
  ⟨τ, μ, rs, rh, mm _ _ _ _ (fun t μ1 kt v H1 tk r rh1 => hk t μ1 v H1 kt tk r (rs.mono tk) rh1) h⟩
end

/-- what the rules ask of a context -/
structure Gd (X : Cx) : Prop where
  calm : X.calm = true
  nd : X.N.Nodup
  un : X.A.units + 200 < cLine
theorem Gd.blk {X : Cx} (g : Gd X) {s : Shared} {H : Hp} {scope : Scope} {env : PySem.Env} {fp : List Addr} : Gd (X.blk s H scope env fp) := ⟨g.calm, g.nd, g.un⟩
theorem Gd.u1 {X : Cx} (g : Gd X) : X.A.units + 1 < cLine := by have := g.un; omega

section
variable {F : Type} {Φ : F → Con} {X : Cx}
/-- an expression and its tree form -/
def JE (Tb : List NdefX.NTab) (X : Cx) (Φ : F → Con) (pe : Expr) (e : E F) : Prop := PE X pe (LE X.K Tb (wE Φ e))
def JT (Tb : List NdefX.NTab) (X : Cx) (Φ : F → Con) (pe : Expr) (e : E F) : Prop := PT X pe (LT X.K Tb (wT Φ e))
def JW (Tb : List NdefX.NTab) (X : Cx) (Φ : F → Con) (pe : Expr) (m : MT) : Prop := PW X pe (LT X.K Tb m)
def JA (Tb : List NdefX.NTab) (X : Cx) (Φ : F → Con) (pes : List Expr) (es : Es F) : Prop := PA X pes (LA X.K Tb (wEs Φ es))
def LO (K : PySem.W.Frag) (Tb : List NdefX.NTab) (m : Env → Mu → (Option Int → Mu → Prop) → Prop) : TO := fun σ H Q => ∃ τ μ, RepS K H τ σ ∧ RepH K Tb H μ ∧ m τ μ (fun o μ' => ∀ H', TK K H H' → RepH K Tb H' μ' → Q o H')
def JO (Tb : List NdefX.NTab) (X : Cx) (Φ : F → Con) (pe : Option Expr) (e : Eo F) : Prop := PO X pe (LO X.K Tb (wEo Φ e))

variable {pe pa pb pc : Expr} {pes : List Expr} {e a b c : E F} {es : Es F} {pos p1 p2 p3 apos cpos : Pos}

theorem j_var (i : Nat) {x : Str} (hN : X.N[i]? = some x := by rfl) (hv : Vis X.env.scope x := by first | exact Or.inl rfl | exact Or.inr (Or.inl rfl) | exact Or.inr (Or.inr rfl)) (hd : (x == ("__debug__" : Str)) = false := by decide)
    (hcd : (x == ("__classdict__" : Str)) = false := by decide) : JE Tb X Φ (.Name x pos) (.var i) := by
  refine imp_PE (pe_var hN hv hd hcd) fun σ H Q ⟨τ, μ, rs, rh, t, e, q⟩ => ?_
  obtain ⟨v, e1, r⟩ := rs.2 i t e
  exact ⟨v, e1, q.here r rh⟩
theorem j_non {j} : JE Tb X Φ (.Constant .none j pos) .non := imp_PE pe_non fun σ H Q ⟨τ, μ, rs, rh, q⟩ => QE.here q rfl rh
theorem j_bl {j k} : JE Tb X Φ (.Constant (.bool k) j pos) (.bl k) := imp_PE pe_bl fun σ H Q ⟨τ, μ, rs, rh, q⟩ => QE.here q rfl rh
theorem j_int {j k} : JE Tb X Φ (.Constant (.int k) j pos) (.int k) := imp_PE pe_int fun σ H Q ⟨τ, μ, rs, rh, q⟩ => QE.here q rfl rh
theorem j_str {j} {x : Str} (h1 : PyData.strOk x = true := by decide) (h2 : x.length ≤ sizeLine := by decide) : JE Tb X Φ (.Constant (.str x) j pos) (.str x) := imp_PE pe_str fun σ H Q ⟨τ, μ, rs, rh, q⟩ => QE.here q (Rep.str_mk h1 h2) rh
theorem j_glob {x : Str} {v : V} {u : Value} {t : T} (hg : Gl X x) (hm : X.mg x = some u) (r : RelV v u) (hr : ∀ H, Rep X.K H t v) (hd : (x == ("__debug__" : Str)) = false := by decide) : JE Tb X Φ (.Name x pos) (.glob x t) :=
  imp_PE (pe_glob hg hm r hd) fun σ H Q ⟨τ, μ, rs, rh, q⟩ => QE.here q (hr H) rh
theorem j_dnew : JE Tb X Φ (.Dict [] [] pos) .dnew := imp_PE pe_dnewK fun σ H Q ⟨τ, μ, rs, rh, q⟩ p hp => QE.newDic (ks := []) (vs := []) rh rfl Reps.nil List.nodup_nil q hp

theorem ja_nil : JA Tb X Φ [] .nil := imp_PA pa_nil fun σ H Q ⟨τ, μ, rs, rh, q⟩ => q [] H TK.refl Reps.nil rh
theorem ja_cons (ha : JE Tb X Φ pe e) (hr : JA Tb X Φ pes es) (hs : starEach (pe :: pes) X.env = (false, eval pe X.env) :: starEach pes X.env := by rfl) : JA Tb X Φ (pe :: pes) (.cons e es) := by
  refine imp_PA (pa_cons ha hr hs) fun σ H Q ⟨τ, μ, rs, rh, h⟩ => ?_
  refine LE.bind (wE_mono e) rs rh h fun t μ1 v H1 h1 k1 r1 rs1 rh1 => ?_
  refine LA.bind (wEs_mono es) rs1 rh1 h1 fun ts μ2 vs H2 h2 k2 r2 rs2 rh2 => ?_
  exact h2 _ _ (k1.trans k2) (Reps.cons (r1.mono k2) r2) rh2
theorem j_tup {x1} (h : JA Tb X Φ pes es) : JE Tb X Φ (.Tuple pes x1 pos) (.tup es) := by
  refine imp_PE (pe_tupF h) fun σ H Q ⟨τ, μ, rs, rh, h⟩ => ?_
  refine LA.bind (wEs_mono es) rs rh h fun ts μ1 vs H1 h1 k1 r1 rs1 rh1 => ?_
  exact ⟨by rw [← r1.length]; exact h1.1, QE.newTup (QE.mono k1 h1.2) r1 rh1⟩
theorem j_lst (h : JA Tb X Φ pes es) : JE Tb X Φ (.List pes pos) (.lst es) := by
  refine imp_PE (pe_lst h) fun σ H Q ⟨τ, μ, rs, rh, h⟩ => ?_
  refine LA.bind (wEs_mono es) rs rh h fun ts μ1 vs H1 h1 k1 r1 rs1 rh1 => ?_
  exact ⟨by rw [← r1.length]; exact h1.1, fun p hp => QE.newLst rh1 r1 (fun p hp => QE.mono k1 (h1.2 p hp)) hp⟩
/-- two expressions, then an operation by values -/
theorem le_two {m : T → T → Mu → PQ → Prop} (mm : ∀ x y μ Q Q', (∀ t μ', Q t μ' → Q' t μ') → m x y μ Q → m x y μ Q') {σ : L2.St} {H : Hp} {Q : VK}
    (h : LE X.K Tb (fun τ μ Q => wE Φ a τ μ fun x μ1 => wE Φ b τ μ1 fun y μ2 => m x y μ2 Q) σ H Q) : tOp (rOf X.K Tb m) (LE X.K Tb (wE Φ a)) (LE X.K Tb (wE Φ b)) σ H Q := by
  obtain ⟨τ, μ, rs, rh, h⟩ := h
  refine LE.bind (wE_mono a) rs rh h fun x μ1 v H1 h1 k1 r1 rs1 rh1 => ?_
  refine LE.bind (wE_mono b) rs1 rh1 h1 fun y μ2 w H2 h2 k2 r2 rs2 rh2 => ?_
  exact ⟨x, y, μ2, r1.mono k2, r2, rh2, mm _ _ _ _ _ (fun t μ' q => QE.mono (k1.trans k2) q) h2⟩
theorem j_bin {o : Operator} (ha : JE Tb X Φ pa a) (hb : JE Tb X Φ pb b) : JE Tb X Φ (.BinOp pa o pb pos) (.bin o a b) :=
  imp_PE (pe_op (opr_bin o) ha hb) fun σ H Q h => le_two (m := binS o) (fun x y μ Q Q' hh q => binS_mono hh q) h
theorem j_neg (ha : JE Tb X Φ pa a) : JE Tb X Φ (.UnaryOp .USub pa pos) (.neg a) := by
  refine imp_PE (pe_un un_neg ha) fun σ H Q ⟨τ, μ, rs, rh, h⟩ => ?_
  refine LE.bind (wE_mono a) rs rh h fun x μ1 v H1 h1 k1 r1 rs1 rh1 => ?_
  obtain ⟨i, rfl, q⟩ := h1
  obtain rfl : v = .int i := r1
  exact ⟨i, rfl, QE.here (QE.mono k1 q) rfl rh1⟩
/-- the comparisons of the tree form -/
theorem opr_cmp' (g : Gd X) (o : CmpOp) : OpR X (compareOp o) (rOf X.K Tb (cmpS o)) := opr_cmp o g.un
theorem j_cmp {o : CmpOp} (g : Gd X) (ha : JE Tb X Φ pa a) (hb : JE Tb X Φ pb b) (hm : behindInMarks o pb = false := by first | exact nomark _ (by decide) (by decide) | with_unfolding_all rfl) : JE Tb X Φ (.Compare pa [o] [pb] pos) (.cmp o a b) :=
  imp_PE (pe_cmpR (opr_cmp' (Tb := Tb) g o) ha hb hm) fun σ H Q h => le_two (m := cmpS o) (fun x y μ Q Q' hh q => cmpS_mono hh q) h
theorem j_isN {j} (ha : JE Tb X Φ pa a) : JE Tb X Φ (.Compare pa [.Is] [.Constant .none j p1] pos) (.isN a) := by
  refine imp_PE (pe_cmp (pc_isN ha)) fun σ H Q ⟨τ, μ, rs, rh, h⟩ => ?_
  refine LE.bind (wE_mono a) rs rh h fun x μ1 v H1 h1 k1 r1 rs1 rh1 => ?_
  have : decide (v = .non) = isNon x := by
    cases x with
    | non => obtain rfl : v = .non := r1; rfl
    | bl _ => obtain rfl : v = .bl _ := r1; rfl
    | int _ => obtain rfl : v = .int _ := r1; rfl
    | str _ => obtain ⟨rfl, _⟩ := r1; rfl
    | tup _ => obtain ⟨_, _, rfl, _⟩ := r1; rfl
    | ref _ => obtain rfl : v = .ref _ := r1; rfl
    | rol _ => obtain ⟨_, _, rfl, _⟩ := r1; rfl
  show Q (.bl (decide (v = .non))) H1
  rw [this]
  exact QE.here (QE.mono k1 h1) rfl rh1
theorem j_notN {j} (ha : JE Tb X Φ pa a) : JE Tb X Φ (.Compare pa [.IsNot] [.Constant .none j p1] pos) (.notN a) := by
  refine imp_PE (pe_cmp (pc_notN ha)) fun σ H Q ⟨τ, μ, rs, rh, h⟩ => ?_
  refine LE.bind (wE_mono a) rs rh h fun x μ1 v H1 h1 k1 r1 rs1 rh1 => ?_
  have : decide (v = .non) = isNon x := by
    cases x with
    | non => obtain rfl : v = .non := r1; rfl
    | bl _ => obtain rfl : v = .bl _ := r1; rfl
    | int _ => obtain rfl : v = .int _ := r1; rfl
    | str _ => obtain ⟨rfl, _⟩ := r1; rfl
    | tup _ => obtain ⟨_, _, rfl, _⟩ := r1; rfl
    | ref _ => obtain rfl : v = .ref _ := r1; rfl
    | rol _ => obtain ⟨_, _, rfl, _⟩ := r1; rfl
  show Q (.bl (!decide (v = .non))) H1
  rw [this]
  exact QE.here (QE.mono k1 h1) rfl rh1
/-- a value that the tests take as a bool -/
theorem j_chain {o p : CmpOp} (g : Gd X) (ha : JE Tb X Φ pa a) (hb : JE Tb X Φ pb b) (hc : JE Tb X Φ pc c) (hm : lastMarks [o, p] [pb, pc] = false := by with_unfolding_all rfl) : JE Tb X Φ (.Compare pa [o, p] [pb, pc] pos) (.chain o p a b c) := by
  refine imp_PE (pe_chain (opr_cmp' (Tb := Tb) g o) (opr_cmp' (Tb := Tb) g p) ha hb hc hm) fun σ H Q ⟨τ, μ, rs, rh, h⟩ => ?_
  refine LE.bind (wE_mono a) rs rh h fun x μ1 v H1 h1 k1 r1 rs1 rh1 => ?_
  refine LE.bind (wE_mono b) rs1 rh1 h1 fun y μ2 w H2 h2 k2 r2 rs2 rh2 => ?_
  refine ⟨x, y, μ2, r1.mono k2, r2, rh2, cmpS_mono (fun z μ3 h3 => ?_) h2⟩
  intro u H3 k3 r3 rh3
  obtain ⟨k, rfl, h3⟩ := h3
  obtain rfl : u = .bl k := r3
  refine ⟨k, rfl, ?_⟩
  cases k with
  | false => exact QE.here (QE.mono ((k1.trans k2).trans k3) h3) rfl rh3
  | true =>
    refine LE.bind (wE_mono c) (rs2.mono k3) rh3 h3 fun z μ4 w' H4 h4 k4 r4 rs4 rh4 => ?_
    exact ⟨y, z, μ4, (r2.mono k3).mono k4, r4, rh4, cmpS_mono (fun t μ' q => QE.mono (((k1.trans k2).trans k3).trans k4) q) h4⟩
theorem jt_chain {o p : CmpOp} (g : Gd X) (ha : JE Tb X Φ pa a) (hb : JE Tb X Φ pb b) (hc : JE Tb X Φ pc c) (hm : lastMarks [o, p] [pb, pc] = false := by with_unfolding_all rfl) : JT Tb X Φ (.Compare pa [o, p] [pb, pc] pos) (.chain o p a b c) := by
  refine imp_PT (pt_chain (opr_cmp' (Tb := Tb) g o) (opr_cmp' (Tb := Tb) g p) ha hb hc hm) fun σ H Q ⟨τ, μ, rs, rh, h⟩ => ?_
  refine LE.bind (wE_mono a) rs rh h fun x μ1 v H1 h1 k1 r1 rs1 rh1 => ?_
  refine LE.bind (wE_mono b) rs1 rh1 h1 fun y μ2 w H2 h2 k2 r2 rs2 rh2 => ?_
  refine ⟨x, y, μ2, r1.mono k2, r2, rh2, cmpS_mono (fun z μ3 h3 => ?_) h2⟩
  intro u H3 k3 r3 rh3
  obtain ⟨k, rfl, h3⟩ := h3
  obtain rfl : u = .bl k := r3
  refine ⟨k, rfl, ?_⟩
  cases k with
  | false => exact ⟨false, rfl, h3 H3 ((k1.trans k2).trans k3) rh3⟩
  | true =>
    refine LE.bind (wE_mono c) (rs2.mono k3) rh3 h3 fun z μ4 w' H4 h4 k4 r4 rs4 rh4 => ?_
    refine ⟨y, z, μ4, (r2.mono k3).mono k4, r4, rh4, cmpS_mono (fun t μ' h5 => ?_) h4⟩
    intro u' H5 k5 r5 rh5
    obtain ⟨k', rfl, h5⟩ := h5
    obtain rfl : u' = .bl k' := r5
    exact ⟨k', rfl, h5 H5 ((((k1.trans k2).trans k3).trans k4).trans k5) rh5⟩
theorem jt_cmp {o : CmpOp} (g : Gd X) (ha : JE Tb X Φ pa a) (hb : JE Tb X Φ pb b) (hm : behindInMarks o pb = false := by first | exact nomark _ (by decide) (by decide) | with_unfolding_all rfl) : JT Tb X Φ (.Compare pa [o] [pb] pos) (.cmp o a b) := by
  refine imp_PT (pt_cmpR (opr_cmp' (Tb := Tb) g o) ha hb hm) fun σ H Q ⟨τ, μ, rs, rh, h⟩ => ?_
  refine LE.bind (wE_mono a) rs rh h fun x μ1 v H1 h1 k1 r1 rs1 rh1 => ?_
  refine LE.bind (wE_mono b) rs1 rh1 h1 fun y μ2 w H2 h2 k2 r2 rs2 rh2 => ?_
  refine ⟨x, y, μ2, r1.mono k2, r2, rh2, cmpS_mono (fun z μ3 h3 => ?_) h2⟩
  intro u H3 k3 r3 rh3
  obtain ⟨k, rfl, h3⟩ := h3
  obtain rfl : u = .bl k := r3
  exact ⟨k, rfl, h3 H3 ((k1.trans k2).trans k3) rh3⟩

/-! ### tests -/
/-- the test of a value, by its truth -/
theorem jt_truth (ha : JE Tb X Φ pa a) (he : ∀ whole, isTrue pa X.env whole = (do let v ← whole; standAt pa.pos; holding [v] (truthy v)) := by intro _; rfl)
    (hw : ∀ τ μ Q, wT Φ a τ μ Q → wE Φ a τ μ fun t μ1 => ∃ k, truthS t μ1 = some k ∧ Q k μ1) : JT Tb X Φ pa a := by
  refine imp_PT (pt_truth ha he) fun σ H Q ⟨τ, μ, rs, rh, h⟩ => ?_
  refine LE.bind (wE_mono a) rs rh (hw _ _ _ h) fun x μ1 v H1 h1 k1 r1 rs1 rh1 => ?_
  obtain ⟨k, e, q⟩ := h1
  exact ⟨k, truth_ok rh1 r1 e, q H1 k1 rh1⟩
theorem jt_var {i : Nat} {x : Str} (ha : JE Tb X Φ (.Name x pos) (.var i)) : JT Tb X Φ (.Name x pos) (.var i) := jt_truth ha (by intro _; rfl) fun τ μ Q h => by
  unfold wT at h
  unfold wE
  exact h
theorem jt_ix {i : E F} {pi : Expr} (ha : JE Tb X Φ (.Subscript pa pi pos) (.ix a i)) : JT Tb X Φ (.Subscript pa pi pos) (.ix a i) := jt_truth ha (by intro _; rfl) fun τ μ Q h => by
  unfold wT at h
  unfold wE
  exact h
theorem jt_call {f : F} {kw : List Keyword} (ha : JE Tb X Φ (.Call pa pes kw pos) (.call f es)) : JT Tb X Φ (.Call pa pes kw pos) (.call f es) := jt_truth ha (by intro _; rfl) fun τ μ Q h => by
  unfold wT at h
  unfold wE
  exact h
theorem jt_bi {f : Bi} {kw : List Keyword} (ha : JE Tb X Φ (.Call pa pes kw pos) (.bi f es)) : JT Tb X Φ (.Call pa pes kw pos) (.bi f es) := jt_truth ha (by intro _; rfl) fun τ μ Q h => by
  unfold wT at h
  unfold wE
  exact h
theorem truth_bl {k : Bool} {μ : Mu} : truthS (.bl k) μ = some k := rfl
theorem jt_isi {ty : String} {kw : List Keyword} (ha : JE Tb X Φ (.Call pa pes kw pos) (.isi a ty)) : JT Tb X Φ (.Call pa pes kw pos) (.isi a ty) := jt_truth ha (by intro _; rfl) fun τ μ Q h => by
  unfold wT at h
  unfold wE
  exact wE_mono a _ _ _ _ (fun t μ1 ⟨k, e, q⟩ => ⟨k, e, k, rfl, q⟩) h
/-- comparisons with None, as tests -/
theorem jt_isN {j} (ha : JE Tb X Φ (.Compare pa [.Is] [.Constant .none j p1] pos) (.isN a)) (ha' : JE Tb X Φ pa a) : JT Tb X Φ (.Compare pa [.Is] [.Constant .none j p1] pos) (.isN a) := by
  refine imp_PT (pt_cmp (pc_isN ha')) fun σ H Q ⟨τ, μ, rs, rh, h⟩ => ?_
  refine LE.bind (wE_mono a) rs rh h fun x μ1 v H1 h1 k1 r1 rs1 rh1 => ?_
  have : decide (v = .non) = isNon x := by
    cases x with
    | non => obtain rfl : v = .non := r1; rfl
    | bl _ => obtain rfl : v = .bl _ := r1; rfl
    | int _ => obtain rfl : v = .int _ := r1; rfl
    | str _ => obtain ⟨rfl, _⟩ := r1; rfl
    | tup _ => obtain ⟨_, _, rfl, _⟩ := r1; rfl
    | ref _ => obtain rfl : v = .ref _ := r1; rfl
    | rol _ => obtain ⟨_, _, rfl, _⟩ := r1; rfl
  exact ⟨_, rfl, by rw [this]; exact h1 H1 k1 rh1⟩
theorem jt_notN {j} (ha : JE Tb X Φ (.Compare pa [.IsNot] [.Constant .none j p1] pos) (.notN a)) (ha' : JE Tb X Φ pa a) : JT Tb X Φ (.Compare pa [.IsNot] [.Constant .none j p1] pos) (.notN a) := by
  refine imp_PT (pt_cmp (pc_notN ha')) fun σ H Q ⟨τ, μ, rs, rh, h⟩ => ?_
  refine LE.bind (wE_mono a) rs rh h fun x μ1 v H1 h1 k1 r1 rs1 rh1 => ?_
  have : decide (v = .non) = isNon x := by
    cases x with
    | non => obtain rfl : v = .non := r1; rfl
    | bl _ => obtain rfl : v = .bl _ := r1; rfl
    | int _ => obtain rfl : v = .int _ := r1; rfl
    | str _ => obtain ⟨rfl, _⟩ := r1; rfl
    | tup _ => obtain ⟨_, _, rfl, _⟩ := r1; rfl
    | ref _ => obtain rfl : v = .ref _ := r1; rfl
    | rol _ => obtain ⟨_, _, rfl, _⟩ := r1; rfl
  exact ⟨_, rfl, by rw [this]; exact h1 H1 k1 rh1⟩
theorem jt_not (ha : JT Tb X Φ pa a) : JT Tb X Φ (.UnaryOp .Not pa pos) (.not a) := by
  refine imp_PT (pt_not ha) fun σ H Q ⟨τ, μ, rs, rh, h⟩ => ?_
  unfold wT at h
  exact LT.bind (wT_mono a) rs rh h fun k μ1 H1 h1 k1 rs1 rh1 => h1 H1 k1 rh1
def JWA (Tb : List NdefX.NTab) (X : Cx) (Φ : F → Con) (pe : Expr) (es : Es F) : Prop := PW X pe (LT X.K Tb (wTAnd Φ es))
def JWO (Tb : List NdefX.NTab) (X : Cx) (Φ : F → Con) (pe : Expr) (es : Es F) : Prop := PW X pe (LT X.K Tb (wTOr Φ es))
theorem jwa_one (ha : JT Tb X Φ pa a) : JWA Tb X Φ (.BoolOp .And [pa] pos) (.cons a .nil) := imp_PW (pw_and1 ha) fun σ H Q ⟨τ, μ, rs, rh, h⟩ => ⟨τ, μ, rs, rh, by unfold wTAnd at h; exact h⟩
theorem jwo_one (ha : JT Tb X Φ pa a) : JWO Tb X Φ (.BoolOp .Or [pa] pos) (.cons a .nil) := imp_PW (pw_or1 ha) fun σ H Q ⟨τ, μ, rs, rh, h⟩ => ⟨τ, μ, rs, rh, by unfold wTOr at h; exact h⟩
theorem jwa_cons {f : E F} (ha : JT Tb X Φ pa a) (hb : JWA Tb X Φ (.BoolOp .And (pb :: pes) pos) (.cons f es)) : JWA Tb X Φ (.BoolOp .And (pa :: pb :: pes) pos) (.cons a (.cons f es)) := by
  refine imp_PW (pw_and ha hb) fun σ H Q ⟨τ, μ, rs, rh, h⟩ => ?_
  unfold wTAnd at h
  refine LT.bind (wT_mono a) rs rh h fun k μ1 H1 h1 k1 rs1 rh1 => ?_
  cases k with
  | true => exact LT.bind (wTAnd_mono _) rs1 rh1 h1 fun k' μ2 H2 h2 k2 rs2 rh2 => h2 H2 (k1.trans k2) rh2
  | false => exact h1 H1 k1 rh1
theorem jwo_cons {f : E F} (ha : JT Tb X Φ pa a) (hb : JWO Tb X Φ (.BoolOp .Or (pb :: pes) pos) (.cons f es)) : JWO Tb X Φ (.BoolOp .Or (pa :: pb :: pes) pos) (.cons a (.cons f es)) := by
  refine imp_PW (pw_or ha hb) fun σ H Q ⟨τ, μ, rs, rh, h⟩ => ?_
  unfold wTOr at h
  refine LT.bind (wT_mono a) rs rh h fun k μ1 H1 h1 k1 rs1 rh1 => ?_
  cases k with
  | true => exact h1 H1 k1 rh1
  | false => exact LT.bind (wTOr_mono _) rs1 rh1 h1 fun k' μ2 H2 h2 k2 rs2 rh2 => h2 H2 (k1.trans k2) rh2
theorem jt_and (h : JWA Tb X Φ pe es) : JT Tb X Φ pe (.and es) := by
  refine imp_PT (PW.pt h) fun σ H Q ⟨τ, μ, rs, rh, h⟩ => ⟨τ, μ, rs, rh, ?_⟩
  unfold wT at h
  exact h
theorem jt_or (h : JWO Tb X Φ pe es) : JT Tb X Φ pe (.or es) := by
  refine imp_PT (PW.pt h) fun σ H Q ⟨τ, μ, rs, rh, h⟩ => ⟨τ, μ, rs, rh, ?_⟩
  unfold wT at h
  exact h

/-! ### and, or, not, if-else as values -/
def JEA (Tb : List NdefX.NTab) (X : Cx) (Φ : F → Con) (pe : Expr) (es : Es F) : Prop := PE X pe (LE X.K Tb (wAnd Φ es))
def JEO (Tb : List NdefX.NTab) (X : Cx) (Φ : F → Con) (pe : Expr) (es : Es F) : Prop := PE X pe (LE X.K Tb (wOr Φ es))
theorem jea_one (ha : JE Tb X Φ pa a) : JEA Tb X Φ (.BoolOp .And [pa] pos) (.cons a .nil) := imp_PE (pe_one ha) fun σ H Q ⟨τ, μ, rs, rh, h⟩ => ⟨τ, μ, rs, rh, by unfold wAnd at h; exact h⟩
theorem jeo_one (ha : JE Tb X Φ pa a) : JEO Tb X Φ (.BoolOp .Or [pa] pos) (.cons a .nil) := imp_PE (pe_one ha) fun σ H Q ⟨τ, μ, rs, rh, h⟩ => ⟨τ, μ, rs, rh, by unfold wOr at h; exact h⟩
theorem jea_cons {f : E F} (ha : JE Tb X Φ pa a) (hb : JEA Tb X Φ (.BoolOp .And (pb :: pes) pos) (.cons f es)) : JEA Tb X Φ (.BoolOp .And (pa :: pb :: pes) pos) (.cons a (.cons f es)) := by
  refine imp_PE (pe_and ha hb) fun σ H Q ⟨τ, μ, rs, rh, h⟩ => ?_
  unfold wAnd at h
  refine LE.bind (wE_mono a) rs rh h fun x μ1 v H1 h1 k1 r1 rs1 rh1 => ?_
  obtain ⟨k, rfl, h1⟩ := h1
  obtain rfl : v = .bl k := r1
  refine ⟨k, rfl, ?_⟩
  cases k with
  | true => exact LE.bind (wAnd_mono _) rs1 rh1 h1 fun x μ2 w H2 h2 k2 r2 rs2 rh2 => h2 _ _ (k1.trans k2) r2 rh2
  | false => exact QE.here (QE.mono k1 h1) rfl rh1
theorem jeo_cons {f : E F} (ha : JE Tb X Φ pa a) (hb : JEO Tb X Φ (.BoolOp .Or (pb :: pes) pos) (.cons f es)) : JEO Tb X Φ (.BoolOp .Or (pa :: pb :: pes) pos) (.cons a (.cons f es)) := by
  refine imp_PE (pe_or ha hb) fun σ H Q ⟨τ, μ, rs, rh, h⟩ => ?_
  unfold wOr at h
  refine LE.bind (wE_mono a) rs rh h fun x μ1 v H1 h1 k1 r1 rs1 rh1 => ?_
  obtain ⟨k, rfl, h1⟩ := h1
  obtain rfl : v = .bl k := r1
  refine ⟨k, rfl, ?_⟩
  cases k with
  | true => exact QE.here (QE.mono k1 h1) rfl rh1
  | false => exact LE.bind (wOr_mono _) rs1 rh1 h1 fun x μ2 w H2 h2 k2 r2 rs2 rh2 => h2 _ _ (k1.trans k2) r2 rh2
theorem j_and (h : JEA Tb X Φ pe es) : JE Tb X Φ pe (.and es) := by
  refine imp_PE h fun σ H Q ⟨τ, μ, rs, rh, h⟩ => ⟨τ, μ, rs, rh, ?_⟩
  unfold wE at h
  exact h
theorem j_or (h : JEO Tb X Φ pe es) : JE Tb X Φ pe (.or es) := by
  refine imp_PE h fun σ H Q ⟨τ, μ, rs, rh, h⟩ => ⟨τ, μ, rs, rh, ?_⟩
  unfold wE at h
  exact h
theorem j_not (ha : JE Tb X Φ pa a) : JE Tb X Φ (.UnaryOp .Not pa pos) (.not a) := by
  refine imp_PE (pe_not ha) fun σ H Q ⟨τ, μ, rs, rh, h⟩ => ?_
  refine LE.bind (wE_mono a) rs rh h fun x μ1 v H1 h1 k1 r1 rs1 rh1 => ?_
  obtain ⟨k, rfl, h1⟩ := h1
  obtain rfl : v = .bl k := r1
  exact ⟨k, rfl, QE.here (QE.mono k1 h1) rfl rh1⟩
theorem j_ite (hc : JT Tb X Φ pc c) (ha : JE Tb X Φ pa a) (hb : JE Tb X Φ pb b) : JE Tb X Φ (.IfExp pc pa pb pos) (.ite c a b) := by
  refine imp_PE (pe_ifExp hc ha hb) fun σ H Q ⟨τ, μ, rs, rh, h⟩ => ?_
  refine LT.bind (wT_mono c) rs rh h fun k μ1 H1 h1 k1 rs1 rh1 => ?_
  cases k with
  | true => exact LE.bind (wE_mono _) rs1 rh1 h1 fun x μ2 w H2 h2 k2 r2 rs2 rh2 => h2 _ _ (k1.trans k2) r2 rh2
  | false => exact LE.bind (wE_mono _) rs1 rh1 h1 fun x μ2 w H2 h2 k2 r2 rs2 rh2 => h2 _ _ (k1.trans k2) r2 rh2

/-! ### subscripts, slices -/
theorem j_ix (g : Gd X) (ha : JE Tb X Φ pa a) (hb : JE Tb X Φ pb b) (hs : PlainIx pb := by intro _ _; rfl) : JE Tb X Φ (.Subscript pa pb pos) (.ix a b) :=
  imp_PE (pe_ix (ixr_all g.un) ha hb hs) fun σ H Q h => le_two (m := ixS) (fun x y μ Q Q' hh q => ixS_mono hh q) h
theorem jo_none : JO Tb X Φ none .none := by
  refine ⟨fun pins s σ H Q I ⟨τ, μ, rs, rh, h⟩ => po_none.run pins s σ H Q I ?_⟩
  unfold wEo at h
  exact h H TK.refl rh
theorem jo_some (ha : JE Tb X Φ pa a) : JO Tb X Φ (some pa) (.some a) := by
  refine ⟨fun pins s σ H Q I ⟨τ, μ, rs, rh, h⟩ => (po_some ha).run pins s σ H Q I ?_⟩
  unfold wEo at h
  refine LE.bind (wE_mono a) rs rh h fun x μ1 v H1 h1 k1 r1 rs1 rh1 => ?_
  obtain ⟨i, rfl, q⟩ := h1
  obtain rfl : v = .int i := r1
  exact ⟨i, rfl, q H1 k1 rh1⟩
theorem LO.bind {K : PySem.W.Frag} {σ : L2.St} {H : Hp} {τ : Env} {μ : Mu} {eo : Eo F} (rs : RepS K H τ σ) (rh : RepH K Tb H μ) {k : Option Int → Mu → Prop} {R : Option Int → Hp → Prop} (h : wEo Φ eo τ μ k)
    (hk : ∀ o μ1 H1, k o μ1 → TK K H H1 → RepS K H1 τ σ → RepH K Tb H1 μ1 → R o H1) : LO K Tb (wEo Φ eo) σ H R :=
  ⟨τ, μ, rs, rh, wEo_mono eo _ _ _ _ (fun o μ1 kt H1 tk rh1 => hk o μ1 H1 kt tk (rs.mono tk) rh1) h⟩
theorem j_sl {pl ph : Option Expr} {lo hi : Eo F} (ha : JE Tb X Φ pa a) (hl : JO Tb X Φ pl lo) (hh : JO Tb X Φ ph hi) : JE Tb X Φ (.Subscript pa (.Slice pl ph none p2) pos) (.sl a lo hi) := by
  refine imp_PE (pe_slice (slr_all (Tb := Tb)) ha hl hh) fun σ H Q ⟨τ, μ, rs, rh, h⟩ => ?_
  refine LE.bind (wE_mono a) rs rh h fun x μ1 v H1 h1 k1 r1 rs1 rh1 => ?_
  refine LO.bind rs1 rh1 h1 fun l μ2 H2 h2 k2 rs2 rh2 => ?_
  refine LO.bind rs2 rh2 h2 fun u μ3 H3 h3 k3 rs3 rh3 => ?_
  exact ⟨x, μ3, (r1.mono k2).mono k3, rh3, slS_mono (fun t μ' q => QE.mono ((k1.trans k2).trans k3) q) h3⟩
theorem j_rev {k : Nat} {p4 : Pos} (ha : JE Tb X Φ pa a) : JE Tb X Φ (.Subscript pa (.Slice none none (some (.UnaryOp .USub (.Constant (.int 1) k p1) p2)) p3) p4) (.rev a) := by
  refine imp_PE (pe_revA ha) fun σ H Q ⟨τ, μ, rs, rh, h⟩ => ?_
  refine LE.bind (wE_mono a) rs rh h fun x μ1 v H1 h1 k1 r1 rs1 rh1 => ?_
  unfold revS at h1
  cases x <;> simp only at h1
  · obtain ⟨p, vs, rfl, sq, r⟩ := r1
    exact ⟨p, vs, rfl, .inr ⟨sq.seq, QE.newTup (QE.mono k1 h1) r.reverse rh1⟩⟩
  · rename_i d
    obtain rfl : v = .ref d := r1
    obtain ⟨l, e, q⟩ := h1
    obtain ⟨vs, e1, r⟩ := rh1 d _ e
    exact ⟨d, vs, rfl, .inl ⟨SqL.of e1, fun p hp => QE.newLst rh1 r.reverse (fun p hp => QE.mono k1 (q p hp)) hp⟩⟩

/-! ### built-in functions -/
theorem bi_run {bf : Bi} {t : List V → Hp → VK → Prop} (h : ∀ xs H Q, rBi X.K Tb bf xs H Q → t xs H Q) {σ : L2.St} {H : Hp} {Q : VK} (q : LE X.K Tb (wE Φ (.bi bf es)) σ H Q) : tCB t (LA X.K Tb (wEs Φ es)) σ H Q := by
  obtain ⟨τ, μ, rs, rh, q⟩ := q
  refine LA.bind (wEs_mono es) rs rh q fun ts μ1 vs H1 h1 k1 r1 rs1 rh1 => ?_
  exact h _ _ _ ⟨ts, μ1, r1, rh1, biS_mono (fun t μ' q => QE.mono k1 q) h1⟩
theorem j_bfun {bf : Bi} {x : Str} {id : String} (hc : CallR X (.builtin id) (rBi X.K Tb bf)) (hg : Gl X x) (hm : X.mg x = none) (hv : bootBuiltins x = some (.builtin id)) (ha : JA Tb X Φ (pe :: pes) es) (hn : x ≠ "__name__" := by decide) (hdb : (x == ("__debug__" : Str)) = false := by decide)
    (he : starEach (pe :: pes) X.env = (false, eval pe X.env) :: starEach pes X.env := by rfl) (hpl : (backTo pos (starEach pes X.env)).any (·.1) = false := by rfl) : JE Tb X Φ (.Call (.Name x p1) (pe :: pes) [] pos) (.bi bf es) :=
  imp_PE (pe_callB hc hg hm hv ha hn hdb he hpl) fun σ H Q h => bi_run (fun _ _ _ q => q) h
theorem j_btyp {bf : Bi} {x : Str} {id : String} (hc : CallR X (.type id) (rBi X.K Tb bf)) (hg : Gl X x) (hm : X.mg x = none) (hv : bootBuiltins x = some (.type id)) (ha : JA Tb X Φ (pe :: pes) es) (hn : x ≠ "__name__" := by decide) (hdb : (x == ("__debug__" : Str)) = false := by decide)
    (he : starEach (pe :: pes) X.env = (false, eval pe X.env) :: starEach pes X.env := by rfl) (hpl : (backTo pos (starEach pes X.env)).any (·.1) = false := by rfl) : JE Tb X Φ (.Call (.Name x p1) (pe :: pes) [] pos) (.bi bf es) :=
  imp_PE (pe_callTy hc hg hm hv ha hn hdb he hpl) fun σ H Q h => bi_run (fun _ _ _ q => q) h
/-! ### methods -/
theorem j_me {m : Me} {ob : E F} {po : Expr} {name : Str} {Ty id : String} (pat : PlainAttrs Ty) (slot : Slot Ty name id) (hty : typeOf (.builtin id) = pure (.type "method_descriptor")) (hm : MtR X id (rMe X.K Tb m))
    (tyo : ∀ x μ v H, meTy m x μ → Rep X.K H x v → RepH X.K Tb H μ → tyV X.K Ty v H) (ho : JE Tb X Φ po ob) (ha : JA Tb X Φ (pe :: pes) es)
    (hbase : attributeBase po name X.env (eval po X.env) = eval po X.env := by rfl)
    (hfew : ((backTo cpos (starEach (pe :: pes) X.env)).all (fun x => !x.1) && (backToKw cpos (keywordEach [] X.env)).all (fun x => x.1.isSome)
      && decide ((pe :: pes).length + ([] : List Keyword).length + (if ([] : List Keyword).isEmpty then 0 else 1) < 30)) = true := by rfl)
    (hline : (apos.endLine == cpos.line) = true := by rfl) (hs : starEach (pe :: pes) X.env = (false, eval pe X.env) :: starEach pes X.env := by rfl) (hplain : (backTo cpos (starEach pes X.env)).any (·.1) = false := by rfl) :
    JE Tb X Φ (.Call (.Attribute po name apos) (pe :: pes) [] cpos) (.me m ob es) := by
  refine imp_PE (pe_bm pat slot hty hm ho ha hbase hfew hline hs hplain) fun σ H Q ⟨τ, μ, rs, rh, h⟩ => ?_
  refine LE.bind (wE_mono ob) rs rh h fun x μ1 v H1 h1 k1 r1 rs1 rh1 => ?_
  refine ⟨tyo _ _ _ _ h1.1 r1 rh1, ?_⟩
  refine LA.bind (wEs_mono es) rs1 rh1 h1.2 fun ts μ2 vs H2 h2 k2 r2 rs2 rh2 => ?_
  exact ⟨x, ts, μ2, r1.mono k2, r2, rh2, meS_mono (fun t μ' q => QE.mono (k1.trans k2) q) h2⟩
theorem j_me0 {m : Me} {ob : E F} {po : Expr} {name : Str} {Ty id : String} (pat : PlainAttrs Ty) (slot : Slot Ty name id) (hty : typeOf (.builtin id) = pure (.type "method_descriptor")) (hm : MtR X id (rMe X.K Tb m))
    (tyo : ∀ x μ v H, meTy m x μ → Rep X.K H x v → RepH X.K Tb H μ → tyV X.K Ty v H) (ho : JE Tb X Φ po ob)
    (hbase : attributeBase po name X.env (eval po X.env) = eval po X.env := by rfl) (hline : (apos.endLine == cpos.line) = true := by rfl) : JE Tb X Φ (.Call (.Attribute po name apos) [] [] cpos) (.me m ob .nil) := by
  refine imp_PE (pe_bm0 pat slot hty hm ho hbase hline) fun σ H Q ⟨τ, μ, rs, rh, h⟩ => ?_
  refine LE.bind (wE_mono ob) rs rh h fun x μ1 v H1 h1 k1 r1 rs1 rh1 => ?_
  refine ⟨tyo _ _ _ _ h1.1 r1 rh1, ?_⟩
  have h2 := h1.2
  unfold wEs at h2
  exact ⟨x, [], μ1, r1, Reps.nil, rh1, meS_mono (fun t μ' q => QE.mono k1 q) h2⟩
end
end TV

/-! Targets, what is walked, comprehensions, calls of defs. -/
namespace TV
open PySem PySem.Spec PyProof.Rows L2

/-! ### slots that stay -/
mutual
def Tg.ns : Tg → List Nat
  | .nm i => [i]
  | .tp l => nss l
def nss : List Tg → List Nat
  | [] => []
  | g :: gs => g.ns ++ nss gs
end
/-- all slots but those stand -/
def Sm (σ σ' : L2.St) (ns : List Nat) : Prop := σ'.length = σ.length ∧ ∀ i, i ∉ ns → σ'[i]? = σ[i]?
theorem Sm.set {σ : L2.St} {i : Nat} {v : Option V} : Sm σ (σ.set i v) [i] := ⟨by simp, fun j h => by rw [List.getElem?_set_ne (fun e => h (by simp [e]))]⟩
theorem Sm.trans {σ σ1 σ2 : L2.St} {ns ms : List Nat} (h : Sm σ σ1 ns) (k : Sm σ1 σ2 ms) : Sm σ σ2 (ns ++ ms) :=
  ⟨k.1.trans h.1, fun i hi => by rw [List.mem_append, not_or] at hi; rw [k.2 i hi.2, h.2 i hi.1]⟩
theorem Sm.refl {σ : L2.St} : Sm σ σ [] := ⟨rfl, fun _ _ => rfl⟩
theorem wipe_get (σ : L2.St) (i : Nat) : ∀ vs : List Nat, (L2.wipe σ vs)[i]? = if i ∈ vs then (σ[i]?).map (fun _ => none) else σ[i]?
  | [] => by simp [L2.wipe]
  | v :: vs => by
    unfold L2.wipe
    have ih := wipe_get σ i vs
    by_cases h : v = i
    · subst h
      rw [if_pos (by simp)]
      by_cases hl : v < σ.length
      · rw [List.getElem?_set_self (by rw [L2.wipe_length]; exact hl), List.getElem?_eq_getElem hl]; rfl
      · rw [List.getElem?_eq_none (by rw [List.length_set, L2.wipe_length]; omega), List.getElem?_eq_none (by omega)]; rfl
    · rw [List.getElem?_set_ne h, ih]
      have : (i ∈ v :: vs) ↔ i ∈ vs := by simp [Ne.symm h]
      by_cases hm : i ∈ vs
      · rw [if_pos hm, if_pos (this.mpr hm)]
      · rw [if_neg hm, if_neg (fun z => hm (this.mp z))]
theorem Sm.wiped {σ σ' : L2.St} {ns vs : List Nat} (h : Sm σ σ' ns) (hs : ∀ i ∈ ns, i ∈ vs) : L2.wipe σ' vs = L2.wipe σ vs := by
  apply List.ext_getElem?
  intro i
  rw [wipe_get, wipe_get]
  by_cases hi : i ∈ vs
  · rw [if_pos hi, if_pos hi]
    by_cases hl : i < σ.length
    · rw [List.getElem?_eq_getElem hl, List.getElem?_eq_getElem (by rw [h.1]; exact hl)]; rfl
    · have := h.1
      rw [List.getElem?_eq_none (by omega), List.getElem?_eq_none (by omega)]
  · rw [if_neg hi, if_neg hi, h.2 i (fun z => hi (hs i z))]
theorem wipe_wipe (σ : L2.St) (vs : List Nat) : L2.wipe (L2.wipe σ vs) vs = L2.wipe σ vs := by
  apply List.ext_getElem?
  intro i
  rw [wipe_get, wipe_get]
  by_cases hi : i ∈ vs
  · rw [if_pos hi, if_pos hi, ]
    cases σ[i]? <;> rfl
  · rw [if_neg hi, if_neg hi]

/-! ### targets -/
def LG (K : PySem.W.Frag) (g : Tg) : TG := fun v σ H Q => ∃ t τ, Rep K H t v ∧ RepS K H τ σ ∧ wTg g t τ (fun τ' => ∀ σ', RepS K H τ' σ' → Sm σ σ' g.ns → Q σ' H)
def LGs (K : PySem.W.Frag) (gs : List Tg) : TGs := fun vs σ H Q => ∃ ts τ, Reps K H ts vs ∧ RepS K H τ σ ∧ wTgs gs ts τ (fun τ' => ∀ σ', RepS K H τ' σ' → Sm σ σ' (nss gs) → Q σ' H)
mutual
theorem wTg_ex {Q : Env → Prop} : ∀ (g : Tg) (t : T) (τ : Env), wTg g t τ Q → ∃ τ', Q τ'
  | .nm i, t, τ, h => by unfold wTg at h; exact ⟨_, h⟩
  | .tp gs, t, τ, h => by
    unfold wTg at h
    split at h
    · exact (wTgs_ex gs _ τ h).2
    · exact h.elim
theorem wTgs_ex {Q : Env → Prop} : ∀ (gs : List Tg) (l : List T) (τ : Env), wTgs gs l τ Q → l.length = gs.length ∧ ∃ τ', Q τ'
  | [], l, τ, h => by unfold wTgs at h; obtain ⟨rfl, q⟩ := h; exact ⟨rfl, _, q⟩
  | g :: gs, l, τ, h => by
    unfold wTgs at h
    split at h
    · obtain ⟨τ1, h1⟩ := wTg_ex g _ τ h
      obtain ⟨a, b⟩ := wTgs_ex gs _ τ1 h1
      exact ⟨by simp [a], b⟩
    · exact h.elim
end
section
variable {X : Cx} {pos : Pos}
def JG (X : Cx) (tg : Expr) (g : Tg) : Prop := PG X tg (LG X.K g)
def JGs (X : Cx) (tgs : List Expr) (gs : List Tg) : Prop := PGs X tgs (LGs X.K gs)
theorem imp_PGs {ts : List Expr} {t t' : TGs} (h : PGs X ts t) (hi : ∀ vs σ H Q, t' vs σ H Q → t vs σ H Q) : PGs X ts t' := ⟨fun pins s σ H vs us Q I r q => h.run pins s σ H vs us Q I r (hi _ _ _ _ q)⟩
theorem jg_nm (i : Nat) {x : Str} (g : Gd X) (hi : X.N[i]? = some x := by rfl) (hx : Loc X.env.scope x := by first | exact Or.inl rfl | exact Or.inr rfl) (hf : X.fn x = true ∨ X.env.scope.names.lookup x = some .local := by first | exact .inl rfl | exact .inr rfl | assumption) : JG X (.Name x pos) (.nm i) := by
  refine imp_PG (pg_name g.nd hi hx hf) fun v σ H Q h => ?_
  obtain ⟨t, τ, r, rs, q⟩ := h
  unfold wTg at q
  exact q _ (rs.set r) Sm.set
theorem jgs_nil : JGs X [] [] := by
  refine imp_PGs pgs_nil fun vs σ H Q h => ?_
  obtain ⟨ts, τ, r, rs, q⟩ := h
  unfold wTgs at q
  obtain ⟨rfl, q⟩ := q
  unfold Reps at r
  exact ⟨r, q σ rs Sm.refl⟩
theorem jgs_cons {e : Expr} {es : List Expr} {g : Tg} {gs : List Tg} (h1 : JG X e g) (h2 : JGs X es gs)
    (hs : (assignEach (e :: es) X.env).map (·.2) = assign e X.env :: (assignEach es X.env).map (·.2) := by rfl) : JGs X (e :: es) (g :: gs) := by
  refine imp_PGs (pgs_cons h1 h2 hs) fun vs σ H Q h => ?_
  obtain ⟨ts, τ, r, rs, q⟩ := h
  unfold wTgs at q
  cases ts with
  | nil => exact q.elim
  | cons t ts =>
    unfold Reps at r
    obtain ⟨v, vr, rfl, r1, r2⟩ := r
    refine ⟨v, vr, rfl, t, τ, r1, rs, wTg_mono (fun τ1 q => ?_) _ _ _ q⟩
    intro σ1 rs1 sm1
    refine ⟨ts, τ1, r2, rs1, wTgs_mono (fun τ2 q => ?_) _ _ _ q⟩
    intro σ2 rs2 sm2
    refine q σ2 rs2 ?_
    unfold nss
    exact sm1.trans sm2
theorem jg_tp {es : List Expr} {k : Nat} {gs : List Tg} (g : Gd X) (h : JGs X es gs) (hn : (assignEach es X.env).length = gs.length := by rfl) (hst : (assignEach es X.env).findIdx? (·.1) = none := by rfl) : JG X (.Tuple es k pos) (.tp gs) := by
  refine imp_PG (pg_tup g.calm h hn hst) fun v σ H Q h => ?_
  obtain ⟨t, τ, r, rs, q⟩ := h
  unfold wTg at q
  cases t <;> simp only at q
  rename_i l
  obtain ⟨a, vs, rfl, sq, r⟩ := r
  refine ⟨a, vs, rfl, sq.seq, ?_, l, τ, r, rs, ?_⟩
  · rw [← r.length]; exact (wTgs_ex gs l τ q).1
  · unfold Tg.ns at q; exact q
end

/-! ### what is walked -/
structure WkT (K : PySem.W.Frag) (Tb : List NdefX.NTab) (H1 : Hp) (J : It) (its : List T) (stays : Mu → Prop) : Prop where
  go : ∀ (i : Nat) (H' : Hp) (μ : Mu), i < its.length → TK K H1 H' → RepH K Tb H' μ → stays μ → J.go i H'
  stop : ∀ (H' : Hp) (μ : Mu), TK K H1 H' → RepH K Tb H' μ → stays μ → J.stop its.length H'
  yld : ∀ (i : Nat) (H' : Hp) (μ : Mu) (x : V) (H'' : Hp) (t : T), its[i]? = some t → TK K H1 H' → RepH K Tb H' μ → stays μ → J.yld i H' x H'' → TK K H' H'' ∧ Rep K H'' t x ∧ RepH K Tb H'' μ
def LI (K : PySem.W.Frag) (Tb : List NdefX.NTab) (m : MSc) : TI := fun σ H R => ∃ τ μ, RepS K H τ σ ∧ RepH K Tb H μ ∧ m τ μ (fun its stays μ1 => ∀ H1, TK K H H1 → RepH K Tb H1 μ1 → ∀ J, WkT K Tb H1 J its stays → R J H1)
section
variable {K : PySem.W.Frag} {H1 : Hp}
theorem Reps.at {K : PySem.W.Frag} {H : Hp} {ts : List T} {vs : List V} (h : Reps K H ts vs) {i : Nat} {t : T} {v : V} (e1 : ts[i]? = some t) (e2 : vs[i]? = some v) : Rep K H t v := by
  obtain ⟨w, e3, r⟩ := h.get e1
  rw [e2] at e3; cases e3
  exact r
theorem wk_tup {a : Addr} {vs : List V} {l : List T} (q : TupF K H1 a vs) (r : Reps K H1 l vs) : WkT K Tb H1 (Itt K a) l (fun _ => True) where
  go := fun i H' μ hi k _ _ => by
    have hv : i < vs.length := by rw [← r.length]; exact hi
    exact ⟨vs, vs[i], (k.tup _ _ q).seq, by simp [hv]⟩
  stop := fun H' μ k _ _ => ⟨vs, (k.tup _ _ q).seq, by rw [r.length]; exact Nat.le_refl _⟩
  yld := fun i H' μ x H'' t e k rh _ y => by
    obtain ⟨rfl, f⟩ := y
    exact ⟨TK.refl, (r.mono k).at e (f _ (k.tup _ _ q).seq), rh⟩
theorem wk_rol {a : Addr} {vs : List V} {l : List T} (q : RoL K H1 a vs) (r : Reps K H1 l vs) : WkT K Tb H1 (Itl K a) l (fun _ => True) where
  go := fun i H' μ hi k _ _ => by
    have hv : i < vs.length := by rw [← r.length]; exact hi
    exact ⟨vs, vs[i], (k.rol _ _ q).seq, by simp [hv]⟩
  stop := fun H' μ k _ _ => ⟨vs, (k.rol _ _ q).seq, by rw [r.length]; exact Nat.le_refl _⟩
  yld := fun i H' μ x H'' t e k rh _ y => by
    obtain ⟨rfl, f⟩ := y
    exact ⟨TK.refl, (r.mono k).at e (f _ (k.rol _ _ q).seq), rh⟩
theorem wk_lst {a : Addr} {l : List T} : WkT K Tb H1 (Itl K a) l (fun μ => μ a = some (.lst l)) where
  go := fun i H' μ hi k rh e => by
    obtain ⟨vs, e1, r⟩ := rh a _ e
    have hv : i < vs.length := by rw [← r.length]; exact hi
    exact ⟨vs, vs[i], SqL.of e1, by simp [hv]⟩
  stop := fun H' μ k rh e => by
    obtain ⟨vs, e1, r⟩ := rh a _ e
    exact ⟨vs, SqL.of e1, by rw [r.length]; exact Nat.le_refl _⟩
  yld := fun i H' μ x H'' t e k rh st y => by
    obtain ⟨rfl, f⟩ := y
    obtain ⟨vs, e1, r⟩ := rh a _ st
    exact ⟨TK.refl, r.at e (f _ (SqL.of e1)), rh⟩
theorem wk_str {z : Str} (ok : PyData.strOk z = true) : WkT K Tb H1 (Its z) (z.cps.toList.map fun c => T.str ⟨#[c]⟩) (fun _ => True) where
  go := fun i H' μ hi k rh e => by
    have : i < z.cps.size := by simpa using hi
    exact this
  stop := fun H' μ k rh e => by
    show z.cps.size ≤ _
    simp
  yld := fun i H' μ x H'' t e k rh st y => by
    obtain ⟨rfl, c, hc, rfl⟩ := y
    refine ⟨TK.refl, ?_, rh⟩
    rw [List.getElem?_map] at e
    have hc' : z.cps.toList[i]? = some c := by rw [Array.getElem?_toList]; exact hc
    rw [hc'] at e
    cases e
    exact Rep.str_mk (strOk_one ok (List.mem_of_getElem? hc')) (by show 1 ≤ sizeLine; decide)
theorem wk_rng {lo : Int} {n : Nat} : WkT K Tb H1 (Itr lo n) ((List.range n).map fun (i : Nat) => T.int (lo + i)) (fun _ => True) where
  go := fun i H' μ hi k rh e => by
    have : i < n := by simpa using hi
    exact this
  stop := fun H' μ k rh e => by
    show n ≤ _
    simp
  yld := fun i H' μ x H'' t e k rh st y => by
    obtain ⟨rfl, rfl⟩ := y
    refine ⟨TK.refl, ?_, rh⟩
    rw [List.getElem?_map] at e
    have hi : i < n := by
      cases h : (List.range n)[i]? with
      | none => rw [h] at e; cases e
      | some j => have := (List.getElem?_eq_some_iff.mp h).1; simpa using this
    rw [List.getElem?_range hi] at e
    cases e
    rfl
theorem pair_rep {H : Hp} {p : Addr} {ob : Obj} {x y : V} {s t : T} (hn : H p = none) (hd : ob.dict = none) (r1 : Rep K H s x) (r2 : Rep K H t y) :
    TK K H (upd H p (ftup ob [x, y])) ∧ Rep K (upd H p (ftup ob [x, y])) (.tup [s, t]) (.ref p) := by
  have k : TK K H (upd H p (ftup ob [x, y])) := TK.new hn
  exact ⟨k, p, [x, y], rfl, .inl ⟨ob, upd_same, hd⟩, Reps.cons (r1.mono k) (Reps.cons (r2.mono k) Reps.nil)⟩
theorem enum_get {l : List T} {i : Nat} {t : T} (e : (l.zipIdx.map fun p => T.tup [.int (p.2 : Nat), p.1])[i]? = some t) : ∃ u, l[i]? = some u ∧ t = .tup [.int (i : Nat), u] := by
  rw [List.getElem?_map, List.getElem?_zipIdx] at e
  cases h : l[i]? with
  | none => rw [h] at e; cases e
  | some u =>
    rw [h] at e
    cases e
    exact ⟨u, rfl, by simp⟩
theorem wk_enumT {a : Addr} {vs : List V} {l : List T} (q : TupF K H1 a vs) (r : Reps K H1 l vs) : WkT K Tb H1 (ItN K false a) (l.zipIdx.map fun p => T.tup [.int (p.2 : Nat), p.1]) (fun _ => True) where
  go := fun i H' μ hi k _ _ => by
    have hv : i < vs.length := by rw [← r.length]; simpa using hi
    exact ⟨vs, vs[i], (k.tup _ _ q).seq, by simp [hv]⟩
  stop := fun H' μ k _ _ => ⟨vs, (k.tup _ _ q).seq, by rw [List.length_map, List.length_zipIdx, r.length]⟩
  yld := fun i H' μ x H'' t e k rh _ y => by
    obtain ⟨u, e1, rfl⟩ := enum_get e
    obtain ⟨p, z, ob, rfl, hn, hd, rfl, f⟩ := y
    have r1 := (r.mono k).at e1 (f _ (k.tup _ _ q).seq)
    obtain ⟨k2, r2⟩ := pair_rep (K := K) hn hd (s := .int (i : Nat)) (x := .int (i : Nat)) rfl r1
    exact ⟨k2, r2, rh.newT hn⟩
theorem wk_enumL {a : Addr} {l : List T} : WkT K Tb H1 (ItN K true a) (l.zipIdx.map fun p => T.tup [.int (p.2 : Nat), p.1]) (fun μ => μ a = some (.lst l)) where
  go := fun i H' μ hi k rh e => by
    obtain ⟨vs, e1, r⟩ := rh a _ e
    have hv : i < vs.length := by rw [← r.length]; simpa using hi
    exact ⟨vs, vs[i], SqL.of e1, by simp [hv]⟩
  stop := fun H' μ k rh e => by
    obtain ⟨vs, e1, r⟩ := rh a _ e
    exact ⟨vs, SqL.of e1, by rw [List.length_map, List.length_zipIdx, r.length]⟩
  yld := fun i H' μ x H'' t e k rh st y => by
    obtain ⟨vs, e0, r⟩ := rh a _ st
    obtain ⟨u, e1, rfl⟩ := enum_get e
    obtain ⟨p, z, ob, rfl, hn, hd, rfl, f⟩ := y
    have r1 := r.at e1 (f _ (SqL.of e0))
    obtain ⟨k2, r2⟩ := pair_rep (K := K) hn hd (s := .int (i : Nat)) (x := .int (i : Nat)) rfl r1
    exact ⟨k2, r2, rh.newT hn⟩
end
section
variable {F : Type} {Φ : F → Con} {X : Cx} {pos p1 p2 p3 tpos : Pos} {pe pa pb tg : Expr} {a b e : E F}
def JI (Tb : List NdefX.NTab) (X : Cx) (Φ : F → Con) (tg pe : Expr) (sc : Sc F) : Prop := PI X tg pe (LI X.K Tb (wSc Φ sc))
/-- a value that may be walked: by its kind -/
theorem pi_any {te : TE} (he : PE X pe te) : PI X tg pe (fun σ H R => te σ H fun x H1 => (∃ a, x = .ref a ∧ (∃ xs, SqL X.K H1 a xs) ∧ R (Itl X.K a) H1) ∨ (∃ a, x = .ref a ∧ (∃ xs, SqT X.K H1 a xs) ∧ R (Itt X.K a) H1) ∨ (∃ z, x = .str z ∧ R (Its z) H1)) := by
  refine ⟨fun pins s σ H R I h => ?_⟩
  refine thn (he.run pins s σ H _ I h) fun v s1 ⟨x, H1, I1, r1, q1⟩ => ?_
  rcases q1 with ⟨a, ex, ⟨xs, hq⟩, q⟩ | ⟨a, ex, ⟨xs, hq⟩, q⟩ | ⟨z, ex, q⟩
  · subst ex
    cases r1
    obtain ⟨its, rv, pl, _⟩ := I1.list hq
    exact wpAny_pyIter_list pl.isList (pi_one (tk := s1.toks) I1 _ (turn_list a _) ⟨_, Heap.get?_push_size _ rfl, rfl, rfl⟩ q)
  · subst ex
    cases r1
    obtain ⟨its, rv, pl, _⟩ := I1.tuple hq
    exact wpAny_pyIter_tuple (items := its.toArray) pl (pi_one (tk := s1.toks) I1 _ (turn_tuple a _) ⟨_, Heap.get?_push_size _ rfl, rfl, rfl⟩ q)
  · subst ex
    obtain ⟨t, rfl⟩ := r1
    by_cases ha : z.cps.all (· < 128) = true
    · exact wpAny_pyIter_ascii ha (pi_one (tk := s1.toks) I1 _ (turn_str _ z t "str_ascii_iterator" (.inl rfl)) ⟨_, Heap.get?_push_size _ rfl, rfl, rfl⟩ q)
    · exact wpAny_pyIter_wide (Bool.eq_false_iff.mpr ha) (pi_one (tk := s1.toks) I1 _ (turn_str _ z t "str_iterator" (.inr rfl)) ⟨_, Heap.get?_push_size _ rfl, rfl, rfl⟩ q)
theorem ji_val (he : JE Tb X Φ pe e) : JI Tb X Φ tg pe (.val e) := by
  refine imp_PI (pi_any he) fun σ H R ⟨τ, μ, rs, rh, h⟩ => ?_
  refine LE.bind (wE_mono e) rs rh h fun t μ1 v H1 h1 k1 r1 rs1 rh1 => ?_
  cases t <;> simp only at h1
  · obtain ⟨rfl, o, _⟩ := r1
    exact .inr (.inr ⟨_, rfl, h1 H1 k1 rh1 _ (wk_str o)⟩)
  · obtain ⟨p, vs, rfl, sq, r⟩ := r1
    exact .inr (.inl ⟨p, rfl, ⟨vs, sq.seq⟩, h1 H1 k1 rh1 _ (wk_tup sq r)⟩)
  · rename_i d
    obtain rfl : v = .ref d := r1
    obtain ⟨l, e1, q⟩ := h1
    obtain ⟨vs, e2, r⟩ := rh1 d _ e1
    exact .inl ⟨d, rfl, ⟨vs, SqL.of e2⟩, q H1 k1 rh1 _ wk_lst⟩
  · obtain ⟨p, vs, rfl, sq, r⟩ := r1
    exact .inl ⟨p, rfl, ⟨vs, sq.seq⟩, h1 H1 k1 rh1 _ (wk_rol sq r)⟩
end
end TV

/-! Ranges, enumerate; comprehensions; calls. -/
namespace TV
open PySem PySem.Spec PyProof.Rows L2

section
variable {F : Type} {Φ : F → Con} {X : Cx} {pos p1 p2 p3 tpos : Pos} {pe pa pb tg : Expr} {a b e : E F}
theorem ji_rng1 (hg : Gl X "range") (hm : X.mg "range" = none) (ha : JE Tb X Φ pa a) (hs0 : starEach [pa] X.env = (false, eval pa X.env) :: starEach [] X.env := by rfl) (hs : starEach [pa] X.env = [(false, eval pa X.env)] := by rfl) : JI Tb X Φ tg (.Call (.Name "range" p1) [pa] [] pos) (.rng1 a) := by
  refine imp_PI (pi_range1 hg hm (pa_cons ha pa_nil hs0) hs) fun σ H R ⟨τ, μ, rs, rh, h⟩ => ?_
  refine LE.bind (wE_mono a) rs rh h fun t μ1 v H1 h1 k1 r1 rs1 rh1 => ?_
  obtain ⟨j, rfl, lj, q⟩ := h1
  obtain rfl : v = .int j := r1
  refine ⟨j, rfl, lj.1, lj.2, ?_⟩
  have w := wk_rng (Tb := Tb) (K := X.K) (H1 := H1) (lo := 0) (n := j.toNat)
  refine q H1 k1 rh1 _ ?_
  simpa using w
theorem ji_rng2 (hg : Gl X "range") (hm : X.mg "range" = none) (ha : JE Tb X Φ pa a) (hb : JE Tb X Φ pb b) (hs0 : starEach [pa, pb] X.env = (false, eval pa X.env) :: starEach [pb] X.env := by rfl) (hs1 : starEach [pb] X.env = (false, eval pb X.env) :: starEach [] X.env := by rfl)
    (hs : starEach [pa, pb] X.env = [(false, eval pa X.env), (false, eval pb X.env)] := by rfl) (hs2 : starEach [pb] X.env = [(false, eval pb X.env)] := by rfl) : JI Tb X Φ tg (.Call (.Name "range" p1) [pa, pb] [] pos) (.rng2 a b) := by
  refine imp_PI (pi_range2 hg hm (pa_cons ha (pa_cons hb pa_nil hs1) hs0) hs hs2) fun σ H R ⟨τ, μ, rs, rh, h⟩ => ?_
  refine LE.bind (wE_mono a) rs rh h fun t μ1 v H1 h1 k1 r1 rs1 rh1 => ?_
  refine LE.bind (wE_mono b) rs1 rh1 h1 fun u μ2 w H2 h2 k2 r2 rs2 rh2 => ?_
  obtain ⟨i, j, rfl, rfl, li, lj, q⟩ := h2
  obtain rfl : v = .int i := r1
  obtain rfl : w = .int j := r2
  exact ⟨i, j, rfl, ⟨li.1, li.2, lj.1, lj.2⟩, q H2 (k1.trans k2) rh2 _ wk_rng⟩
theorem ji_enum {elts : List Expr} {kk : Nat} (hg : Gl X "enumerate") (hm : X.mg "enumerate" = none) (ha : JE Tb X Φ pa a) (hs0 : starEach [pa] X.env = (false, eval pa X.env) :: starEach [] X.env := by rfl) (hs : starEach [pa] X.env = [(false, eval pa X.env)] := by rfl) :
    JI Tb X Φ (.Tuple elts kk tpos) (.Call (.Name "enumerate" p1) [pa] [] pos) (.enum a) := by
  refine imp_PI (pi_num hg hm (pa_cons ha pa_nil hs0) hs) fun σ H R ⟨τ, μ, rs, rh, h⟩ => ?_
  refine LE.bind (wE_mono a) rs rh h fun t μ1 v H1 h1 k1 r1 rs1 rh1 => ?_
  cases t <;> simp only at h1
  · obtain ⟨p, vs, rfl, sq, r⟩ := r1
    exact ⟨p, vs, false, rfl, sq.seq, h1 H1 k1 rh1 _ (wk_enumT sq r)⟩
  · rename_i d
    obtain rfl : v = .ref d := r1
    obtain ⟨l, e1, q⟩ := h1
    obtain ⟨vs, e2, r⟩ := rh1 d _ e1
    exact ⟨d, vs, true, rfl, SqL.of e2, q H1 k1 rh1 _ wk_enumL⟩

/-! ### comprehensions -/
def JC (Tb : List NdefX.NTab) (X : Cx) (Φ : F → Con) (ifs : List Expr) (c : Eo F) : Prop := PTs X ifs (LT X.K Tb (wEc Φ c))
theorem imp_PTs {X : Cx} {e : List Expr} {t t' : TT} (h : PTs X e t) (hi : ∀ σ H Q, t' σ H Q → t σ H Q) : PTs X e t' := ⟨fun pins s σ H Q I q => h.run pins s σ H Q I (hi _ _ _ q)⟩
theorem jc_none : JC Tb X Φ [] .none := by
  refine imp_PTs pts_nil fun σ H Q ⟨τ, μ, rs, rh, h⟩ => ?_
  unfold wEc at h
  exact h H TK.refl rh
theorem jc_some (h : JT Tb X Φ pe e) : JC Tb X Φ [pe] (.some e) := by
  refine imp_PTs (pts_one h) fun σ H Q ⟨τ, μ, rs, rh, h⟩ => ?_
  unfold wEc at h
  exact ⟨τ, μ, rs, rh, h⟩

theorem Reps.snoc {K : PySem.W.Frag} {H : Hp} {ts : List T} {vs : List V} {t : T} {v : V} (h : Reps K H ts vs) (r : Rep K H t v) : Reps K H (ts ++ [t]) (vs ++ [v]) := h.append (Reps.cons r Reps.nil)

theorem drop_cons {α : Type} {l : List α} {i : Nat} {t : α} (h : l[i]? = some t) : l.drop i = t :: l.drop (i + 1) := by
  obtain ⟨hi, rfl⟩ := List.getElem?_eq_some_iff.mp h
  exact List.drop_eq_getElem_cons hi

theorem lc_run {K : PySem.W.Frag} {elt : E F} {g : Tg} {sc : Sc F} {c : Eo F} {own : List Nat} {σ : L2.St} {H : Hp} {Q : VK} (hns : ∀ i ∈ g.ns, i ∈ own) (h : LE K Tb (wE Φ (.lc elt g sc c own)) σ H Q) :
    tLc (LI K Tb (wSc Φ sc)) (LG K g) (LT K Tb (wEc Φ c)) (LE K Tb (wE Φ elt)) own σ H Q := by
  obtain ⟨τ, μ, rs, rh, h⟩ := h
  unfold wE at h
  refine ⟨τ, μ, rs, rh, wSc_mono sc _ _ _ _ (fun its stays μ1 h1 => ?_) h⟩
  intro H1 k1 rh1 J wk D hD
  have nD := rh1.free hD
  have h2 := h1 D nD
  have kD : TK K H1 (upd H1 D (.lst [])) := TK.new hD
  refine ⟨fun i m H' => m = its.length - i ∧ i ≤ its.length ∧ TK K H1 H' ∧ ∃ μ' acc, RepH K Tb H' μ' ∧ lcL g (wEc Φ c) (wE Φ elt) stays D (wipeT τ own) (QE K Tb H Q (.ref D)) (its.drop i) acc μ',
    ⟨its.length, by simp, Nat.zero_le _, kD, _, [], RepH.new (mo := .lst []) rh1 hD ⟨[], upd_same, Reps.nil⟩, by simpa using h2⟩, ?_⟩
  rintro i m H' ⟨rfl, hi, kk, μ', acc, rh', hl⟩
  by_cases hlt : i < its.length
  · obtain ⟨t, ht⟩ : ∃ t, its[i]? = some t := ⟨its[i], by simp [hlt]⟩
    rw [drop_cons ht] at hl
    unfold lcL at hl
    refine .inr ⟨wk.go i H' μ' hlt kk rh' hl.1, fun H2 => i + 1 ≤ its.length ∧ TK K H1 H2 ∧ ∃ μ' acc, RepH K Tb H2 μ' ∧ lcL g (wEc Φ c) (wE Φ elt) stays D (wipeT τ own) (QE K Tb H Q (.ref D)) (its.drop (i + 1)) acc μ',
      fun H2 n2 => ⟨its.length - (i + 1), by omega, rfl, n2.1, n2.2.1, n2.2.2⟩, fun x H2 y => ?_⟩
    obtain ⟨k2, r2, rh2⟩ := wk.yld i H' μ' x H2 t ht kk rh' hl.1 y
    have rsB : RepS K H2 (wipeT τ own) (L2.wipe σ own) := (rs.wipe own).mono ((k1.trans kk).trans k2)
    refine ⟨t, _, r2, rsB, wTg_mono (fun τ' q => ?_) _ _ _ hl.2⟩
    intro σ2 rs2 sm
    refine ⟨?_, ?_⟩
    · rw [sm.wiped hns, wipe_wipe]
    refine LT.bind (wEc_mono c) rs2 rh2 q fun b μ3 H3 h3 k3 rs3 rh3 => ?_
    cases b with
    | false =>
      rw [if_neg Bool.false_ne_true] at h3 ⊢
      exact ⟨hlt, (kk.trans k2).trans k3, μ3, acc, rh3, h3.2⟩
    | true =>
      rw [if_pos rfl] at h3 ⊢
      refine LE.bind (wE_mono elt) rs3 rh3 h3 fun u μ4 v H4 h4 k4 r4 rs4 rh4 => ?_
      obtain ⟨e1, hz, hl4⟩ := h4
      obtain ⟨vs, e2, r5⟩ := rh4 D _ e1
      refine ⟨vs, e2, by rw [← r5.length]; exact hz, hlt, ((kk.trans k2).trans k3).trans (k4.trans (TK.write e2 True.intro)), _, acc ++ [u], RepH.write (mo := .lst (acc ++ [u])) rh4 e2 True.intro ⟨vs ++ [v], upd_same, ?_⟩, hl4⟩
      exact (r5.snoc r4).mono (TK.write e2 True.intro)
  · have e : i = its.length := by omega
    subst e
    rw [List.drop_length] at hl
    unfold lcL at hl
    exact .inl ⟨wk.stop H' μ' kk rh' hl.1, QE.here (QE.mono (k1.trans kk) (t := .ref D) hl.2) rfl rh'⟩
def ownC (own : List (Str × Nat)) : List Nat := own.map (·.2)
/-- all of the target's slots are the block's own -/
def tgC (g : Tg) (own : List (Str × Nat)) : Bool := g.ns.all fun i => (own.map (·.2)).contains i
theorem tgC_ok {g : Tg} {own : List (Str × Nat)} (h : tgC g own = true) : ∀ i ∈ g.ns, i ∈ own.map (·.2) := fun i hi => by
  have := List.all_eq_true.mp h i hi
  simpa using this

theorem j_lc {elt iter : Expr} {ifs : List Expr} {scope : Scope} (own : List (Str × Nat)) {ee : E F} {g : Tg} {sc : Sc F} {c : Eo F} (gd : Gd X) (hi : JI Tb X Φ tg iter sc) (ok : blkC X.N X.env.scope scope own = true) (hns : tgC g own = true)
    (hg : ∀ (s : Shared) (H : Hp) (C : Addr) (cl : List (Str × Addr)) (fp : List Addr), JG (X.blk s H scope (compEnvC scope cl C X.env) fp) tg g) (ht : ∀ (s : Shared) (H : Hp) (C : Addr) (cl : List (Str × Addr)) (fp : List Addr), JC Tb (X.blk s H scope (compEnvC scope cl C X.env) fp) Φ ifs c)
    (he : ∀ (s : Shared) (H : Hp) (C : Addr) (cl : List (Str × Addr)) (fp : List Addr), JE Tb (X.blk s H scope (compEnvC scope cl C X.env) fp) Φ elt ee) (hs : ∀ x, foldedSetIterable iter X.env x = pure x := by intro _; rfl) :
    JE Tb X Φ (.ListComp elt [⟨tg, iter, ifs, 0⟩] scope pos) (.lc ee g sc c (own.map (·.2))) :=
  imp_PE (pe_lc (wi := LI X.K Tb (wSc Φ sc)) (g := LG X.K g) (tt := LT X.K Tb (wEc Φ c)) (te := LE X.K Tb (wE Φ ee)) gd.calm gd.nd hi (blkOk_by ok) hg ht he hs) fun σ H Q h => lc_run (tgC_ok hns) h

theorem dc_run {K : PySem.W.Frag} {ek ev : E F} {g : Tg} {sc : Sc F} {c : Eo F} {own : List Nat} {σ : L2.St} {H : Hp} {Q : VK} (hns : ∀ i ∈ g.ns, i ∈ own) (h : LE K Tb (wE Φ (.dc ek ev g sc c own)) σ H Q) :
    tDc (LI K Tb (wSc Φ sc)) (LG K g) (LT K Tb (wEc Φ c)) (LE K Tb (wE Φ ek)) (LE K Tb (wE Φ ev)) own σ H Q := by
  obtain ⟨τ, μ, rs, rh, h⟩ := h
  unfold wE at h
  refine ⟨τ, μ, rs, rh, wSc_mono sc _ _ _ _ (fun its stays μ1 h1 => ?_) h⟩
  intro H1 k1 rh1 J wk D hD
  have nD := rh1.free hD
  have h2 := h1 D nD
  have kD : TK K H1 (upd H1 D (.dK [])) := TK.new hD
  refine ⟨fun i m H' => m = its.length - i ∧ i ≤ its.length ∧ TK K H1 H' ∧ ∃ μ' acc, RepH K Tb H' μ' ∧ dcL g (wEc Φ c) (wE Φ ek) (wE Φ ev) stays D (wipeT τ own) (QE K Tb H Q (.ref D)) (its.drop i) acc μ',
    ⟨its.length, by simp, Nat.zero_le _, kD, _, [], RepH.new (mo := .dic []) rh1 hD ⟨[], upd_same, rfl, Reps.nil, List.nodup_nil⟩, by simpa using h2⟩, ?_⟩
  rintro i m H' ⟨rfl, hi, kk, μ', acc, rh', hl⟩
  by_cases hlt : i < its.length
  · obtain ⟨t, ht⟩ : ∃ t, its[i]? = some t := ⟨its[i], by simp [hlt]⟩
    rw [drop_cons ht] at hl
    unfold dcL at hl
    refine .inr ⟨wk.go i H' μ' hlt kk rh' hl.1, fun H2 => i + 1 ≤ its.length ∧ TK K H1 H2 ∧ ∃ μ' acc, RepH K Tb H2 μ' ∧ dcL g (wEc Φ c) (wE Φ ek) (wE Φ ev) stays D (wipeT τ own) (QE K Tb H Q (.ref D)) (its.drop (i + 1)) acc μ',
      fun H2 n2 => ⟨its.length - (i + 1), by omega, rfl, n2.1, n2.2.1, n2.2.2⟩, fun x H2 y => ?_⟩
    obtain ⟨k2, r2, rh2⟩ := wk.yld i H' μ' x H2 t ht kk rh' hl.1 y
    have rsB : RepS K H2 (wipeT τ own) (L2.wipe σ own) := (rs.wipe own).mono ((k1.trans kk).trans k2)
    refine ⟨t, _, r2, rsB, wTg_mono (fun τ' q => ?_) _ _ _ hl.2⟩
    intro σ2 rs2 sm
    refine ⟨?_, ?_⟩
    · rw [sm.wiped hns, wipe_wipe]
    refine LT.bind (wEc_mono c) rs2 rh2 q fun b μ3 H3 h3 k3 rs3 rh3 => ?_
    cases b with
    | false =>
      rw [if_neg Bool.false_ne_true] at h3 ⊢
      exact ⟨hlt, (kk.trans k2).trans k3, μ3, acc, rh3, h3.2⟩
    | true =>
      rw [if_pos rfl] at h3 ⊢
      refine LE.bind (wE_mono ek) rs3 rh3 h3 fun kt μ4 vk H4 h4 k4 r4 rs4 rh4 => ?_
      refine LE.bind (wE_mono ev) rs4 rh4 h4 fun u μ5 v H5 h5 k5 r5 rs5 rh5 => ?_
      obtain ⟨key, ek1, e1, hz, hl5⟩ := h5
      obtain ⟨ks, e2, em, er, nd⟩ := rh5 D _ e1
      have rk := keyOf_rep r4 ek1
      have hlen : ks.length = acc.length := kmap_length em
      have kw : TK K H5 (upd H5 D (.dK (putK ks key v))) := TK.write e2 True.intro
      obtain ⟨p1, p2⟩ := RepD.put r5 ⟨em, er⟩ nd
      refine ⟨ks, key, rk, e2, by have : sizeLine = 16777216 := sizeLine_eq; omega, hlt, ((kk.trans k2).trans k3).trans ((k4.trans k5).trans kw), _, putT acc key u, RepH.write (mo := .dic (putT acc key u)) rh5 e2 True.intro ⟨putK ks key v, upd_same, p1, p2.mono kw, putK_keys nd⟩, hl5⟩
  · have e : i = its.length := by omega
    subst e
    rw [List.drop_length] at hl
    unfold dcL at hl
    exact .inl ⟨wk.stop H' μ' kk rh' hl.1, QE.here (QE.mono (k1.trans kk) (t := .ref D) hl.2) rfl rh'⟩
theorem j_dc {pk pv iter : Expr} {ifs : List Expr} {scope : Scope} (own : List (Str × Nat)) {ek ev : E F} {g : Tg} {sc : Sc F} {c : Eo F} (gd : Gd X) (hi : JI Tb X Φ tg iter sc) (ok : blkC X.N X.env.scope scope own = true) (hns : tgC g own = true)
    (hg : ∀ (s : Shared) (H : Hp) (C : Addr) (cl : List (Str × Addr)) (fp : List Addr), JG (X.blk s H scope (compEnvC scope cl C X.env) fp) tg g) (ht : ∀ (s : Shared) (H : Hp) (C : Addr) (cl : List (Str × Addr)) (fp : List Addr), JC Tb (X.blk s H scope (compEnvC scope cl C X.env) fp) Φ ifs c)
    (hk : ∀ (s : Shared) (H : Hp) (C : Addr) (cl : List (Str × Addr)) (fp : List Addr), JE Tb (X.blk s H scope (compEnvC scope cl C X.env) fp) Φ pk ek)
    (he : ∀ (s : Shared) (H : Hp) (C : Addr) (cl : List (Str × Addr)) (fp : List Addr), JE Tb (X.blk s H scope (compEnvC scope cl C X.env) fp) Φ pv ev) (hs : ∀ x, foldedSetIterable iter X.env x = pure x := by intro _; rfl) :
    JE Tb X Φ (.DictComp pk pv [⟨tg, iter, ifs, 0⟩] scope pos) (.dc ek ev g sc c (own.map (·.2))) :=
  imp_PE (pe_dc (wi := LI X.K Tb (wSc Φ sc)) (g := LG X.K g) (tt := LT X.K Tb (wEc Φ c)) (tk := LE X.K Tb (wE Φ ek)) (tv := LE X.K Tb (wE Φ ev)) gd.calm gd.nd hi (blkOk_by ok) hg ht hk he hs) fun σ H Q h => dc_run (tgC_ok hns) h

/-! ### isinstance -/
theorem j_isi (ty : String) {tn : Str} (hg : Gl X "isinstance") (hm : X.mg "isinstance" = none) (hg2 : Gl X tn) (hm2 : X.mg tn = none) (hb2 : bootBuiltins tn = some (.type ty)) (hty : ty ∈ ["int", "bool", "str", "tuple", "list", "dict"])
    (ha : JE Tb X Φ pa a) (hn2 : tn ≠ "__name__" := by decide) (hd2 : (tn == ("__debug__" : Str)) = false := by decide)
    (hs : starEach [pa, .Name tn p2] X.env = (false, eval pa X.env) :: starEach [.Name tn p2] X.env := by rfl) (hpl : (backTo pos (starEach [.Name tn p2] X.env)).any (·.1) = false := by rfl) :
    JE Tb X Φ (.Call (.Name "isinstance" p1) [pa, .Name tn p2] [] pos) (.isi a ty) := by
  refine imp_PE (pe_callB call_isi hg hm PyProof.Rows.boot_isinstance (pa_cons ha (pa_cons (pe_bltn (v := .ty ty) hg2 hm2 hb2 rfl hn2 hd2) pa_nil) hs) (by decide) (by decide) hs hpl) fun σ H Q ⟨τ, μ, rs, rh, h⟩ => ?_
  refine LE.bind (wE_mono a) rs rh h fun t μ1 v H1 h1 k1 r1 rs1 rh1 => ?_
  obtain ⟨b, e, q⟩ := h1
  obtain ⟨tt, t1, t2⟩ := isi_ok rh1 r1 e hty
  exact ⟨v, .ty ty, .type tt, .type ty, b, rfl, .ty ty, t1, kit_ty t2, QE.here (QE.mono k1 q) rfl rh1⟩

/-! ### calls of defs -/
/-- a contract as a promise of the hand layer -/
def spOf (K : PySem.W.Frag) (Tb : List NdefX.NTab) (n : Nat) (c : Con) : Sp := fun vs H Q _ => ∃ ts μ, ts.length = n ∧ Reps K H ts vs ∧ RepH K Tb H μ ∧ c.pre ts μ ∧ ∀ t μ', c.post ts μ t μ' → QE K Tb H Q t μ'
/-- a def that may be called -/
structure Kn (P : Program) (w : World) (K : PySem.W.Frag) (mg : Str → Option Value) (base : Heap) (Tb : List NdefX.NTab) (k : Nat) (x : Str) (n : Nat) (c : Con) : Prop where
  ex : ∃ (f : Addr) (fd : FuncData) (ps : List Str), FnOk P w K mg base CX0 k f fd ps (spOf K Tb n c) ∧ mg x = some (.ref f) ∧ PySem.W.keepIn K (.ref f) = true ∧ Binds K fd ps []
theorem call_run {K : PySem.W.Frag} {f : F} {n : Nat} {es : Es F} {σ : L2.St} {H : Hp} {Q : VK} (hl : ∀ ts μ, (Φ f).pre ts μ → ts.length = n) (h : LE K Tb (wE Φ (.call f es)) σ H Q) : tCall (spOf K Tb n (Φ f)) [] (fun _ _ _ => False) (LA K Tb (wEs Φ es)) σ H Q := by
  obtain ⟨τ, μ, rs, rh, h⟩ := h
  refine LA.bind (wEs_mono es) rs rh h fun ts μ1 vs H1 h1 k1 r1 rs1 rh1 => ?_
  rw [List.append_nil]
  exact ⟨ts, μ1, hl _ _ h1.1, r1, rh1, h1.1, fun t μ' p => QE.mono k1 (h1.2 t μ' p)⟩
theorem j_call {f : F} {k n : Nat} {x : Str} {pes : List Expr} {es : Es F} (fn : Kn X.prog X.w X.K X.mg X.base Tb k x n (Φ f)) (hl : ∀ ts μ, (Φ f).pre ts μ → ts.length = n) (hr : Room k X.A) (hg : Gl X x) (ha : JA Tb X Φ (pe :: pes) es)
    (hdb : (x == ("__debug__" : Str)) = false := by decide) (he : starEach (pe :: pes) X.env = (false, eval pe X.env) :: starEach pes X.env := by rfl) (hpl : (backTo pos (starEach pes X.env)).any (·.1) = false := by rfl) :
    JE Tb X Φ (.Call (.Name x p1) (pe :: pes) [] pos) (.call f es) := by
  obtain ⟨fa, fd, ps, F, hm, hk, hb⟩ := fn.ex
  exact imp_PE (pe_call F hr hg hm hk hb .nil pass0 ha hdb he hpl) fun σ H Q h => call_run hl h
end
end TV

/-! Statements over trees. -/
namespace TV
open PySem PySem.Spec PyProof.Rows L2

/-- what is wanted behind, read over trees -/
def liftD (K : PySem.W.Frag) (Tb : List NdefX.NTab) (H : Hp) (D : Ends) : En where
  nx := fun τ' μ' => ∀ σ' H', TK K H H' → RepS K H' τ' σ' → RepH K Tb H' μ' → D.nx σ' H'
  rt := QE K Tb H D.rt
  bk := fun τ' μ' => ∀ σ' H', TK K H H' → RepS K H' τ' σ' → RepH K Tb H' μ' → D.bk σ' H'
  ct := fun τ' μ' => ∀ σ' H', TK K H H' → RepS K H' τ' σ' → RepH K Tb H' μ' → D.ct σ' H'
def LS (K : PySem.W.Frag) (Tb : List NdefX.NTab) (m : MS) : TS := fun D σ H => ∃ τ μ, RepS K H τ σ ∧ RepH K Tb H μ ∧ m (liftD K Tb H D) τ μ
theorem liftD_mono {K : PySem.W.Frag} {H H' : Hp} (k : TK K H H') (D : Ends) : EnLe (liftD K Tb H D) (liftD K Tb H' D) where
  nx := fun τ μ q σ' H1 k1 => q σ' H1 (k.trans k1)
  rt := fun t μ q => QE.mono k q
  bk := fun τ μ q σ' H1 k1 => q σ' H1 (k.trans k1)
  ct := fun τ μ q σ' H1 k1 => q σ' H1 (k.trans k1)

section
variable {F : Type} {Φ : F → Con} {X : Cx}
def JS (Tb : List NdefX.NTab) (X : Cx) (Φ : F → Con) (ps : Stmt) (s : S F) : Prop := PS X ps (LS X.K Tb (wS Φ s))
def JSs (Tb : List NdefX.NTab) (X : Cx) (Φ : F → Con) (pss : List Stmt) (ss : Ss F) : Prop := PSs X pss (LS X.K Tb (wSs Φ ss))
variable {pe pa pb pc po pi : Expr} {pes : List Expr} {e a b c o : E F} {es : Es F} {pos p1 p2 p3 tpos : Pos} {ps : Stmt} {pss pss' : List Stmt} {s : S F} {ss ss' : Ss F}

theorem jss_nil : JSs Tb X Φ [] .nil := imp_PSs pss_nil fun D σ H ⟨τ, μ, rs, rh, h⟩ => by
  unfold wSs at h
  exact h σ H TK.refl rs rh
theorem ls_seq {K : PySem.W.Frag} {D : Ends} {σ : L2.St} {H : Hp} (h : LS K Tb (wSs Φ (.cons s ss)) D σ H) : tSeq (LS K Tb (wS Φ s)) (LS K Tb (wSs Φ ss)) D σ H := by
  obtain ⟨τ, μ, rs, rh, h⟩ := h
  unfold wSs at h
  refine ⟨τ, μ, rs, rh, wS_mono s _ _ _ _ ?_ h⟩
  refine ⟨fun τ' μ' q σ' H' k rs' rh' => ?_, fun t μ' q => q, fun τ' μ' q => q, fun τ' μ' q => q⟩
  exact ⟨τ', μ', rs', rh', wSs_mono ss _ _ _ _ (liftD_mono k D) q⟩
theorem jss_cons (h1 : JS Tb X Φ ps s) (h2 : JSs Tb X Φ pss ss) : JSs Tb X Φ (ps :: pss) (.cons s ss) := imp_PSs (pss_cons h1 h2) fun D σ H h => ls_seq h

theorem js_pass : JS Tb X Φ (.Pass pos) .pass := imp_PS ps_pass fun D σ H ⟨τ, μ, rs, rh, h⟩ => by
  unfold wS at h
  exact h σ H TK.refl rs rh
theorem js_brk : JS Tb X Φ (.Break pos) .brk := imp_PS ps_break fun D σ H ⟨τ, μ, rs, rh, h⟩ => by
  unfold wS at h
  exact h σ H TK.refl rs rh
theorem js_cont : JS Tb X Φ (.Continue pos) .cont := imp_PS ps_continue fun D σ H ⟨τ, μ, rs, rh, h⟩ => by
  unfold wS at h
  exact h σ H TK.refl rs rh
theorem js_doc {x j p} : JS Tb X Φ (.Expr (.Constant (.str x) j p) pos) .pass := imp_PS ps_doc fun D σ H ⟨τ, μ, rs, rh, h⟩ => by
  unfold wS at h
  exact h σ H TK.refl rs rh
theorem js_ret (he : JE Tb X Φ pe e) : JS Tb X Φ (.Return (some pe) pos) (.ret e) := imp_PS (ps_ret he) fun D σ H ⟨τ, μ, rs, rh, h⟩ => by
  unfold wS at h
  exact ⟨τ, μ, rs, rh, h⟩
theorem js_retN : JS Tb X Φ (.Return none pos) .retN := imp_PS ps_retN fun D σ H ⟨τ, μ, rs, rh, h⟩ => by
  unfold wS at h
  exact QE.here h rfl rh
theorem js_ex (he : JE Tb X Φ pe e) (hs : swapsWith pe none pos.line X.env = pure false := by rfl) : JS Tb X Φ (.Expr pe pos) (.ex e) := imp_PS (ps_expr he hs) fun D σ H ⟨τ, μ, rs, rh, h⟩ => by
  unfold wS at h
  exact LE.bind (wE_mono e) rs rh h fun t μ1 v H1 h1 k1 r1 rs1 rh1 => h1 σ H1 k1 rs1 rh1
theorem ls_set {K : PySem.W.Frag} {i : Nat} {D : Ends} {σ : L2.St} {H : Hp} (h : LS K Tb (wS Φ (.set i e)) D σ H) : tAsg (LE K Tb (wE Φ e)) (gName i) D σ H := by
  obtain ⟨τ, μ, rs, rh, h⟩ := h
  unfold wS at h
  exact LE.bind (wE_mono e) rs rh h fun t μ1 v H1 h1 k1 r1 rs1 rh1 => h1 _ H1 k1 (rs1.set r1) rh1
theorem js_set (i : Nat) {x : Str} (g : Gd X) (he : JE Tb X Φ pe e) (hi : X.N[i]? = some x := by rfl) (hx : Loc X.env.scope x := by first | exact Or.inl rfl | exact Or.inr rfl) (hs : swapsWith pe (some (.Name x p1)) pos.line X.env = pure false := by rfl)
    (hf : X.fn x = true ∨ X.env.scope.names.lookup x = some .local := by first | exact .inl rfl | exact .inr rfl | assumption) : JS Tb X Φ (.Assign [.Name x p1] pe pos) (.set i e) :=
  imp_PS (ps_set g.nd hi hx he hs hf) fun D σ H h => ls_set h
/-- name = [..] on one line, the name a local -/
theorem js_setLc (i : Nat) {y : Str} {elt tg iter : Expr} {ifs : List Expr} {scope : Scope} (own : List (Str × Nat)) {ee : E F} {tr : Tg} {sc : Sc F} {c : Eo F} (gd : Gd X) (hi : JI Tb X Φ tg iter sc) (ok : blkC X.N X.env.scope scope own = true) (hns : tgC tr own = true)
    (hg : ∀ (s : Shared) (H : Hp) (C : Addr) (cl : List (Str × Addr)) (fp : List Addr), JG (X.blk s H scope (compEnvC scope cl C X.env) fp) tg tr) (ht : ∀ (s : Shared) (H : Hp) (C : Addr) (cl : List (Str × Addr)) (fp : List Addr), JC Tb (X.blk s H scope (compEnvC scope cl C X.env) fp) Φ ifs c)
    (he : ∀ (s : Shared) (H : Hp) (C : Addr) (cl : List (Str × Addr)) (fp : List Addr), JE Tb (X.blk s H scope (compEnvC scope cl C X.env) fp) Φ elt ee)
    (hsw : swapsWith (.ListComp elt [⟨tg, iter, ifs, 0⟩] scope p2) (some (.Name y p1)) pos.line X.env = pure true := by rfl) (hy : X.N[i]? = some y := by rfl) (hyl : X.env.scope.names.lookup y = some .local := by rfl) (hs : ∀ x, foldedSetIterable iter X.env x = pure x := by intro _; rfl) :
    JS Tb X Φ (.Assign [.Name y p1] (.ListComp elt [⟨tg, iter, ifs, 0⟩] scope p2) pos) (.set i (.lc ee tr sc c (own.map (·.2)))) := by
  refine imp_PS (ps_setLc (wi := LI X.K Tb (wSc Φ sc)) (g := LG X.K tr) (tt := LT X.K Tb (wEc Φ c)) (te := LE X.K Tb (wE Φ ee)) gd.calm gd.nd hy hyl hsw hi (blkOk_by ok) hg ht he hs) fun D σ H h => ?_
  exact lc_run (Φ := Φ) (Q := fun x H1 => gName i x σ H1 D.nx) (tgC_ok hns) (ls_set h)
theorem pg_either {tg : Expr} {t t' : TG} (h : PG X tg t) (h' : PG X tg t') : PG X tg (fun v σ H Q => t v σ H Q ∨ t' v σ H Q) :=
  ⟨fun pins s σ H v u Q I r q => q.elim (fun q => h.run pins s σ H v u Q I r q) fun q => h'.run pins s σ H v u Q I r q⟩
theorem js_unp {gs : List Tg} {tgs : List Expr} {k : Nat} (g : Gd X) (he : JE Tb X Φ pe e) (hg : JGs X tgs gs) (hn : (assignEach tgs X.env).length = gs.length := by rfl) (hst : (assignEach tgs X.env).findIdx? (·.1) = none := by rfl)
    (hs : swapsWithSole [.Tuple tgs k p1] pe pos.line X.env = pure false := by rfl) (hw : swappedStores [.Tuple tgs k p1] pe X.env = pure none := by rfl)
    (h1 : (assignEach [.Tuple tgs k p1] X.env).map (·.2) = [assign (.Tuple tgs k p1) X.env] := by rfl) : JS Tb X Φ (.Assign [.Tuple tgs k p1] pe pos) (.unp gs e) := by
  refine imp_PS (ps_asg he (pg_either (jg_tp g hg hn hst) (pg_unl g.calm hg hn hst)) hs hw h1) fun D σ H ⟨τ, μ, rs, rh, h⟩ => ?_
  unfold wS at h
  refine LE.bind (wE_mono e) rs rh h fun t μ1 v H1 h1 k1 r1 rs1 rh1 => ?_
  unfold wUn at h1
  cases t
  case ref a =>
    obtain ⟨l, e1, q⟩ := h1
    obtain rfl : v = .ref a := r1
    obtain ⟨vs, e2, r2⟩ := rh1 a _ e1
    exact .inr ⟨a, vs, rfl, SqL.of e2, by rw [← r2.length]; exact (wTgs_ex gs l τ q).1, l, τ, r2, rs1, wTgs_mono (fun τ' q σ' rs' _ => q σ' H1 k1 rs' rh1) _ _ _ q⟩
  all_goals exact .inl ⟨_, τ, r1, rs1, wTg_mono (fun τ' q σ' rs' _ => q σ' H1 k1 rs' rh1) _ _ _ h1⟩
theorem js_par2 (i j : Nat) {x y : Str} {a b : Expr} {kt k2 : Nat} {pt2 : Pos} (g : Gd X) (ha : JA Tb X Φ [a, b] es) (hi : X.N[i]? = some x := by rfl) (hj : X.N[j]? = some y := by rfl) (hij : i ≠ j := by decide)
    (hx : X.env.scope.names.lookup x = some .local := by rfl) (hy : X.env.scope.names.lookup y = some .local := by rfl)
    (hw : swappedStores [.Tuple [.Name x p1, .Name y p2] kt p3] (.Tuple [a, b] k2 pt2) X.env = pure (some [x, y]) := by rfl)
    (hs : swapsWithSole [.Tuple [.Name x p1, .Name y p2] kt p3] (.Tuple [a, b] k2 pt2) pos.line X.env = pure false := by rfl) :
    JS Tb X Φ (.Assign [.Tuple [.Name x p1, .Name y p2] kt p3] (.Tuple [a, b] k2 pt2) pos) (.par [i, j] es) := by
  refine imp_PS (ps_par g.calm g.nd hi hj hij hx hy ha hw hs) fun D σ H ⟨τ, μ, rs, rh, h⟩ => ?_
  unfold wS at h
  refine LA.bind (wEs_mono es) rs rh h fun ts μ1 vs H1 h1 k1 r1 rs1 rh1 => ?_
  obtain ⟨hl, q⟩ := h1
  match ts, hl with
  | [t, u], _ =>
    obtain ⟨v, w, rfl, rv, rw'⟩ := Reps.two r1
    exact ⟨v, w, rfl, q _ H1 k1 ((rs1.set rv).set rw') rh1⟩
theorem Reps.three {K : PySem.W.Frag} {H : Hp} {t u z : T} {vs : List V} (h : Reps K H [t, u, z] vs) : ∃ v w y, vs = [v, w, y] ∧ Rep K H t v ∧ Rep K H u w ∧ Rep K H z y := by
  unfold Reps at h
  obtain ⟨v, r, rfl, h1, h2⟩ := h
  obtain ⟨w, y, rfl, h3, h4⟩ := Reps.two h2
  exact ⟨v, w, y, rfl, h1, h3, h4⟩
theorem js_par3 (i j l : Nat) {x y z : Str} {a b c : Expr} {kt k2 : Nat} {pz pt2 : Pos} (g : Gd X) (ha : JA Tb X Φ [a, b, c] es) (hi : X.N[i]? = some x := by rfl) (hj : X.N[j]? = some y := by rfl) (hl : X.N[l]? = some z := by rfl) (hij : i ≠ j := by decide) (hil : i ≠ l := by decide) (hjl : j ≠ l := by decide)
    (hx : X.env.scope.names.lookup x = some .local := by rfl) (hy : X.env.scope.names.lookup y = some .local := by rfl) (hz : X.env.scope.names.lookup z = some .local := by rfl)
    (hw : swappedStores [.Tuple [.Name x p1, .Name y p2, .Name z pz] kt p3] (.Tuple [a, b, c] k2 pt2) X.env = pure (some [x, y, z]) := by rfl)
    (hs : swapsWithSole [.Tuple [.Name x p1, .Name y p2, .Name z pz] kt p3] (.Tuple [a, b, c] k2 pt2) pos.line X.env = pure false := by rfl) :
    JS Tb X Φ (.Assign [.Tuple [.Name x p1, .Name y p2, .Name z pz] kt p3] (.Tuple [a, b, c] k2 pt2) pos) (.par [i, j, l] es) := by
  refine imp_PS (ps_par3 g.calm g.nd hi hj hl hij hil hjl hx hy hz ha hw hs) fun D σ H ⟨τ, μ, rs, rh, h⟩ => ?_
  unfold wS at h
  refine LA.bind (wEs_mono es) rs rh h fun ts μ1 vs H1 h1 k1 r1 rs1 rh1 => ?_
  obtain ⟨hl, q⟩ := h1
  match ts, hl with
  | [t, u, w], _ =>
    obtain ⟨v1, v2, v3, rfl, r1, r2, r3⟩ := Reps.three r1
    exact ⟨v1, v2, v3, rfl, q _ H1 k1 (((rs1.set r1).set r2).set r3) rh1⟩
/-- o[i] = v by values: a list or a dict -/
def rSetA : TSet := fun o i v H Q => rSetL o i v H Q ∨ ∃ a H', o = .ref a ∧ DPut H a i v H' ∧ Q H'
theorem set_any (g : Gd X) : PSet X rSetA := by
  intro pins s σ H o i v ov iv u Q I ro ri rv h
  rcases h with h | ⟨a, H', rfl, pt, q⟩
  · exact set_list pins s σ H o i v ov iv u Q I ro ri rv h
  · cases ro
    exact d_setItem g.u1 I pt ri rv fun s' I' => ⟨H', I', q⟩
theorem js_sub {i : E F} (g : Gd X) (he : JE Tb X Φ pe e) (ho : JE Tb X Φ po o) (hi : JE Tb X Φ pi i) (ha : ∀ v, assign (.Subscript po pi p1) X.env v = (do
      let ov ← holding [v] (eval po X.env)
      let iv ← holding [v, ov] (eval pi X.env)
      standAt p1
      holding [v, ov, iv] (setItem ov iv v)
      release [v, ov, iv] []) := by intro _; rfl) (hs : swapsWithSole [.Subscript po pi p1] pe pos.line X.env = pure false := by rfl) (hw : swappedStores [.Subscript po pi p1] pe X.env = pure none := by rfl)
    (h1 : (assignEach [.Subscript po pi p1] X.env).map (·.2) = [assign (.Subscript po pi p1) X.env] := by rfl) : JS Tb X Φ (.Assign [.Subscript po pi p1] pe pos) (.sub o i e) := by
  refine imp_PS (ps_asg he (pg_sub ho hi (set_any g) ha) hs hw h1) fun D σ H ⟨τ, μ, rs, rh, h⟩ => ?_
  unfold wS at h
  refine LE.bind (wE_mono e) rs rh h fun t μ1 v H1 h1 k1 r1 rs1 rh1 => ?_
  refine LE.bind (wE_mono o) rs1 rh1 h1 fun x μ2 w H2 h2 k2 r2 rs2 rh2 => ?_
  refine LE.bind (wE_mono i) rs2 rh2 h2 fun y μ3 z H3 h3 k3 r3 rs3 rh3 => ?_
  obtain ⟨a, rfl, h3⟩ := h3
  obtain rfl : w = .ref a := r2
  have k123 := (k1.trans k2).trans k3
  have rv := (r1.mono k2).mono k3
  rcases h3 with ⟨l, n, j, e1, rfl, e2, q⟩ | ⟨kvs, key, e1, ek, hz, q⟩
  · obtain rfl : z = .int n := r3
    obtain ⟨vs, e3, r⟩ := rh3 a _ e1
    have kw : TK X.K H3 (upd H3 a (.lst (vs.set j v))) := TK.write e3 True.intro
    refine .inl ⟨a, vs, n, j, rfl, rfl, e3, by rw [← r.length]; exact e2, ?_⟩
    exact q σ _ (k123.trans kw) (rs3.mono kw) (RepH.write (mo := .lst (l.set j t)) rh3 e3 True.intro ⟨_, upd_same, (Reps.set rv j r).mono kw⟩)
  · obtain ⟨ks, e3, em, er, nd⟩ := rh3 a _ e1
    have rk := keyOf_rep r3 ek
    subst rk
    have kw : TK X.K H3 (upd H3 a (.dK (putK ks key v))) := TK.write e3 True.intro
    obtain ⟨p1, p2⟩ := RepD.put rv ⟨em, er⟩ nd
    have hlen : ks.length = kvs.length := kmap_length em
    refine .inr ⟨a, _, rfl, DPut.k e3 (by have : sizeLine = 16777216 := sizeLine_eq; omega), ?_⟩
    exact q σ _ (k123.trans kw) (rs3.mono kw) (RepH.write (mo := .dic (putT kvs key t)) rh3 e3 True.intro ⟨_, upd_same, p1, p2.mono kw, putK_keys nd⟩)
theorem js_augAdd (i : Nat) {x : Str} (g : Gd X) (he : JE Tb X Φ pe e) (hi : X.N[i]? = some x := by rfl) (hx : Loc X.env.scope x := by first | exact Or.inl rfl | exact Or.inr rfl)
    (hf : X.fn x = true ∨ X.env.scope.names.lookup x = some .local := by first | exact .inl rfl | exact .inr rfl | assumption) : JS Tb X Φ (.AugAssign (.Name x p1) .Add pe pos) (.aug i .Add e) := by
  refine imp_PS (ps_aug g.nd hi hx he ip_add hf) fun D σ H ⟨τ, μ, rs, rh, h⟩ => ?_
  unfold wS at h
  obtain ⟨x, e1, h⟩ := h
  obtain ⟨v, e2, rv⟩ := rs.2 _ _ e1
  refine ⟨v, e2, LE.bind (wE_mono e) rs rh h fun t μ1 w H1 h1 k1 r1 rs1 rh1 => ?_⟩
  obtain ⟨n, m, rfl, rfl, q⟩ := h1
  obtain rfl : v = .int n := rv
  obtain rfl : w = .int m := r1
  exact ⟨n, m, rfl, rfl, q _ H1 k1 (RepS.set rs1 (t := .int (n + m)) rfl) rh1⟩
theorem js_augSub (i : Nat) {x : Str} (g : Gd X) (he : JE Tb X Φ pe e) (hi : X.N[i]? = some x := by rfl) (hx : Loc X.env.scope x := by first | exact Or.inl rfl | exact Or.inr rfl)
    (hf : X.fn x = true ∨ X.env.scope.names.lookup x = some .local := by first | exact .inl rfl | exact .inr rfl | assumption) : JS Tb X Φ (.AugAssign (.Name x p1) .Sub pe pos) (.aug i .Sub e) := by
  refine imp_PS (ps_aug g.nd hi hx he ip_sub hf) fun D σ H ⟨τ, μ, rs, rh, h⟩ => ?_
  unfold wS at h
  obtain ⟨x, e1, h⟩ := h
  obtain ⟨v, e2, rv⟩ := rs.2 _ _ e1
  refine ⟨v, e2, LE.bind (wE_mono e) rs rh h fun t μ1 w H1 h1 k1 r1 rs1 rh1 => ?_⟩
  obtain ⟨n, m, rfl, rfl, q⟩ := h1
  obtain rfl : v = .int n := rv
  obtain rfl : w = .int m := r1
  exact ⟨n, m, rfl, rfl, q _ H1 k1 (RepS.set rs1 (t := .int (n - m)) rfl) rh1⟩
theorem js_ite (hc : JT Tb X Φ pc c) (ha : JSs Tb X Φ pss ss) (hb : JSs Tb X Φ pss' ss') : JS Tb X Φ (.If pc pss pss' pos) (.ite c ss ss') := by
  refine imp_PS (ps_if hc ha hb) fun D σ H ⟨τ, μ, rs, rh, h⟩ => ?_
  unfold wS at h
  refine LT.bind (wT_mono c) rs rh h fun k μ1 H1 h1 k1 rs1 rh1 => ?_
  cases k with
  | true =>
    rw [if_pos rfl] at h1 ⊢
    exact ⟨τ, μ1, rs1, rh1, wSs_mono ss _ _ _ _ (liftD_mono k1 D) h1⟩
  | false =>
    rw [if_neg Bool.false_ne_true] at h1 ⊢
    exact ⟨τ, μ1, rs1, rh1, wSs_mono ss' _ _ _ _ (liftD_mono k1 D) h1⟩
theorem js_whl (hp : PassesOwn (model X.prog X.w) X.A X.env X.xe) (hc : JT Tb X Φ pc c) (hb : JSs Tb X Φ pss ss) : JS Tb X Φ (.While pc pss [] pos) (.whl c ss) := by
  refine imp_PS (ps_while hp hc hb) fun D σ H ⟨τ, μ, rs, rh, h⟩ => ?_
  unfold wS at h
  obtain ⟨n, h⟩ := h
  refine ⟨fun n σ' H' => TK X.K H H' ∧ ∃ τ' μ', RepS X.K H' τ' σ' ∧ RepH X.K Tb H' μ' ∧ whileL (wT Φ c) (wSs Φ ss) (liftD X.K Tb H D) n τ' μ', ⟨n, TK.refl, τ, μ, rs, rh, h⟩, ?_⟩
  rintro m σ' H' ⟨kk, τ', μ', rs', rh', hl⟩
  cases m with
  | zero => unfold whileL at hl; exact hl.elim
  | succ m =>
    unfold whileL at hl
    refine LT.bind (wT_mono c) rs' rh' hl fun k μ1 H1 h1 k1 rs1 rh1 => ?_
    cases k with
    | false =>
      rw [if_neg Bool.false_ne_true] at h1 ⊢
      exact h1 _ _ (kk.trans k1) rs1 rh1
    | true =>
      rw [if_pos rfl] at h1 ⊢
      refine ⟨fun σ2 H2 => TK X.K H H2 ∧ ∃ τ' μ', RepS X.K H2 τ' σ2 ∧ RepH X.K Tb H2 μ' ∧ whileL (wT Φ c) (wSs Φ ss) (liftD X.K Tb H D) m τ' μ', fun σ2 H2 q => ⟨m, Nat.lt_succ_self _, q⟩, ?_⟩
      refine ⟨τ', μ1, rs1, rh1, wSs_mono ss _ _ _ _ ?_ h1⟩
      have kk1 := kk.trans k1
      exact ⟨fun τ2 μ2 q σ2 H2 k2 rs2 rh2 => ⟨kk1.trans k2, τ2, μ2, rs2, rh2, q⟩, fun t μ2 q => QE.mono kk1 q, fun τ2 μ2 q σ2 H2 k2 rs2 rh2 => q σ2 H2 (kk1.trans k2) rs2 rh2, fun τ2 μ2 q σ2 H2 k2 rs2 rh2 => ⟨kk1.trans k2, τ2, μ2, rs2, rh2, q⟩⟩
theorem js_for {tg iter : Expr} {tr : Tg} {sc : Sc F} (g : Gd X) (hp : PassesOwn (model X.prog X.w) X.A X.env X.xe) (hi : JI Tb X Φ tg iter sc) (hg : JG X tg tr) (hb : JSs Tb X Φ pss ss)
    (hs : ∀ x, foldedSetIterable iter X.env x = pure x := by intro _; rfl) : JS Tb X Φ (.For tg iter pss [] pos) (.for tr sc ss) := by
  refine imp_PS (ps_for hp g.calm hi hg hb hs) fun D σ H ⟨τ, μ, rs, rh, h⟩ => ?_
  unfold wS at h
  refine ⟨τ, μ, rs, rh, wSc_mono sc _ _ _ _ (fun its stays μ1 h1 => ?_) h⟩
  intro H1 k1 rh1 J wk
  refine ⟨fun i m σ' H' => m = its.length - i ∧ i ≤ its.length ∧ TK X.K H1 H' ∧ ∃ τ' μ', RepS X.K H' τ' σ' ∧ RepH X.K Tb H' μ' ∧ forL tr stays (wSs Φ ss) (liftD X.K Tb H D) (its.drop i) τ' μ',
    ⟨its.length, by simp, Nat.zero_le _, TK.refl, τ, μ1, rs.mono k1, rh1, by simpa using h1⟩, ?_⟩
  rintro i m σ' H' ⟨rfl, hi, kk, τ', μ', rs', rh', hl⟩
  by_cases hlt : i < its.length
  · obtain ⟨t, ht⟩ : ∃ t, its[i]? = some t := ⟨its[i], by simp [hlt]⟩
    rw [drop_cons ht] at hl
    unfold forL at hl
    refine .inr ⟨wk.go i H' μ' hlt kk rh' hl.1, fun σ2 H2 => i + 1 ≤ its.length ∧ TK X.K H1 H2 ∧ ∃ τ' μ', RepS X.K H2 τ' σ2 ∧ RepH X.K Tb H2 μ' ∧ forL tr stays (wSs Φ ss) (liftD X.K Tb H D) (its.drop (i + 1)) τ' μ',
      fun σ2 H2 n2 => ⟨its.length - (i + 1), by omega, rfl, n2.1, n2.2.1, n2.2.2⟩, fun x H2 y => ?_⟩
    obtain ⟨k2, r2, rh2⟩ := wk.yld i H' μ' x H2 t ht kk rh' hl.1 y
    refine ⟨t, τ', r2, rs'.mono k2, wTg_mono (fun τ2 q => ?_) _ _ _ hl.2⟩
    intro σ2 rs2 sm
    have kk2 := (k1.trans kk).trans k2
    refine ⟨τ2, μ', rs2, rh2, wSs_mono ss _ _ _ _ ?_ q⟩
    exact ⟨fun τ3 μ3 q σ3 H3 k3 rs3 rh3 => ⟨hlt, (kk.trans k2).trans k3, τ3, μ3, rs3, rh3, q⟩, fun t μ2 q => QE.mono kk2 q, fun τ3 μ3 q σ3 H3 k3 rs3 rh3 => q σ3 H3 (kk2.trans k3) rs3 rh3, fun τ3 μ3 q σ3 H3 k3 rs3 rh3 => ⟨hlt, (kk.trans k2).trans k3, τ3, μ3, rs3, rh3, q⟩⟩
  · have e : i = its.length := by omega
    subst e
    rw [List.drop_length] at hl
    unfold forL at hl
    exact .inl ⟨wk.stop H' μ' kk rh' hl.1, hl.2 _ _ (k1.trans kk) rs' rh'⟩
end
end TV

/-! del xs[a:]. -/
namespace TV
open PySem PySem.Spec PyProof.Rows L2
section
variable {prog : Program} {w : World} {A : Around} {E : Value → Shared → Prop} {s : Shared}
theorem kept_front (p : Nat → Bool) (a n : Nat) (hp : ∀ k, k < n → p k = decide (a ≤ k)) : ∀ (xs : List Value) (i : Nat), i + xs.length ≤ n → ((xs.zipIdx i).filterMap fun (q : Value × Nat) => if p q.2 = true then none else some q.1) = xs.take (a - i)
  | [], i, _ => by simp
  | x :: xs, i, hl => by
    rw [List.length_cons] at hl
    rw [List.zipIdx_cons, List.filterMap_cons, kept_front p a n hp xs (i + 1) (by omega)]
    simp only [hp i (by omega)]
    by_cases h : a ≤ i
    · have e : a - i = 0 := by omega
      have e2 : a - (i + 1) = 0 := by omega
      simp [h, e, e2]
    · have e : a - i = (a - (i + 1)) + 1 := by omega
      simp only [h, decide_false, Bool.false_eq_true, if_false]
      rw [e, List.take_succ_cons]
theorem sel_one (a n k : Nat) (h : k < n) : (if (1 : Int) > 0 then decide ((a : Int) ≤ (k : Int)) && decide ((k : Int) < (n : Int)) && (((k : Int) - (a : Int)) % 1 == 0) else decide ((n : Int) < (k : Int)) && decide ((k : Int) ≤ (a : Int)) && (((a : Int) - (k : Int)) % (-1) == 0)) = decide (a ≤ k) := by
  rw [if_pos (by decide)]
  have h1 : decide ((k : Int) < (n : Int)) = true := decide_eq_true (by omega)
  have h2 : (((k : Int) - (a : Int)) % 1 == 0) = true := by simp
  rw [h1, h2, Bool.and_true, Bool.and_true]
  exact decide_eq_decide.mpr (by omega)
theorem bounds_from {a n : Nat} (ha : a ≤ n) : sliceBounds (some (a : Int)) none none n = ((a : Int), (n : Int), 1) := by
  simp only [sliceBounds, Option.getD_none]
  have h1 : ¬ ((a : Int) < 0) := by omega
  simp only [h1, if_false, show (1 : Int) > 0 by decide, if_true]
  congr 1
  omega
theorem delItem_from {l sl : Addr} {items : Array Value} {n : Nat} {vl vu : Value} {a : Nat} {Q : Unit → Shared → Prop}
    (e : s.heap.get? l = some { cls := .type "list", data := .seq items n })
    (hs : s.heap.IsSliceOf sl vl vu .none) (pl : IsPart vl (some (a : Int))) (pu : IsPart vu none) (ha : a ≤ items.size)
    (hsz : items.size ≤ sizeLine) (h : ∀ f : Array Value → Array Value, f items = (items.toList.take a).toArray → Q () { s with heap := s.heap.update l (Obj.mapSeq f) }) :
    wpAny (model prog w) A (delItem (.ref l) (.ref sl)) Q E s := by
  have hl : s.heap.IsList l items := PySem.IsL.isList e
  obtain ⟨os, hos, hcs, hds⟩ := id hs
  have hTs : s.TypeIs (.ref sl) "slice" := ⟨os, hos, hcs⟩
  have hstep : ¬ ((rawPart none == rawInt 0) = true) := Bool.false_ne_true
  refine PySem.wpAny_delItem_slot hl.typeIs (by decide) PySem.F.slot_list_delitem (wpAny_call_entry PySem.F.slot_list_delitem hl.typeIs PySem.F.entry_list_delitem ?_ (PySem.F.args_list_delitem_2 _ _))
  show wpAny _ _ (Builtin.List.listSubscript? (.ref sl) >>= _) _ _ s
  refine wpAny_bind ?_
  unfold Builtin.List.listSubscript?
  refine wpAny_bind (wpAny_specialOf hTs slice_no_index ?_)
  simp only [Option.isNone_none, if_true]
  refine wpAny_pure ?_
  show wpAny _ _ (typeOf (.ref sl) >>= _) _ _ s
  refine wpAny_bind (wpAny_typeOf hTs ?_)
  first
    | rw [if_neg (by decide)]
    | refine PySem.W.KFB.if_not (by decide) ?_
  rw [listSliceParts_eq]
  refine wpAny_bind (wpAny_bind (wpAny_field hos hds (x := .none) rfl (wpAny_bind (wpAny_listPart .none ?_))))
  rw [if_neg hstep]
  refine wpAny_bind (wpAny_field hos hds (x := vl) rfl (wpAny_bind (wpAny_listPart pl ?_)))
  refine wpAny_bind (wpAny_field hos hds (x := vu) rfl (wpAny_bind (wpAny_listPart pu (wpAny_pure ?_))))
  refine wpAny_bind ?_
  unfold Builtin.List.listItems
  refine wpAny_bind (wpAny_seqItems e rfl (wpAny_pure ?_))
  refine wpAny_bind (wpAny_of_eq ((sliceIndices_raw (some (a : Int)) none none items.size (by simp)).trans (congrArg (pure : Int × Int × Int → Sem (Int × Int × Int)) (bounds_from ha))) ?_)
  dsimp only
  refine wpAny_bind (wpAny_rule ?_)
  refine wpAny_bind (m := updateSeq l _) ?_
  refine wpAny_updateSeq (hz := hsz) (_hz' := ?_) e rfl ?_
  · refine wpAny_bind (wpAny_letGo ?_)
    refine wpAny_pure ⟨.none, rfl, h _ ?_⟩
    have := kept_front _ a items.size (fun k hk => sel_one a items.size k hk) items.toList 0 (by simp)
    exact congrArg List.toArray this
  · have := kept_front _ a items.size (fun k hk => sel_one a items.size k hk) items.toList 0 (by simp)
    refine Nat.le_trans (Nat.le_of_eq (congrArg (fun z : List Value => z.toArray.size) this)) ?_
    simp
    omega
end

section
variable {F : Type} {Φ : F → Con} {X : Cx} {po pl : Expr} {o lo : E F} {pos p1 p2 : Pos}
theorem js_delsl (g : Gd X) (ho : JE Tb X Φ po o) (hl : JE Tb X Φ pl lo) : JS Tb X Φ (.Delete [.Subscript po (.Slice (some pl) none none p2) p1] pos) (.delsl o lo) := by
  refine ⟨fun pins s σ H D I ⟨τ, μ, rs, rh, h⟩ => ?_⟩
  unfold wS at h
  have q0 : LE X.K Tb (wE Φ o) σ H fun x H1 => ∃ μ1, RepS X.K H1 τ σ ∧ RepH X.K Tb H1 μ1 ∧ ∃ t, Rep X.K H1 t x ∧ TK X.K H H1 ∧ wE Φ lo τ μ1 fun k μ2 => ∃ a l n, t = .ref a ∧ μ2 a = some (.lst l) ∧ k = .int n ∧ 0 ≤ n ∧ n ≤ l.length ∧ ∀ σ' H', TK X.K H H' → RepS X.K H' τ σ' → RepH X.K Tb H' (mset μ2 a (.lst (l.take n.toNat))) → D.nx σ' H' :=
    LE.bind (wE_mono o) rs rh h fun t μ1 v H1 h1 k1 r1 rs1 rh1 => ⟨μ1, rs1, rh1, t, r1, k1, h1⟩
  refine wpAny_Delete (wpAny_deleteEach_cons (wpAny_delete_Subscript (thn (ho.run pins s σ H _ I q0) fun u s1 z => ?_)))
  obtain ⟨x, H1, I1, rx, μ1, rs1, rh1, t, r1, k1, h1⟩ := z
  have q1 : tPart (LE X.K Tb (wE Φ lo)) σ H1 fun oi H2 => ∃ (n : Int) (a : Addr) (l : List T) (μ2 : Mu), oi = some n ∧ t = .ref a ∧ μ2 a = some (.lst l) ∧ 0 ≤ n ∧ n ≤ l.length ∧ TK X.K H1 H2 ∧ RepS X.K H2 τ σ ∧ RepH X.K Tb H2 μ2 ∧ ∀ σ' H', TK X.K H H' → RepS X.K H' τ σ' → RepH X.K Tb H' (mset μ2 a (.lst (l.take n.toNat))) → D.nx σ' H' := by
    refine LE.bind (wE_mono lo) rs1 rh1 h1 fun k μ2 w H2 h2 k2 r2 rs2 rh2 => ?_
    obtain ⟨a, l, n, et, el, rfl, n0, nl, q⟩ := h2
    obtain rfl : w = .int n := r2
    exact ⟨n, rfl, n, a, l, μ2, rfl, et, el, n0, nl, k2, rs2, rh2, q⟩
  refine wpAny_Slice (thn ((po_some hl).run pins s1 σ H1 _ I1 q1) fun vl s2 z => ?_)
  obtain ⟨oi, H2, I2, pp, n, a, l, μ2, rfl, rfl, el, n0, nl, k2, rs2, rh2, q⟩ := z
  refine (show wpAny _ _ (evalPart none X.env) _ _ _ from ?_)
  rw [evalPart_none]
  refine wpAny_pure (wpAny_pure ?_)
  obtain rfl : x = .ref a := r1
  cases rx
  have I3 : Inv X pins σ H2 { s2 with heap := s2.heap.push { cls := .type "slice", data := .fields #[vl, .none, .none] } } := I2.kept (t' := s2.toks) fun b ob q => Heap.get?_push_of_some _ q
  obtain ⟨vs, e1, r⟩ := rh2 a _ el
  obtain ⟨z, its, m, rr, hlen, e⟩ := I3.lstM e1
  have lv := r.length
  obtain ⟨n, rfl⟩ : ∃ k : Nat, n = k := ⟨n.toNat, by omega⟩
  refine delItem_from (a := n) e (Heap.IsSliceOf.new ..) pp .none (by rw [List.size_toArray]; omega) (by rw [List.size_toArray]; omega) fun f ef => ?_
  have tk := TK.write (K := X.K) (o := .lst (vs.take n)) e1 trivial
  refine wpAny_deleteEach_nil ⟨σ, _, I3.lset (its' := its.take n) (t' := s2.toks) e1 e ?_ (rr.take n) (by rw [List.length_take]; omega), ?_⟩
  · rw [ef]
  · exact q σ _ ((k1.trans k2).trans tk) (rs2.mono tk) (rh2.write e1 trivial ⟨_, upd_same, (r.take n).mono tk⟩)
end
end TV

/-! All defs of a text at once, by levels; the rules' short names. -/
namespace TV
open PySem PySem.Spec PyProof.Rows L2

def startT (n : Nat) (ts : List T) : Env := ts.map some ++ List.replicate (n - ts.length) none
theorem Reps.starts {K : PySem.W.Frag} {H : Hp} {ts : List T} {vs : List V} (r : Reps K H ts vs) (N : List Str) : RepS K H (startT N.length ts) (L2.start N vs) := by
  have hl := r.length
  refine ⟨by unfold startT L2.start; simp [hl], fun i t e => ?_⟩
  unfold startT at e
  by_cases hi : i < ts.length
  · rw [List.getElem?_append_left (by simpa using hi), List.getElem?_map] at e
    cases h : ts[i]? with
    | none => rw [h] at e; cases e
    | some u =>
      rw [h] at e
      cases e
      obtain ⟨v, e1, r1⟩ := r.get h
      refine ⟨v, ?_, r1⟩
      unfold L2.start
      rw [List.getElem?_append_left (by simpa [← hl] using hi), List.getElem?_map, e1]
      rfl
  · rw [List.getElem?_append_right (by simpa using hi), List.getElem?_replicate] at e
    split at e <;> cases e

/-- the ends of a def's body, by its contract -/
def endsOf (post : T → Mu → Prop) : En := ⟨fun _ μ => post .non μ, post, fun _ _ => False, fun _ _ => False⟩

/-- the defs of a text -/
structure Lib (F : Type) where
  nm : F → Str
  st : F → Stmt
  N : F → List Str
  ps : F → List Str
  body : F → Ss F

section
variable {F : Type} {P : Program} {w : World} {K : PySem.W.Frag} {mg : Str → Option Value} {base : Heap}
/-- the context of a def's body -/
abbrev cxB (L : Lib F) (P : Program) (w : World) (K : PySem.W.Frag) (mg : Str → Option Value) (base : Heap) (f : F) (fa : Addr) (cdv : Value) (A : Around) (outer : List PySem.Env) (s : Shared) (H : Hp) : Cx :=
  (cxOf CX0 P w K mg base (L.N f) (L.nm f) (defScope (L.st f)) fa cdv A outer s H (fun _ _ _ => False)).nox
/-- what stands behind the top of the text -/
structure Top (L : Lib F) (K : PySem.W.Frag) (mg : Str → Option Value) : Prop where
  fn : ∀ f, ∃ (fa : Addr) (fd : FuncData), Fun K (L.nm f) (L.nm f) (L.st f) fa fd ∧ mg (L.nm f) = some (.ref fa) ∧ Binds K fd (L.ps f) []
/-- the contracts hold, level by level -/
theorem table {Tb : List NdefX.NTab} (L : Lib F) (Φ : Nat → F → Con) (h0 : ∀ f ts μ, ¬ (Φ 0 f).pre ts μ) (hlen : ∀ k f ts μ, (Φ k f).pre ts μ → ts.length = (L.ps f).length) (T : Top L K mg) (S : ∀ f, FnScope (L.N f) (L.ps f) (defScope (L.st f)))
    (walk : ∀ (k : Nat) (f : F) (fa : Addr) (cdv : Value) (A : Around) (outer : List PySem.Env) (s : Shared) (H : Hp), (∀ g, Kn P w K mg base Tb k (L.nm g) (L.ps g).length (Φ k g)) → Room k (cxB L P w K mg base f fa cdv A outer s H).A →
      JSs Tb (cxB L P w K mg base f fa cdv A outer s H) (Φ k) (defBody (L.st f)) (L.body f))
    (vc : ∀ k f ts μ, (Φ (k + 1) f).pre ts μ → wSs (Φ k) (L.body f) (endsOf ((Φ (k + 1) f).post ts μ)) (startT (L.N f).length ts) μ) :
    ∀ k f (fa : Addr) (fd : FuncData), Fun K (L.nm f) (L.nm f) (L.st f) fa fd → FnOk P w K mg base CX0 k fa fd (L.ps f) (spOf K Tb (L.ps f).length (Φ k f)) := by
  intro k
  induction k with
  | zero =>
    intro f fa fd _
    exact ⟨fun vs H Q E ⟨ts, μ, _, _, _, p, _⟩ => absurd p (h0 f ts μ), fun A outer s H args us vs Q E _ _ _ _ ⟨ts, μ, _, _, _, p, _⟩ => absurd p (h0 f ts μ)⟩
  | succ k ih =>
    intro f fa fd Fn
    have all : ∀ g, Kn P w K mg base Tb k (L.nm g) (L.ps g).length (Φ k g) := fun g => by
      obtain ⟨ga, gd, G, m, b⟩ := T.fn g
      exact ⟨ga, gd, L.ps g, ih g ga gd G, m, G.kp, b⟩
    refine Fn.ok (S f) (fun vs H Q E ⟨ts, μ, e, r, _⟩ => by rw [← r.length, e]) fun cdv A outer s H vs Q E hr h => ?_
    obtain ⟨ts, μ, e, r, rh, p, q⟩ := h
    refine ⟨_, walk k f fa cdv A outer s H all hr, startT (L.N f).length ts, μ, r.starts _, rh, ?_⟩
    refine wSs_mono (L.body f) _ _ _ _ ?_ (vc k f ts μ p)
    exact ⟨fun τ μ' p σ' H' k rs rh' => q _ _ p _ _ k rfl rh', fun t μ' p => q _ _ p, fun _ _ z => z.elim, fun _ _ z => z.elim⟩
end

/-! ### short names of the rules -/
section
variable {F : Type} {Φ : F → Con} {X : Cx} {pos p1 p2 p3 apos cpos : Pos} {pe po : Expr} {pes : List Expr} {e o : E F} {es : Es F}
theorem ty_lst {K : PySem.W.Frag} {m : Me} (hm : m = .append ∨ m = .extend ∨ m = .pop ∨ m = .index) : ∀ x μ v H, meTy m x μ → Rep K H x v → RepH K Tb H μ → tyV K "list" v H := by
  intro x μ v H h r rh
  have go : (∃ a l, x = .ref a ∧ μ a = some (.lst l)) → tyV K "list" v H := fun ⟨a, l, ex, e⟩ => by
    subst ex
    obtain rfl : v = .ref a := r
    obtain ⟨vs, e1, _⟩ := rh a _ e
    exact .inl ⟨rfl, vs, SqL.of e1⟩
  rcases hm with rfl | rfl | rfl | rfl <;> cases x <;> first | exact h.elim | (obtain ⟨l, e⟩ := h; exact go ⟨_, l, rfl, e⟩)
theorem ty_dic {K : PySem.W.Frag} {m : Me} (hm : m = .get1 ∨ m = .get2 ∨ m = .setdefault) : ∀ x μ v H, meTy m x μ → Rep K H x v → RepH K Tb H μ → tyV K "dict" v H := by
  intro x μ v H h r rh
  have go : (∃ a l, x = .ref a ∧ μ a = some (.dic l)) → tyV K "dict" v H := fun ⟨a, l, ex, e⟩ => by
    subst ex
    obtain rfl : v = .ref a := r
    obtain ⟨vs, e1, _⟩ := rh a _ e
    exact .inr (.inr (.inl ⟨rfl, .inl ⟨vs, e1⟩⟩))
  rcases hm with rfl | rfl | rfl <;> cases x <;> first | exact h.elim | (obtain ⟨l, e⟩ := h; exact go ⟨_, l, rfl, e⟩)
theorem ty_str {K : PySem.W.Frag} : ∀ x μ v H, meTy .join x μ → Rep K H x v → RepH K Tb H μ → tyV K "str" v H := by
  intro x μ v H h r rh
  cases x <;> first | exact h.elim | skip
  · obtain ⟨rfl, _⟩ := r
    exact rfl
end
end TV

/-! A text's constants; len(set(..)). -/
namespace TV
open PySem PySem.Spec PyProof.Rows L2
/-- a constant of the text -/
structure GlobC (K : PySem.W.Frag) (mg : Str → Option Value) (x : Str) (t : T) : Prop where
  ex : ∃ v u, mg x = some u ∧ RelV v u ∧ ∀ H, Rep K H t v
section
variable {F : Type} {Φ : F → Con} {X : Cx} {pos p1 p2 p3 q : Pos} {pa : Expr} {a : E F}
theorem j_globC {x : Str} {t : T} (c : GlobC X.K X.mg x t) (hg : Gl X x) (hd : (x == ("__debug__" : Str)) = false := by decide) : JE Tb X Φ (.Name x pos) (.glob x t) := by
  obtain ⟨v, u, m, r, h⟩ := c.ex
  exact j_glob hg m r h hd
theorem j_lenset (hg : Gl X "len") (hm : X.mg "len" = none) (hg2 : Gl X "set") (hm2 : X.mg "set" = none) (ha : JE Tb X Φ pa a) (na : starEach [pa] X.env = (false, eval pa X.env) :: starEach [] X.env := by rfl) (hc : X.calm = true := by rfl) :
    JE Tb X Φ (.Call (.Name "len" p1) [.Call (.Name "set" p2) [pa] [] q] [] pos) (.bi .lenset (.cons a .nil)) := by
  refine imp_PE (pe_lenTx hc hg hm hg2 hm2 ha na) fun σ H Q ⟨τ, μ, rs, rh, h⟩ => ?_
  unfold wE wEs at h
  refine LE.bind (wE_mono a) rs rh h fun t μ1 v H1 h1 k1 r1 rs1 rh1 => ?_
  have h2 : biLenset [t] μ1 (QE X.K Tb H Q) := h1
  cases t <;> first | exact (show False from h2).elim | skip
  rename_i d
  obtain rfl : v = .ref d := r1
  obtain ⟨l, zs, e2, e3, few, qq⟩ := h2
  obtain ⟨vs, e4, r⟩ := rh1 d _ e2
  obtain ⟨e5, _⟩ := strs_rep r e3
  subst e5
  exact ⟨d, zs, rfl, e4, few, QE.here (QE.mono k1 qq) rfl rh1⟩
end
end TV

/-! Functions that a def makes and hands to another def. -/
namespace TV
open PySem PySem.Spec PyProof.Rows L2
open NdefX (NF NOk CellsAt Caps slotAt FnO NScope TabsN ncx)
open LamX (ExtN CodeO TabB)

/-- F is made by the statement st -/
def Made (st : Stmt) (name qual : Str) (F : NF) : Prop := ∃ cl c, F = NF.of st name qual cl c

section
variable {K : PySem.W.Frag} {H H' : Hp} {μ : Mu} {a : Addr} {mo : MO}
theorem TK.ext' (e : ExtN H H') : TK K H H' := by
  refine ⟨fun a vs h => ?_, fun a vs h => ?_, fun a φ h => e a _ h (fun ps z => by cases z)⟩
  · rcases h with ⟨ob, h, hd⟩ | h
    · exact .inl ⟨ob, e a _ h (fun ps z => by cases z), hd⟩
    · exact .inr h
  · rcases h with ⟨ob, h⟩ | h
    · exact .inl ⟨ob, e a _ h (fun ps z => by cases z)⟩
    · exact .inr h
theorem RepO.ext (h : RepO K H a mo) (e : ExtN H H') : RepO K H' a mo := by
  have k : TK K H H' := TK.ext' e
  cases mo with
  | lst l => obtain ⟨vs, e1, r⟩ := h; exact ⟨vs, e _ _ e1 (fun ps z => by cases z), r.mono k⟩
  | dic kvs => obtain ⟨ks, e1, q, r, nd⟩ := h; exact ⟨ks, e _ _ e1 (fun ps z => by cases z), q, r.mono k, nd⟩
  | dit kvs => obtain ⟨ks, e1, q, r, nd⟩ := h; exact ⟨ks, e _ _ e1 (fun ps z => by cases z), q, r.mono k, nd⟩
  | ins c fs => obtain ⟨C, dx, vs, e1, n, q, r⟩ := h; exact ⟨C, dx, vs, e _ _ e1 (fun ps z => by cases z), n, q, r.mono k⟩
  | fn F => exact ⟨e _ _ h.1 (fun ps z => by cases z), k.ext _ _ h.2⟩
end

section
variable {F : Type} {Φ : F → Con} {X : Cx}
/-- def name(..): .. within a def's body -/
theorem js_ndef {st : Stmt} {nm : Nat → Nat → Str} {c P : Addr} {name : Str} {pos : Pos} (i : Nat) (g : Gd X) (hst : st = .FunctionDef name (C8.fnArgs st) (C8.fnBody st) [] none [] (C8.fnScope st) none name pos) (TB : TabB X.base X.mg c P) (hcode : X.env.code = .ref c) (hm : (P, nm) ∈ Tb)
    (hn : nm pos.line pos.col = X.env.qual ++ name) (hu : ∀ p ∈ Tb, p.1 = P → p.2 = nm) (hfree : ∀ y ∈ (C8.fnScope st).names, y.2 = .free → X.env.scope.names.lookup y.1 = some .cell ∨ X.env.scope.names.lookup y.1 = some .free) (hd0 : (C8.fnArgs st).defaults = []) (hk0 : (C8.fnArgs st).kw_defaults = [])
    (ha : annTrees (C8.fnArgs st) none X.env = []) (hi : X.N[i]? = some name) (hx : Loc X.env.scope name) (hf : X.fn name = true ∨ X.env.scope.names.lookup name = some .local) :
    JS Tb X Φ st (.ndef i (NF.of st name (X.env.qual ++ name) (cloFrom X.env.cells (C8.fnScope st).names []))) := by
  refine imp_PS (NdefX.ps_ndefS hst TB hcode hm hn hu hfree hd0 hk0 ha g.nd hi hx hf) fun D σ H ⟨τ, μ, rs, rh, h⟩ => ⟨rh.tb, fun f c' H1 e t1 f0 f1 c1 => ?_⟩
  unfold wS at h
  have k : TK X.K H H1 := TK.ext' e
  have r1 : RepS X.K H1 (τ.set i (some (.ref f))) (σ.set i (some (.ref f))) := (rs.mono k).set rfl
  refine h c' f (rh.free f0) _ H1 k r1 ⟨fun b o q => ?_, t1⟩
  by_cases hb : b = f
  · subst hb
    rw [mset_same] at q
    cases q
    exact ⟨f1, c1⟩
  · rw [mset_ne hb] at q
    exact (rh b o q).ext e
end

/-! ### promises -/
def spN (K : PySem.W.Frag) (Tb : List NdefX.NTab) (n : Nat) (c : Con) : List (Option V) → Sp := fun ws vs H Q _ =>
  ∃ ts us μ vws, ws = vws.map some ∧ ts.length = n ∧ Reps K H ts vs ∧ Reps K H us vws ∧ RepH K Tb H μ ∧ c.pre (ts ++ us) μ ∧ ∀ t μ', c.post (ts ++ us) μ t μ' → QE K Tb H Q t μ'
/-- .. of a def whose last argument is such a function G -/
def spS (K : PySem.W.Frag) (Tb : List NdefX.NTab) (n : Nat) (c : Con) (G : NF) : List (Option V) → Sp := fun ws vs H Q _ =>
  ∃ ts us μ vws fa, ws = vws.map some ∧ ts.length = n ∧ ts.getLast? = some (.ref fa) ∧ μ fa = some (.fn G) ∧ Reps K H ts vs ∧ Reps K H us vws ∧ RepH K Tb H μ ∧ c.pre (ts ++ us) μ ∧ ∀ t μ', c.post (ts ++ us) μ t μ' → QE K Tb H Q t μ'
/-- .. where M holds of the function -/
def spM (K : PySem.W.Frag) (Tb : List NdefX.NTab) (n : Nat) (c : Con) (M : NF → Prop) (G : NF) (ws : List (Option V)) : Sp := fun vs H Q E => M G ∧ spS K Tb n c G ws vs H Q E
/-- a def's promise that knows what a handed function's captured cells hold -/
structure FnOkS (P : Program) (w : World) (K : PySem.W.Frag) (mg : Str → Option Value) (base : Heap) (k : Nat) (f : Addr) (fd : FuncData) (ps fr : List Str) (sp : NF → List (Option V) → Sp) : Prop where
  len : ∀ G ws vs H Q E, sp G ws vs H Q E → vs.length = ps.length
  run : ∀ (A : Around) (outer : List PySem.Env) (s : Shared) (H : Hp) (args : Args) (us : List Value) (vs : List V) (G : NF) (ws : List (Option V)) (Q : VK) (E : XK), Room k A → Env0 P w K mg base A outer s H → BindsTo s fd args (ps.zip us) →
    Vals vs us → CellsAt G.cl fr ws s.heap H → sp G ws vs H Q E → codeAny (model P w) A (.call (.ref f) args) (CR CX0 outer P w H s Q E) s
section
variable {P : Program} {w : World} {K : PySem.W.Frag} {mg : Str → Option Value} {base : Heap}
/-- a def whose last argument is a function: by its body -/
theorem FunS.ok {x qual : Str} {st : Stmt} {f : Addr} {fd : FuncData} {N ps fr : List Str} {k : Nat} {sp : NF → List (Option V) → Sp} (F : L2.Fun K x qual st f fd) (S : FnScope N ps (defScope st)) (len : ∀ G ws vs H Q E, sp G ws vs H Q E → vs.length = ps.length)
    (body : ∀ (cdv : Value) (A : Around) (outer : List PySem.Env) (s : Shared) (H : Hp) (vs : List V) (G : NF) (ws : List (Option V)) (Q : VK) (E : XK), Room k (A.deeper (envOfC qual (defScope st) s.heap.objs.size f cdv)) → CellsAt G.cl fr ws s.heap H → sp G ws vs H Q E →
      ∃ t, PSs (cxOf CX0 P w K mg base N qual (defScope st) f cdv A outer s H E).nox (defBody st) t ∧ t { nx := fun _ H' => Q .non H', rt := Q } (start N vs) H) : FnOkS P w K mg base (k + 1) f fd ps fr sp := by
  obtain ⟨oc, od, kV, doc, pm, an, cdv, ct, osl, e1, lk, hcd⟩ := F.ex
  subst e1
  refine ⟨len, ?_⟩
  intro A outer s H args us vs G ws Q E room ent bnd rv cells wish
  have inK : K.In s.heap := ent.mod.kin.keeps fun b o e => (ent.bs b o e).1
  have free := ent.mod.nolimit.keeps fun b o e => (ent.bs b o e).1
  have kinds : ∀ y ∈ ps.zip us, (defScope st).names.lookup y.1 = some .local ∨ ((defScope st).names.lookup y.1 = some .cell ∧ ((cellsFrom (s.heap.objs.size + 1) (defScope st).names []).lookup y.1).isSome = true) := fun y hy =>
    (S.par y.1 (List.of_mem_zip (show (y.1, y.2) ∈ ps.zip us from hy)).1).imp id fun q => ⟨q, PySem.W.cellsFrom_some _ _ _ (.inl q)⟩
  have here := inK _ _ lk
  have rec0 := PySem.W.codeRec_of inK hcd
  refine codeAny_call_function room.depth here rfl S.co S.gen rfl rec0 (bnd _ _ _ _ ?_)
  refine wpAny_newFunctionEnv_cells S.kind kinds fun env he s1 x => ?_
  cases he
  refine ⟨free.keeps x.toInCall.keep, codeAny_func ?_⟩
  obtain ⟨t, ht, hq⟩ := body cdv A outer s H vs G ws Q E (room.deeper _) cells wish
  have inv0 := inv_start (CX := CX0) (E := E) S room.hd ent (len _ _ _ _ _ _ wish) rv x
  refine wpAny_mono ((PSs.nox ht).run [] s1 _ H _ inv0 hq) (fun fl s' hs => ?_) fun _ _ hs => hs
  cases fl
  case ret u =>
    obtain ⟨v, σ', H', J, r', q⟩ := hs
    exact ⟨v, H', J.os, J.bare, J.base, J.hok, r', q⟩
  case next =>
    obtain ⟨σ', H', J, q⟩ := hs
    exact ⟨.non, H', J.os, J.bare, J.base, J.hok, rfl, q⟩
  case brk =>
    obtain ⟨_, _, _, q⟩ := hs
    cases q
  case cont =>
    obtain ⟨_, _, _, q⟩ := hs
    cases q
end

/-! ### what the captured cells held, they hold -/
section
variable {X : Cx} {pins : List (Addr × Obj)} {σ : L2.St} {H : Hp} {s : Shared} {cl : List (Str × Addr)} {fr : List Str} {ws : List (Option V)}
theorem cells_later (ex : X.ex = []) (C : CellsAt cl fr ws X.s_0.heap X.H_0) (I : Inv X pins σ H s) : CellsAt cl fr ws s.heap H := by
  have noex : ∀ b, b ∉ X.ex := fun b => by rw [ex]; simp
  have still : ∀ y c, cl.lookup y = some c → ∀ v, X.s_0.heap.IsCell c v → s.heap.IsCell c v ∧ H c = none := fun y c e v ⟨o, ho, hd⟩ => by
    have n0 := (C.all y c e).1
    obtain ⟨sl, h1⟩ := I.base.any ho n0 (noex c)
    exact ⟨⟨_, h1, hd⟩, I.base.free c o ho n0 (noex c)⟩
  constructor
  · exact C.len
  · intro y c e
    obtain ⟨v, z⟩ := (C.all y c e).2
    exact ⟨(still y c e v z).2, v, (still y c e v z).1⟩
  · exact C.inj
  · intro i y e
    obtain ⟨c, hc, hv⟩ := C.has i y e
    exact ⟨c, hc, fun v ev => let ⟨u, r, z⟩ := hv v ev; ⟨u, r, (still y c hc _ z).1⟩⟩
mutual
theorem Rep.frz {K : PySem.W.Frag} {H H' : Hp} (k : ∀ b o u, H b = some (.frz o u) → H' b = some (.frz o u)) : ∀ {t : T} {v : V}, Rep K H t v → Rep K H' t v
  | .non, _, h => h
  | .bl _, _, h => h
  | .int _, _, h => h
  | .str _, _, h => h
  | .ref _, _, h => h
  | .tup l, v, h => by
    obtain ⟨a, vs, e, q, r⟩ := h
    refine ⟨a, vs, e, ?_, Reps.frz k r⟩
    rcases q with ⟨o, q, d⟩ | q
    · exact .inl ⟨o, k _ _ _ q, d⟩
    · exact .inr q
  | .rol l, v, h => by
    obtain ⟨a, vs, e, q, r⟩ := h
    refine ⟨a, vs, e, ?_, Reps.frz k r⟩
    rcases q with ⟨o, q⟩ | q
    · exact .inl ⟨o, k _ _ _ q⟩
    · exact .inr q
theorem Reps.frz {K : PySem.W.Frag} {H H' : Hp} (k : ∀ b o u, H b = some (.frz o u) → H' b = some (.frz o u)) : ∀ {ts : List T} {vs : List V}, Reps K H ts vs → Reps K H' ts vs
  | [], _, h => h
  | _ :: _, _, h => by
    obtain ⟨v, r, e, h1, h2⟩ := h
    exact ⟨v, r, e, Rep.frz k h1, Reps.frz k h2⟩
end
/-- a call of a function made by a def, what it captured being known -/
theorem run_made {f : Addr} {G : NF} {ps : List Str} {j k : Nat} {sp : List (Option V) → Sp} {us : List Value} {vs : List V} {Q : VK} (Fn : NOk X.prog X.w X.K X.mg X.base CX0 k f G ps fr sp) (hr : Room j X.A) (hk : k ≤ j) (I : Inv X pins σ H s)
    (hf : H f = some (FnO f G)) (hc : H G.c = some (CodeO G.c G.qual)) (C : CellsAt G.cl fr ws s.heap H) (r : Vals vs us) (q : sp ws vs H Q E0) : wpAny (model X.prog X.w) X.A (call (.ref f) us) (EP X pins σ Q) X.xe s := by
  have go := Fn.run X.A X.stack s H us vs ws Q E0 (hr.mono hk) I.env0 hf hc C r q
  refine wpAny_call (codeAny_mono go ?_)
  intro res s' hq
  match res, hq with
  | .ok (.ret u), hq => exact I.after hq
end

/-! ### calls -/
/-- what a frame whose last argument is a made function knows of it -/
structure Clo (X : Cx) (fr : List Str) (G : NF) (ws : List T) : Prop where
  no : X.ex = []
  ex : ∃ vws, CellsAt G.cl fr (vws.map some) X.s_0.heap X.H_0 ∧ Reps X.K X.H_0 ws vws
structure KnN (P : Program) (w : World) (K : PySem.W.Frag) (mg : Str → Option Value) (base : Heap) (Tb : List NdefX.NTab) (k : Nat) (G : NF) (ps fr : List Str) (c : Con) : Prop where
  ok : ∀ f, NOk P w K mg base CX0 k f G ps fr (spN K Tb ps.length c)
structure KnS (P : Program) (w : World) (K : PySem.W.Frag) (mg : Str → Option Value) (base : Heap) (Tb : List NdefX.NTab) (k : Nat) (x : Str) (n : Nat) (fr : List Str) (M : NF → Prop) (c : Con) : Prop where
  ex : ∃ (f : Addr) (fd : FuncData) (ps : List Str), ps.length = n ∧ FnOkS P w K mg base k f fd ps fr (spM K Tb n c M) ∧ mg x = some (.ref f) ∧ PySem.W.keepIn K (.ref f) = true ∧ Binds K fd ps []
section
variable {F : Type} {Φ : F → Con} {X : Cx} {p1 pos : Pos} {pe : Expr} {pes : List Expr} {es : Es F} {x : Str}
/-- g(..), g handed to this def -/
theorem j_callK {g : F} {i j k : Nat} {ws : List T} {G : NF} {ps fr : List Str} (Fn : KnN X.prog X.w X.K X.mg X.base Tb k G ps fr (Φ g)) (hl : ∀ ts μ, (Φ g).pre ts μ → ts.length = ps.length + fr.length) (cl : Clo X fr G ws) (hr : Room j X.A) (hk : k ≤ j) (ha : JA Tb X Φ (pe :: pes) es)
    (hN : X.N[i]? = some x := by rfl) (hv : Vis X.env.scope x := by first | exact Or.inl rfl | exact Or.inr (Or.inl rfl) | exact Or.inr (Or.inr rfl)) (hd : (x == ("__debug__" : Str)) = false := by decide) (hcd : (x == ("__classdict__" : Str)) = false := by decide)
    (he : starEach (pe :: pes) X.env = (false, eval pe X.env) :: starEach pes X.env := by rfl) (hpl : (backTo pos (starEach pes X.env)).any (·.1) = false := by rfl) : JE Tb X Φ (.Call (.Name x p1) (pe :: pes) [] pos) (.callK g i es ws G) := by
  refine ⟨fun pins s σ H Q I ⟨τ, μ, rs, rh, h⟩ => ?_⟩
  unfold wE at h
  obtain ⟨fa, e1, e2, h⟩ := h
  obtain ⟨v0, e3, rv⟩ := rs.2 _ _ e1
  obtain rfl : v0 = .ref fa := rv
  have f1 := rh fa _ e2
  refine wpAny_Call_Name_kw (thn ((pe_var (pos := p1) hN hv hd hcd).run pins s σ H (fun v H1 => v = .ref fa ∧ H1 = H) I ⟨.ref fa, e3, rfl, rfl⟩) fun u s1 z => ?_)
  obtain ⟨v, H1, I1, r1, ev, eH⟩ := z
  subst ev eH
  cases r1
  have la : LA X.K Tb (wEs Φ es) σ H1 fun vs H2 => ∃ ts μ2, Reps X.K H2 ts vs ∧ RepH X.K Tb H2 μ2 ∧ μ2 fa = some (.fn G) ∧ callS Φ g (ts ++ ws) μ2 (QE X.K Tb H2 Q) :=
    LA.bind (wEs_mono es) rs rh h fun ts μ2 vs H2 q k2 r2 rs2 rh2 => ⟨ts, μ2, r2, rh2, q.1, q.2.1, fun t μ' p => QE.mono k2 (q.2.2 t μ' p)⟩
  refine PySem.W.callWith_F (first := []) (NdefX.fnAt_of I1 f1.1) (thn (ha.run pos pins s1 σ H1 _ I1 la) fun us s2 z => ?_) he hpl
  obtain ⟨vs, H2, I2, r, ts, μ2, r2, rh2, e4, cs⟩ := z
  have f2 := rh2 fa _ e4
  refine ⟨NdefX.fnAt_of I2 f2.1, ?_⟩
  show wpAny _ _ (call (.ref fa) us) _ _ _
  obtain ⟨vws, C, rw0⟩ := cl.ex
  have rw2 : Reps X.K H2 ws vws := rw0.frz fun b o u q => I2.base.frzs b o u q
  have lt := hl _ _ cs.1
  rw [List.length_append] at lt
  have l1 := C.len
  have l2 := rw0.length
  rw [List.length_map] at l1
  exact run_made (Fn.ok fa) hr hk I2 f2.1 f2.2 (cells_later cl.no C I2) r ⟨ts, ws, μ2, vws, rfl, by omega, r2, rw2, rh2, cs.1, cs.2⟩
/-- the callee, what its function argument captured being known -/
theorem run_fnS {pins : List (Addr × Obj)} {σ : L2.St} {H : Hp} {s : Shared} {Q : VK} {us : List Value} {vs : List V} {k : Nat} {f : Addr} {fd : FuncData} {ps fr : List Str} {sp : NF → List (Option V) → Sp} {G : NF} {ws : List (Option V)}
    (Fs : FnOkS X.prog X.w X.K X.mg X.base k f fd ps fr sp) (hr : Room k X.A) (hb : Binds X.K fd ps []) (I : Inv X pins σ H s) (r : Vals vs us) (C : CellsAt G.cl fr ws s.heap H) (h : sp G ws vs H Q E0) : wpAny (model X.prog X.w) X.A (call (.ref f) us) (EP X pins σ Q) X.xe s := by
  have hl : (us ++ []).length = ps.length := by rw [List.append_nil, ← r.length]; exact Fs.len _ _ _ _ _ _ h
  have bd := hb s us I.kIn hl
  rw [List.append_nil] at bd
  have go := Fs.run X.A X.stack s H ⟨us, []⟩ us vs G ws Q E0 hr I.env0 bd r C h
  refine wpAny_call (codeAny_mono go ?_)
  intro res s' hq
  match res, hq with
  | .ok (.ret u), hq => exact I.after hq
/-- f(.., g), g made here -/
theorem j_callC {g : F} {k n : Nat} {js : List Nat} {cl : List (Str × Addr)} {fr : List Str} {mk : Addr → NF} {M : NF → Prop} (fn : KnS X.prog X.w X.K X.mg X.base Tb k x n fr M (Φ g)) (hl : ∀ ts μ, (Φ g).pre ts μ → ts.length = n + js.length) (hM : ∀ c, M (mk c)) (hcl : ∀ c, (mk c).cl = cl) (cp : X.Ok → Caps X cl fr js)
    (hr : Room k X.A) (hg : Gl X x) (ha : JA Tb X Φ (pe :: pes) es) (hdb : (x == ("__debug__" : Str)) = false := by decide) (he : starEach (pe :: pes) X.env = (false, eval pe X.env) :: starEach pes X.env := by rfl) (hpl : (backTo pos (starEach pes X.env)).any (·.1) = false := by rfl) :
    JE Tb X Φ (.Call (.Name x p1) (pe :: pes) [] pos) (.callC g es js mk) := by
  obtain ⟨fa, fd, ps, hn, Fs, hm, hk, hb⟩ := fn.ex
  refine ⟨fun pins s σ H Q I ⟨τ, μ, rs, rh, h⟩ => ?_⟩
  unfold wE at h
  have la : LA X.K Tb (wEs Φ es) σ H fun vs H2 => ∃ ts μ2 us c ga ws, Reps X.K H2 ts vs ∧ RepS X.K H2 τ σ ∧ RepH X.K Tb H2 μ2 ∧ ts = us ++ [.ref ga] ∧ μ2 ga = some (.fn (mk c)) ∧ js.map (fun j => τ[j]?) = ws.map (fun w => some (some w)) ∧ callS Φ g (ts ++ ws) μ2 (QE X.K Tb H2 Q) :=
    LA.bind (wEs_mono es) rs rh h fun ts μ2 vs H2 q k2 r2 rs2 rh2 => by
      obtain ⟨us, ga, c, ws, q1, q2, q3, q4⟩ := q
      exact ⟨ts, μ2, us, c, ga, ws, r2, rs2, rh2, q1, q2, q3, q4.1, fun t μ' p => QE.mono k2 (q4.2 t μ' p)⟩
  refine wpAny_Call_Name_kw (ld_glob I hg hm ?_ hdb)
  refine PySem.W.callWith_K (h₀ := X.base) I.ok.mod.kin hk (thn (ha.run pos pins s σ H _ I la) fun us s1 z => ?_) he hpl
  obtain ⟨vs, H1, I1, r, ts, μ2, us', c, ga, ws, r2, rs2, rh2, e1, e2, e3, cs⟩ := z
  refine ⟨I1.kIn, ?_⟩
  show wpAny _ _ (call (.ref fa) us) _ _ _
  have slots : ∀ (js : List Nat) (ws : List T), js.map (fun j => τ[j]?) = ws.map (fun w => some (some w)) → ∃ vws, js.map (slotAt σ) = vws.map some ∧ Reps X.K H1 ws vws := by
    intro js
    induction js with
    | nil =>
      intro ws e
      cases ws with
      | nil => exact ⟨[], rfl, Reps.nil⟩
      | cons w r => cases e
    | cons j js ih =>
      intro ws e
      cases ws with
      | nil => cases e
      | cons w r =>
        simp only [List.map_cons, List.cons.injEq] at e
        obtain ⟨v, e4, rv⟩ := rs2.2 _ _ e.1
        obtain ⟨vr, e5, rr⟩ := ih r e.2
        exact ⟨v :: vr, by rw [List.map_cons, List.map_cons, NdefX.slotAt_of e4, e5], Reps.cons rv rr⟩
  obtain ⟨vws, e4, rw1⟩ := slots js ws e3
  have C := NdefX.cells_of I1 (cp I1.ok)
  rw [e4] at C
  have lw : js.length = ws.length := by simpa using congrArg List.length e3
  have lt := hl _ _ cs.1
  rw [List.length_append] at lt
  refine run_fnS (G := mk c) (ws := vws.map some) Fs hr hb I1 r (by rw [hcl c]; exact C) ⟨hM c, ts, ws, μ2, vws, ga, rfl, by omega, by rw [e1]; simp, e2, r2, rw1, rh2, cs.1, cs.2⟩
/-- f(.., g), g handed on -/
theorem j_callH {g : F} {k n : Nat} {ws : List T} {G : NF} {fr : List Str} {M : NF → Prop} (fn : KnS X.prog X.w X.K X.mg X.base Tb k x n fr M (Φ g)) (hl : ∀ ts μ, (Φ g).pre ts μ → ts.length = n + fr.length) (hM : M G) (cl : Clo X fr G ws)
    (hr : Room k X.A) (hg : Gl X x) (ha : JA Tb X Φ (pe :: pes) es) (hdb : (x == ("__debug__" : Str)) = false := by decide) (he : starEach (pe :: pes) X.env = (false, eval pe X.env) :: starEach pes X.env := by rfl) (hpl : (backTo pos (starEach pes X.env)).any (·.1) = false := by rfl) :
    JE Tb X Φ (.Call (.Name x p1) (pe :: pes) [] pos) (.callH g es ws G) := by
  obtain ⟨fa, fd, ps, hn, Fs, hm, hk, hb⟩ := fn.ex
  refine ⟨fun pins s σ H Q I ⟨τ, μ, rs, rh, h⟩ => ?_⟩
  unfold wE at h
  have la : LA X.K Tb (wEs Φ es) σ H fun vs H2 => ∃ ts μ2 us ga, Reps X.K H2 ts vs ∧ RepH X.K Tb H2 μ2 ∧ ts = us ++ [.ref ga] ∧ μ2 ga = some (.fn G) ∧ callS Φ g (ts ++ ws) μ2 (QE X.K Tb H2 Q) :=
    LA.bind (wEs_mono es) rs rh h fun ts μ2 vs H2 q k2 r2 rs2 rh2 => by
      obtain ⟨us, ga, q1, q2, q4⟩ := q
      exact ⟨ts, μ2, us, ga, r2, rh2, q1, q2, q4.1, fun t μ' p => QE.mono k2 (q4.2 t μ' p)⟩
  refine wpAny_Call_Name_kw (ld_glob I hg hm ?_ hdb)
  refine PySem.W.callWith_K (h₀ := X.base) I.ok.mod.kin hk (thn (ha.run pos pins s σ H _ I la) fun us s1 z => ?_) he hpl
  obtain ⟨vs, H1, I1, r, ts, μ2, us', ga, r2, rh2, e1, e2, cs⟩ := z
  refine ⟨I1.kIn, ?_⟩
  show wpAny _ _ (call (.ref fa) us) _ _ _
  obtain ⟨vws, C, rw0⟩ := cl.ex
  have rw1 : Reps X.K H1 ws vws := rw0.frz fun b o u q => I1.base.frzs b o u q
  have lt := hl _ _ cs.1
  rw [List.length_append] at lt
  have l1 := C.len
  have l2 := rw0.length
  rw [List.length_map] at l1
  exact run_fnS (G := G) (ws := vws.map some) Fs hr hb I1 r (cells_later cl.no C I1) ⟨hM, ts, ws, μ2, vws, ga, rfl, by omega, by rw [e1]; simp, e2, r2, rw1, rh2, cs.1, cs.2⟩
end
end TV

/-! All defs of a text at once, by levels: also defs within defs, and defs to which these are handed. -/
namespace TV
open PySem PySem.Spec PyProof.Rows L2
open NdefX (NF NOk CellsAt Caps slotAt FnO NScope TabsN ncx)
open LamX (ExtN CodeO TabB)

inductive Kind (F : Type) where
  | plain
  /-- its last argument is a def within a def, of the kind g -/
  | takes (g : F)
  /-- a def within a def; fr: what it captures -/
  | nest (fr : List Str)
/-- what a body hangs on: the captured cells of the defs that it makes, the def that is handed to it, what that one captured -/
structure BX where
  cl : List (Str × Addr)
  G : NF
  us : List T
structure LibN (F : Type) where
  nm : F → Str
  qual : F → Str
  st : F → Stmt
  N : F → List Str
  ps : F → List Str
  kd : F → Kind F
  body : F → BX → Ss F
def LibN.fr {F : Type} (L : LibN F) (g : F) : List Str := match L.kd g with
  | .nest fr => fr
  | _ => []
/-- how many captured things stand behind the arguments -/
def LibN.more {F : Type} (L : LibN F) (f : F) : Nat := match L.kd f with
  | .plain => 0
  | .takes g => (L.fr g).length
  | .nest fr => fr.length
def LibN.IsG {F : Type} (L : LibN F) (g : F) (G : NF) : Prop := ∃ cl c, G = NF.of (L.st g) (L.nm g) (L.qual g) cl c

theorem Reps.starts2 {K : PySem.W.Frag} {H : Hp} {ts us : List T} {vs ws : List V} (r : Reps K H ts vs) (q : Reps K H us ws) (N : List Str) : RepS K H (startT N.length (ts ++ us)) (NdefX.startF N vs (ws.map some)) := by
  have h := (r.append q).starts N
  have e : L2.start N (vs ++ ws) = NdefX.startF N vs (ws.map some) := by
    unfold L2.start NdefX.startF
    rw [List.map_append, List.length_append, List.length_map, List.append_assoc]
    congr 3
    omega
  rw [e] at h
  exact h
section
variable {F : Type} {P : Program} {w : World} {K : PySem.W.Frag} {mg : Str → Option Value} {base : Heap} {Tb : List NdefX.NTab}
abbrev cxN (L : LibN F) (P : Program) (w : World) (K : PySem.W.Frag) (mg : Str → Option Value) (base : Heap) (f : F) (fa : Addr) (cdv : Value) (A : Around) (outer : List PySem.Env) (s : Shared) (H : Hp) : Cx :=
  (cxOf CX0 P w K mg base (L.N f) (L.nm f) (defScope (L.st f)) fa cdv A outer s H (fun _ _ _ => False)).nox
abbrev nfOf (L : LibN F) (f : F) (cl : List (Str × Addr)) (c : Addr) : NF := NF.of (L.st f) (L.nm f) (L.qual f) cl c
abbrev cxM (L : LibN F) (P : Program) (w : World) (K : PySem.W.Frag) (mg : Str → Option Value) (base : Heap) (f : F) (cl : List (Str × Addr)) (c : Addr) (fa : Addr) (A : Around) (outer : List PySem.Env) (s : Shared) (H : Hp) : Cx :=
  (ncx CX0 P w K mg base (L.N f) (nfOf L f cl c) fa A outer s H (fun _ _ _ => False)).nox
structure TopN (L : LibN F) (K : PySem.W.Frag) (mg : Str → Option Value) (cv : F → Value) : Prop where
  fn : ∀ f, (∀ fr, L.kd f ≠ .nest fr) → ∃ (fa : Addr) (fd : FuncData), Fun K (L.nm f) (L.nm f) (L.st f) fa fd ∧ fd.code = cv f ∧ mg (L.nm f) = some (.ref fa) ∧ Binds K fd (L.ps f) []
/-- what a def promises at a level -/
def Pr (L : LibN F) (P : Program) (w : World) (K : PySem.W.Frag) (mg : Str → Option Value) (base : Heap) (Tb : List NdefX.NTab) (k : Nat) (Φ : F → Con) (f : F) : Prop := match L.kd f with
  | .plain => Kn P w K mg base Tb k (L.nm f) (L.ps f).length (Φ f)
  | .takes g => KnS P w K mg base Tb k (L.nm f) (L.ps f).length (L.fr g) (L.IsG g) (Φ f)
  | .nest fr => ∀ cl c, KnN P w K mg base Tb k (nfOf L f cl c) (L.ps f) fr (Φ f)
theorem Pr.plain {L : LibN F} {k : Nat} {Φ : F → Con} {f : F} (h : Pr L P w K mg base Tb k Φ f) (e : L.kd f = .plain) : Kn P w K mg base Tb k (L.nm f) (L.ps f).length (Φ f) := by unfold Pr at h; rw [e] at h; exact h
theorem Pr.takes {L : LibN F} {k : Nat} {Φ : F → Con} {f g : F} (h : Pr L P w K mg base Tb k Φ f) (e : L.kd f = .takes g) : KnS P w K mg base Tb k (L.nm f) (L.ps f).length (L.fr g) (L.IsG g) (Φ f) := by unfold Pr at h; rw [e] at h; exact h
theorem Pr.nest {L : LibN F} {k : Nat} {Φ : F → Con} {f : F} {fr : List Str} (h : Pr L P w K mg base Tb k Φ f) (e : L.kd f = .nest fr) (cl : List (Str × Addr)) (c : Addr) : KnN P w K mg base Tb k (nfOf L f cl c) (L.ps f) fr (Φ f) := by unfold Pr at h; rw [e] at h; exact h cl c
theorem Pr.handed {L : LibN F} {k : Nat} {Φ : F → Con} {f : F} {fr : List Str} {G : NF} (h : Pr L P w K mg base Tb k Φ f) (e : L.kd f = .nest fr) (q : L.IsG f G) : KnN P w K mg base Tb k G (L.ps f) fr (Φ f) := by
  obtain ⟨cl, c, rfl⟩ := q
  exact h.nest e cl c
/-- what is to be shown of a text's defs -/
structure Walks (L : LibN F) (P : Program) (w : World) (K : PySem.W.Frag) (mg : Str → Option Value) (base : Heap) (Tb : List NdefX.NTab) (cv : F → Value) (k : Nat) (Φ : F → Con) : Prop where
  p : ∀ (f : F) (fa : Addr) (A : Around) (outer : List PySem.Env) (s : Shared) (H : Hp), L.kd f = .plain → (∀ g, Pr L P w K mg base Tb k Φ g) → Room k (cxN L P w K mg base f fa (cv f) A outer s H).A →
      ∃ bx, JSs Tb (cxN L P w K mg base f fa (cv f) A outer s H) Φ (defBody (L.st f)) (L.body f bx)
  t : ∀ (f g : F) (G : NF) (us : List T) (fa : Addr) (A : Around) (outer : List PySem.Env) (s : Shared) (H : Hp), L.kd f = .takes g → L.IsG g G → (∀ g, Pr L P w K mg base Tb k Φ g) → Room k (cxN L P w K mg base f fa (cv f) A outer s H).A →
      Clo (cxN L P w K mg base f fa (cv f) A outer s H) (L.fr g) G us → JSs Tb (cxN L P w K mg base f fa (cv f) A outer s H) Φ (defBody (L.st f)) (L.body f ⟨[], G, us⟩)
  n : ∀ (f : F) (fr : List Str) (cl : List (Str × Addr)) (c : Addr) (fa : Addr) (A : Around) (outer : List PySem.Env) (s : Shared) (H : Hp), L.kd f = .nest fr → (∀ g, Pr L P w K mg base Tb k Φ g) → Room k (cxM L P w K mg base f cl c fa A outer s H).A →
      ∃ bx, JSs Tb (cxM L P w K mg base f cl c fa A outer s H) Φ (C8.fnBody (L.st f)) (L.body f bx)
structure Vcs (L : LibN F) (Φ Φ' : F → Con) : Prop where
  p : ∀ f bx ts μ, L.kd f = .plain → (Φ' f).pre ts μ → wSs Φ (L.body f bx) (endsOf ((Φ' f).post ts μ)) (startT (L.N f).length ts) μ
  t : ∀ f g G us ts fa μ, L.kd f = .takes g → L.IsG g G → ts.length = (L.ps f).length → ts.getLast? = some (.ref fa) → μ fa = some (.fn G) → (Φ' f).pre (ts ++ us) μ → wSs Φ (L.body f ⟨[], G, us⟩) (endsOf ((Φ' f).post (ts ++ us) μ)) (startT (L.N f).length ts) μ
  n : ∀ f fr bx ts us μ, L.kd f = .nest fr → ts.length = (L.ps f).length → us.length = fr.length → (Φ' f).pre (ts ++ us) μ → wSs Φ (L.body f bx) (endsOf ((Φ' f).post (ts ++ us) μ)) (startT (L.N f).length (ts ++ us)) μ
theorem code_of {x qual : Str} {st : Stmt} {f : Addr} {fd : FuncData} {N ps : List Str} {k : Nat} {sp : Sp} {cv : Value} (F : L2.Fun K x qual st f fd) (hcv : fd.code = cv) (S : FnScope N ps (defScope st)) (len : ∀ vs H Q E, sp vs H Q E → vs.length = ps.length)
    (hbody : ∀ (A : Around) (outer : List PySem.Env) (s : Shared) (H : Hp) (vs : List V) (Q : VK) (E : XK), Room k (A.deeper (envOfC qual (defScope st) s.heap.objs.size f cv)) → sp vs H Q E →
      ∃ t, PSs (cxOf CX0 P w K mg base N qual (defScope st) f cv A outer s H E).nox (defBody st) t ∧ t { nx := fun _ H' => Q .non H', rt := Q } (start N vs) H) : FnOk P w K mg base CX0 (k + 1) f fd ps sp := by
  obtain ⟨oc, od, kV, doc, pm, an, cdv, ct, osl, rfl, lk, hcd⟩ := F.ex
  obtain rfl : cdv = cv := hcv
  refine fn_of lk hcd S len fun A outer s H vs Q E hr hsp => ?_
  obtain ⟨t, h, q⟩ := hbody A outer s H vs Q E hr hsp
  exact ⟨t, h.nox, q⟩
theorem FunS.okC {x qual : Str} {st : Stmt} {f : Addr} {fd : FuncData} {N ps fr : List Str} {k : Nat} {sp : NF → List (Option V) → Sp} {cv : Value} (F : L2.Fun K x qual st f fd) (hcv : fd.code = cv) (S : FnScope N ps (defScope st)) (len : ∀ G ws vs H Q E, sp G ws vs H Q E → vs.length = ps.length)
    (body : ∀ (A : Around) (outer : List PySem.Env) (s : Shared) (H : Hp) (vs : List V) (G : NF) (ws : List (Option V)) (Q : VK) (E : XK), Room k (A.deeper (envOfC qual (defScope st) s.heap.objs.size f cv)) → CellsAt G.cl fr ws s.heap H → sp G ws vs H Q E →
      ∃ t, PSs (cxOf CX0 P w K mg base N qual (defScope st) f cv A outer s H E).nox (defBody st) t ∧ t { nx := fun _ H' => Q .non H', rt := Q } (start N vs) H) : FnOkS P w K mg base (k + 1) f fd ps fr sp := by
  obtain ⟨oc, od, kV, doc, pm, an, cdv, ct, osl, e1, lk, hcd⟩ := F.ex
  subst e1
  obtain rfl : cdv = cv := hcv
  refine ⟨len, ?_⟩
  intro A outer s H args us vs G ws Q E room ent bnd rv cells wish
  have inK : K.In s.heap := ent.mod.kin.keeps fun b o e => (ent.bs b o e).1
  have free := ent.mod.nolimit.keeps fun b o e => (ent.bs b o e).1
  have kinds : ∀ y ∈ ps.zip us, (defScope st).names.lookup y.1 = some .local ∨ ((defScope st).names.lookup y.1 = some .cell ∧ ((cellsFrom (s.heap.objs.size + 1) (defScope st).names []).lookup y.1).isSome = true) := fun y hy =>
    (S.par y.1 (List.of_mem_zip (show (y.1, y.2) ∈ ps.zip us from hy)).1).imp id fun q => ⟨q, PySem.W.cellsFrom_some _ _ _ (.inl q)⟩
  have here := inK _ _ lk
  have rec0 := PySem.W.codeRec_of inK hcd
  refine codeAny_call_function room.depth here rfl S.co S.gen rfl rec0 (bnd _ _ _ _ ?_)
  refine wpAny_newFunctionEnv_cells S.kind kinds fun env he s1 x => ?_
  cases he
  refine ⟨free.keeps x.toInCall.keep, codeAny_func ?_⟩
  obtain ⟨t, ht, hq⟩ := body A outer s H vs G ws Q E (room.deeper _) cells wish
  have inv0 := inv_start (CX := CX0) (E := E) S room.hd ent (len _ _ _ _ _ _ wish) rv x
  refine wpAny_mono ((PSs.nox ht).run [] s1 _ H _ inv0 hq) (fun fl s' hs => ?_) fun _ _ hs => hs
  cases fl
  case ret u =>
    obtain ⟨v, σ', H', J, r', q⟩ := hs
    exact ⟨v, H', J.os, J.bare, J.base, J.hok, r', q⟩
  case next =>
    obtain ⟨σ', H', J, q⟩ := hs
    exact ⟨.non, H', J.os, J.bare, J.base, J.hok, rfl, q⟩
  case brk =>
    obtain ⟨_, _, _, q⟩ := hs
    cases q
  case cont =>
    obtain ⟨_, _, _, q⟩ := hs
    cases q
theorem spN_len {n : Nat} {c : Con} {ws : List (Option V)} {vs : List V} {H : Hp} {Q : VK} {E : XK} (h : spN K Tb n c ws vs H Q E) : vs.length = n := by
  obtain ⟨ts, us, μ, vws, _, e, r, _⟩ := h
  rw [← r.length, e]
theorem spM_len {n : Nat} {c : Con} {M : NF → Prop} {G : NF} {ws : List (Option V)} {vs : List V} {H : Hp} {Q : VK} {E : XK} (h : spM K Tb n c M G ws vs H Q E) : vs.length = n := by
  obtain ⟨_, ts, us, μ, vws, fa, _, e, _, _, r, _⟩ := h
  rw [← r.length, e]
theorem tableN {L : LibN F} {cv : F → Value} (Φ : Nat → F → Con) (h0 : ∀ f ts μ, ¬ (Φ 0 f).pre ts μ) (hlen : ∀ k f ts μ, (Φ k f).pre ts μ → ts.length = (L.ps f).length + L.more f) (T : TopN L K mg cv)
    (S : ∀ f, (∀ fr, L.kd f ≠ .nest fr) → FnScope (L.N f) (L.ps f) (defScope (L.st f))) (SN : ∀ f fr, L.kd f = .nest fr → NScope (L.N f) (L.ps f) fr (C8.fnScope (L.st f)))
    (bN : ∀ f fr, L.kd f = .nest fr → ∀ cl c (doc pm ctv : Value) (us : List Value), us.length = (L.ps f).length → bindArgs ((nfOf L f cl c).fd doc pm ctv) ⟨us, []⟩ = pure ((L.ps f).zip us))
    (W : ∀ k, Walks L P w K mg base Tb cv k (Φ k)) (V : ∀ k, Vcs L (Φ k) (Φ (k + 1))) :
    ∀ k f, Pr L P w K mg base Tb k (Φ k) f := by
  intro k
  induction k with
  | zero =>
    intro f
    unfold Pr
    cases e : L.kd f with
    | plain =>
      obtain ⟨fa, fd, G, _, m, b⟩ := T.fn f (by rw [e]; intro _ z; cases z)
      exact ⟨fa, fd, L.ps f, ⟨fun vs H Q E ⟨ts, μ, _, _, _, p, _⟩ => absurd p (h0 f ts μ), fun A outer s H args us vs Q E _ _ _ _ ⟨ts, μ, _, _, _, p, _⟩ => absurd p (h0 f ts μ)⟩, m, G.kp, b⟩
    | takes g =>
      obtain ⟨fa, fd, G, _, m, b⟩ := T.fn f (by rw [e]; intro _ z; cases z)
      exact ⟨fa, fd, L.ps f, rfl, ⟨fun G ws vs H Q E h => spM_len h, fun A outer s H args us vs G ws Q E _ _ _ _ _ ⟨_, ts, us', μ, _, _, _, _, _, _, _, _, _, p, _⟩ => absurd p (h0 f _ μ)⟩, m, G.kp, b⟩
    | nest fr =>
      intro cl c
      exact ⟨fun fa => ⟨fun ws vs H Q E h => spN_len h, fun A outer s H us vs ws Q E _ _ _ _ _ _ ⟨ts, us', μ, _, _, _, _, _, _, p, _⟩ => absurd p (h0 f _ μ)⟩⟩
  | succ k ih =>
    intro f
    unfold Pr
    cases e : L.kd f with
    | plain =>
      have nn : ∀ fr, L.kd f ≠ .nest fr := by rw [e]; intro _ z; cases z
      obtain ⟨fa, fd, G, hc, m, b⟩ := T.fn f nn
      refine ⟨fa, fd, L.ps f, code_of G hc (S f nn) (fun vs H Q E ⟨ts, μ, e, r, _⟩ => by rw [← r.length, e]) fun A outer s H vs Q E hr h => ?_, m, G.kp, b⟩
      obtain ⟨ts, μ, el, r, rh, p, q⟩ := h
      obtain ⟨bx, wk⟩ := (W k).p f fa A outer s H e ih hr
      refine ⟨_, wk, startT (L.N f).length ts, μ, r.starts _, rh, ?_⟩
      refine wSs_mono (L.body f bx) _ _ _ _ ?_ ((V k).p f bx ts μ e p)
      exact ⟨fun τ μ' p σ' H' k rs rh' => q _ _ p _ _ k rfl rh', fun t μ' p => q _ _ p, fun _ _ z => z.elim, fun _ _ z => z.elim⟩
    | takes g =>
      have nn : ∀ fr, L.kd f ≠ .nest fr := by rw [e]; intro _ z; cases z
      obtain ⟨fa, fd, G, hc, m, b⟩ := T.fn f nn
      refine ⟨fa, fd, L.ps f, rfl, FunS.okC G hc (S f nn) (fun G ws vs H Q E h => spM_len h) fun A outer s H vs G ws Q E hr C h => ?_, m, G.kp, b⟩
      obtain ⟨hM, ts, us, μ, vws, ga, rfl, el, hl, hg, r, ru, rh, p, q⟩ := h
      have wk := (W k).t f g G us fa A outer s H e hM ih hr ⟨rfl, vws, C, ru⟩
      refine ⟨_, wk, startT (L.N f).length ts, μ, r.starts _, rh, ?_⟩
      refine wSs_mono (L.body f ⟨[], G, us⟩) _ _ _ _ ?_ ((V k).t f g G us ts ga μ e hM el hl hg p)
      exact ⟨fun τ μ' p σ' H' k rs rh' => q _ _ p _ _ k rfl rh', fun t μ' p => q _ _ p, fun _ _ z => z.elim, fun _ _ z => z.elim⟩
    | nest fr =>
      intro cl c
      refine ⟨fun fa => NdefX.nok_of (N := L.N f) (SN f fr e) (bN f fr e cl c) (fun ws vs H Q E h => spN_len h) fun A outer s H vs ws Q E hr hf hc hw h => ?_⟩
      obtain ⟨ts, us, μ, vws, rfl, el, r, ru, rh, p, q⟩ := h
      obtain ⟨bx, wk⟩ := (W k).n f fr cl c fa A outer s H e ih hr
      rw [List.length_map] at hw
      refine ⟨_, PSs.nox wk, startT (L.N f).length (ts ++ us), μ, r.starts2 ru _, rh, ?_⟩
      refine wSs_mono (L.body f bx) _ _ _ _ ?_ ((V k).n f fr bx ts us μ e el (by rw [ru.length, hw]) p)
      exact ⟨fun τ μ' p σ' H' k rs rh' => q _ _ p _ _ k rfl rh', fun t μ' p => q _ _ p, fun _ _ z => z.elim, fun _ _ z => z.elim⟩
end
end TV

/-! the end: one def of the top, by the walks and the promises of all below it -/
namespace TV
open PySem PySem.Spec PyProof.Rows L2
open NdefX (NF NOk CellsAt Caps slotAt FnO NScope TabsN ncx)
open LamX (ExtN CodeO TabB)
section
variable {F : Type} {P : Program} {w : World} {K : PySem.W.Frag} {mg : Str → Option Value} {base : Heap} {Tb : List NdefX.NTab}
theorem top_ok {L : LibN F} {cv : F → Value} {Φ Φ' : F → Con} {k : Nat} {f : F} {fa : Addr} {fd : FuncData} (e : L.kd f = .plain) (G : L2.Fun K (L.nm f) (L.nm f) (L.st f) fa fd) (hc : fd.code = cv f) (S : FnScope (L.N f) (L.ps f) (defScope (L.st f)))
    (ih : ∀ g, Pr L P w K mg base Tb k Φ g) (W : Walks L P w K mg base Tb cv k Φ) (V : Vcs L Φ Φ') : FnOk P w K mg base CX0 (k + 1) fa fd (L.ps f) (spOf K Tb (L.ps f).length (Φ' f)) := by
  refine code_of G hc S (fun vs H Q E ⟨ts, μ, e, r, _⟩ => by rw [← r.length, e]) fun A outer s H vs Q E hr h => ?_
  obtain ⟨ts, μ, el, r, rh, p, q⟩ := h
  obtain ⟨bx, wk⟩ := W.p f fa A outer s H e ih hr
  refine ⟨_, wk, startT (L.N f).length ts, μ, r.starts _, rh, ?_⟩
  refine wSs_mono (L.body f bx) _ _ _ _ ?_ (V.p f bx ts μ e p)
  exact ⟨fun τ μ' p σ' H' k rs rh' => q _ _ p _ _ k rfl rh', fun t μ' p => q _ _ p, fun _ _ z => z.elim, fun _ _ z => z.elim⟩
/-- what the top left of a def, with its code -/
structure FDc (K : PySem.W.Frag) (x : Str) (st : Stmt) (cd : Value) : Prop where
  ex : ∃ (f : Addr) (oc : Value) (od an : Option Addr) (sl : Array (Option Value)) (kV dc pm ct : Value), PySem.W.nsIn K mainGlobals x = some (some (.ref f)) ∧ K.lookup f = some ⟨oc, od, .func (PySem.W.fnOf x x (L2.defArgs st) (L2.defBody st) (L2.defScope st) .none kV dc pm an cd ct), sl⟩ ∧ PySem.W.codeIn K cd x = true ∧ PySem.W.keepIn K (.ref f) = true
theorem FDc.mk2 {x : Str} {st : Stmt} {f : Addr} {oc : Value} {od an : Option Addr} {sl : Array (Option Value)} {kV dc pm cd ct : Value} (l : K.lookup f = some ⟨oc, od, .func (PySem.W.fnOf x x (L2.defArgs st) (L2.defBody st) (L2.defScope st) .none kV dc pm an cd ct), sl⟩) (a : PySem.W.nsIn K mainGlobals x = some (some (.ref f))) (c : PySem.W.codeIn K cd x = true) (k : PySem.W.keepIn K (.ref f) = true) : FDc K x st cd := ⟨f, oc, od, an, sl, kV, dc, pm, ct, a, l, c, k⟩
theorem FDc.use {h : Heap} (X : K.In h) (G : h.Ns mainGlobals mg) {x : Str} {st : Stmt} {cd : Value} {ps : List Str} (bind : ∀ (kV doc pm : Value) (an : Option Addr) (cdv ct : Value) (us : List Value), us.length = ps.length → bindArgs (PySem.W.fnOf x x (L2.defArgs st) (L2.defBody st) (L2.defScope st) .none kV doc pm an cdv ct) ⟨us, []⟩ = pure (ps.zip us)) (d : FDc K x st cd) :
    ∃ (fa : Addr) (fd : FuncData), L2.Fun K x x st fa fd ∧ fd.code = cd ∧ mg x = some (.ref fa) ∧ L2.Binds K fd ps [] ∧ ∃ (kV dc pm : Value) (an : Option Addr) (cd ct : Value), fd = PySem.W.fnOf x x (L2.defArgs st) (L2.defBody st) (L2.defScope st) .none kV dc pm an cd ct := by
  obtain ⟨fa, oc, od, an, sl, kV, dc, pm, ct, a, l, c, k⟩ := d.ex
  have F := L2.fun_mk (st := st) l c k
  exact ⟨fa, _, F, rfl, PySem.W.mg_of X G a, F.binds bind, kV, dc, pm, an, cd, ct, rfl⟩
theorem ints_reps {H : Hp} : ∀ ns : List Int, Reps K H (ns.map T.int) (ns.map L2.V.int)
  | [] => Reps.nil
  | _ :: is => Reps.cons rfl (ints_reps is)
/-- the script, as the law meets it -/
theorem script_rep {H : Hp} {a : Addr} {ns : List Int} (hS : L2.SqL K H a (ns.map L2.V.int)) (tb : TabsN Tb H) : ∃ (x : T) (μ : Mu), (x = .rol (ns.map T.int) ∨ ∃ r, x = .ref r ∧ μ r = some (.lst (ns.map T.int))) ∧ Reps K H [x] [.ref a] ∧ RepH K Tb H μ := by
  rcases hS with (h | ⟨o, h⟩) | h
  · refine ⟨.ref a, fun b => if b = a then some (.lst (ns.map T.int)) else none, .inr ⟨a, rfl, if_pos rfl⟩, Reps.cons rfl Reps.nil, ⟨fun b o e => ?_, tb⟩⟩
    by_cases hb : b = a
    · subst hb
      simp at e
      subst e
      exact ⟨_, h, ints_reps ns⟩
    · simp [hb] at e
  · exact ⟨.rol (ns.map T.int), fun _ => none, .inl rfl, Reps.cons ⟨a, _, rfl, .inl ⟨o, h⟩, ints_reps ns⟩ Reps.nil, ⟨(fun b o e => by cases e), tb⟩⟩
  · exact ⟨.rol (ns.map T.int), fun _ => none, .inl rfl, Reps.cons ⟨a, _, rfl, .inr h, ints_reps ns⟩ Reps.nil, ⟨(fun b o e => by cases e), tb⟩⟩
end
end TV

/-! Steps by which a wish is shown, one construct at a time. -/
namespace TV
open PySem PySem.Spec
open L2 (ixN atI Key)
section
variable {F : Type} {Φ : F → TV.Con} {τ : TV.Env} {μ : Mu} {Q : PQ} {R : Bool → Mu → Prop} {RA : List T → Mu → Prop} {a b c e f o : E F} {es : Es F}
theorem w_var {i : Nat} {t : T} (h : τ[i]? = some (some t)) (q : Q t μ) : wE Φ (.var i) τ μ Q := by unfold wE; exact ⟨t, h, q⟩
theorem w_non (q : Q .non μ) : wE Φ .non τ μ Q := by unfold wE; exact q
theorem w_bl {k : Bool} (q : Q (.bl k) μ) : wE Φ (.bl k) τ μ Q := by unfold wE; exact q
theorem w_int {k : Int} (q : Q (.int k) μ) : wE Φ (.int k) τ μ Q := by unfold wE; exact q
theorem w_str {k : Str} (q : Q (.str k) μ) : wE Φ (.str k) τ μ Q := by unfold wE; exact q
theorem w_glob {x : Str} {t : T} (q : Q t μ) : wE Φ (.glob x t) τ μ Q := by unfold wE; exact q
theorem w_tup (q : wEs Φ es τ μ fun ts μ1 => ts.length ≤ sizeLine ∧ Q (.tup ts) μ1) : wE Φ (.tup es) τ μ Q := by unfold wE; exact q
theorem w_lst (q : wEs Φ es τ μ fun ts μ1 => ts.length ≤ sizeLine ∧ ∀ p, μ1 p = none → Q (.ref p) (mset μ1 p (.lst ts))) : wE Φ (.lst es) τ μ Q := by unfold wE; exact q
theorem w_bin {op : Operator} (q : wE Φ a τ μ fun x μ1 => wE Φ b τ μ1 fun y μ2 => binS op x y μ2 Q) : wE Φ (.bin op a b) τ μ Q := by unfold wE; exact q
theorem w_neg (q : wE Φ a τ μ fun x μ1 => ∃ i, x = .int i ∧ Q (.int (-i)) μ1) : wE Φ (.neg a) τ μ Q := by unfold wE; exact q
theorem w_cmp {op : CmpOp} (q : wE Φ a τ μ fun x μ1 => wE Φ b τ μ1 fun y μ2 => cmpS op x y μ2 Q) : wE Φ (.cmp op a b) τ μ Q := by unfold wE; exact q
theorem w_chain {op p : CmpOp} (q : wE Φ a τ μ fun x μ1 => wE Φ b τ μ1 fun y μ2 => cmpS op x y μ2 fun r μ3 => ∃ k, r = .bl k ∧ (if k = true then wE Φ c τ μ3 fun z μ4 => cmpS p y z μ4 Q else Q (.bl false) μ3)) : wE Φ (.chain op p a b c) τ μ Q := by unfold wE; exact q
theorem w_isN (q : wE Φ a τ μ fun x μ1 => Q (.bl (isNon x)) μ1) : wE Φ (.isN a) τ μ Q := by unfold wE; exact q
theorem w_notN (q : wE Φ a τ μ fun x μ1 => Q (.bl (!isNon x)) μ1) : wE Φ (.notN a) τ μ Q := by unfold wE; exact q
theorem w_isi {ty : String} (q : wE Φ a τ μ fun x μ1 => ∃ b, isiS ty x μ1 = some b ∧ Q (.bl b) μ1) : wE Φ (.isi a ty) τ μ Q := by unfold wE; exact q
theorem w_and (q : wAnd Φ es τ μ Q) : wE Φ (.and es) τ μ Q := by unfold wE; exact q
theorem w_or (q : wOr Φ es τ μ Q) : wE Φ (.or es) τ μ Q := by unfold wE; exact q
theorem w_not (q : wE Φ a τ μ fun x μ1 => ∃ k, x = .bl k ∧ Q (.bl (!k)) μ1) : wE Φ (.not a) τ μ Q := by unfold wE; exact q
theorem w_ite (q : wT Φ c τ μ fun k μ1 => if k = true then wE Φ a τ μ1 Q else wE Φ b τ μ1 Q) : wE Φ (.ite c a b) τ μ Q := by unfold wE; exact q
theorem w_ix (q : wE Φ a τ μ fun x μ1 => wE Φ b τ μ1 fun y μ2 => ixS x y μ2 Q) : wE Φ (.ix a b) τ μ Q := by unfold wE; exact q
theorem w_sl {lo hi : Eo F} (q : wE Φ a τ μ fun x μ1 => wEo Φ lo τ μ1 fun l μ2 => wEo Φ hi τ μ2 fun h μ3 => slS x l h μ3 Q) : wE Φ (.sl a lo hi) τ μ Q := by unfold wE; exact q
theorem w_rev (q : wE Φ a τ μ fun x μ1 => revS x μ1 Q) : wE Φ (.rev a) τ μ Q := by unfold wE; exact q
theorem w_call {g : F} (q : wEs Φ es τ μ fun ts μ1 => callS Φ g ts μ1 Q) : wE Φ (.call g es) τ μ Q := by unfold wE; exact q
theorem w_bi {g : Bi} (q : wEs Φ es τ μ fun ts μ1 => biS g ts μ1 Q) : wE Φ (.bi g es) τ μ Q := by unfold wE; exact q
theorem w_me {m : Me} (q : wE Φ o τ μ fun x μ1 => meTy m x μ1 ∧ wEs Φ es τ μ1 fun ts μ2 => meS m x ts μ2 Q) : wE Φ (.me m o es) τ μ Q := by unfold wE; exact q
theorem w_lc {tg : Tg} {sc : Sc F} {cc : Eo F} {own : List Nat} (q : wSc Φ sc τ μ fun its stays μ1 => ∀ D, μ1 D = none → lcL tg (wEc Φ cc) (wE Φ e) stays D (wipeT τ own) (Q (.ref D)) its [] (mset μ1 D (.lst []))) : wE Φ (.lc e tg sc cc own) τ μ Q := by unfold wE; exact q
theorem w_dc {tg : Tg} {sc : Sc F} {cc : Eo F} {own : List Nat} (q : wSc Φ sc τ μ fun its stays μ1 => ∀ D, μ1 D = none → dcL tg (wEc Φ cc) (wE Φ e) (wE Φ f) stays D (wipeT τ own) (Q (.ref D)) its [] (mset μ1 D (.dic []))) : wE Φ (.dc e f tg sc cc own) τ μ Q := by unfold wE; exact q
theorem w_dnew (q : ∀ p, μ p = none → Q (.ref p) (mset μ p (.dic []))) : wE Φ .dnew τ μ Q := by unfold wE; exact q
theorem ws_nil (q : RA [] μ) : wEs Φ .nil τ μ RA := by unfold wEs; exact q
theorem ws_cons (q : wE Φ e τ μ fun t μ1 => wEs Φ es τ μ1 fun ts μ2 => RA (t :: ts) μ2) : wEs Φ (.cons e es) τ μ RA := by unfold wEs; exact q
theorem wo_none {RO : Option Int → Mu → Prop} (q : RO none μ) : wEo Φ .none τ μ RO := by unfold wEo; exact q
theorem wo_some {RO : Option Int → Mu → Prop} (q : wE Φ e τ μ fun t μ1 => ∃ i, t = .int i ∧ RO (some i) μ1) : wEo Φ (.some e) τ μ RO := by unfold wEo; exact q
theorem wc_none (q : R true μ) : wEc Φ .none τ μ R := by unfold wEc; exact q
theorem wc_some (q : wT Φ e τ μ R) : wEc Φ (.some e) τ μ R := by unfold wEc; exact q
theorem wa_one (q : wE Φ e τ μ Q) : wAnd Φ (.cons e .nil) τ μ Q := by unfold wAnd; exact q
theorem wa_cons (q : wE Φ e τ μ fun x μ1 => ∃ k, x = .bl k ∧ (if k = true then wAnd Φ (.cons f es) τ μ1 Q else Q (.bl false) μ1)) : wAnd Φ (.cons e (.cons f es)) τ μ Q := by unfold wAnd; exact q
theorem wr_one (q : wE Φ e τ μ Q) : wOr Φ (.cons e .nil) τ μ Q := by unfold wOr; exact q
theorem wr_cons (q : wE Φ e τ μ fun x μ1 => ∃ k, x = .bl k ∧ (if k = true then Q (.bl true) μ1 else wOr Φ (.cons f es) τ μ1 Q)) : wOr Φ (.cons e (.cons f es)) τ μ Q := by unfold wOr; exact q
theorem t_and (q : wTAnd Φ es τ μ R) : wT Φ (.and es) τ μ R := by unfold wT; exact q
theorem t_or (q : wTOr Φ es τ μ R) : wT Φ (.or es) τ μ R := by unfold wT; exact q
theorem t_not (q : wT Φ a τ μ fun k μ1 => R (!k) μ1) : wT Φ (.not a) τ μ R := by unfold wT; exact q
theorem t_cmp {op : CmpOp} (q : wE Φ a τ μ fun x μ1 => wE Φ b τ μ1 fun y μ2 => cmpS op x y μ2 fun r μ3 => ∃ k, r = .bl k ∧ R k μ3) : wT Φ (.cmp op a b) τ μ R := by unfold wT; exact q
theorem t_chain {op p : CmpOp} (q : wE Φ a τ μ fun x μ1 => wE Φ b τ μ1 fun y μ2 => cmpS op x y μ2 fun r μ3 => ∃ k, r = .bl k ∧ (if k = true then wE Φ c τ μ3 fun z μ4 => cmpS p y z μ4 fun r' μ5 => ∃ k', r' = .bl k' ∧ R k' μ5 else R false μ3)) : wT Φ (.chain op p a b c) τ μ R := by unfold wT; exact q
theorem t_isN (q : wE Φ a τ μ fun x μ1 => R (isNon x) μ1) : wT Φ (.isN a) τ μ R := by unfold wT; exact q
theorem t_notN (q : wE Φ a τ μ fun x μ1 => R (!isNon x) μ1) : wT Φ (.notN a) τ μ R := by unfold wT; exact q
theorem t_isi {ty : String} (q : wE Φ a τ μ fun x μ1 => ∃ b, isiS ty x μ1 = some b ∧ R b μ1) : wT Φ (.isi a ty) τ μ R := by unfold wT; exact q
theorem t_var {i : Nat} {t : T} (h : τ[i]? = some (some t)) (q : ∃ k, truthS t μ = some k ∧ R k μ) : wT Φ (.var i) τ μ R := by unfold wT; exact ⟨t, h, q⟩
theorem t_ix (q : wE Φ a τ μ fun x μ1 => wE Φ b τ μ1 fun y μ2 => ixS x y μ2 fun t μ3 => ∃ k, truthS t μ3 = some k ∧ R k μ3) : wT Φ (.ix a b) τ μ R := by unfold wT; exact q
theorem t_call {g : F} (q : wEs Φ es τ μ fun ts μ1 => callS Φ g ts μ1 fun t μ2 => ∃ k, truthS t μ2 = some k ∧ R k μ2) : wT Φ (.call g es) τ μ R := by unfold wT; exact q
theorem t_bi {g : Bi} (q : wEs Φ es τ μ fun ts μ1 => biS g ts μ1 fun t μ2 => ∃ k, truthS t μ2 = some k ∧ R k μ2) : wT Φ (.bi g es) τ μ R := by unfold wT; exact q
theorem ta_one (q : wT Φ e τ μ R) : wTAnd Φ (.cons e .nil) τ μ R := by unfold wTAnd; exact q
theorem ta_cons (q : wT Φ e τ μ fun k μ1 => if k = true then wTAnd Φ (.cons f es) τ μ1 R else R false μ1) : wTAnd Φ (.cons e (.cons f es)) τ μ R := by unfold wTAnd; exact q
theorem to_one (q : wT Φ e τ μ R) : wTOr Φ (.cons e .nil) τ μ R := by unfold wTOr; exact q
theorem to_cons (q : wT Φ e τ μ fun k μ1 => if k = true then R true μ1 else wTOr Φ (.cons f es) τ μ1 R) : wTOr Φ (.cons e (.cons f es)) τ μ R := by unfold wTOr; exact q
variable {G : List T → (Mu → Prop) → Mu → Prop}
theorem sc_val (q : wE Φ e τ μ fun t μ1 => match t with
    | .tup l => G l (fun _ => True) μ1
    | .rol l => G l (fun _ => True) μ1
    | .str x => G (x.cps.toList.map fun c => .str ⟨#[c]⟩) (fun _ => True) μ1
    | .ref a => ∃ l, μ1 a = some (.lst l) ∧ G l (fun μ => μ a = some (.lst l)) μ1
    | _ => False) : wSc Φ (.val e) τ μ G := by unfold wSc; exact q
theorem sc_rng1 (q : wE Φ e τ μ fun t μ1 => ∃ j, t = .int j ∧ lim62 j ∧ G ((List.range j.toNat).map fun (n : Nat) => .int (n : Int)) (fun _ => True) μ1) : wSc Φ (.rng1 e) τ μ G := by unfold wSc; exact q
theorem sc_enum (q : wE Φ e τ μ fun t μ1 => match t with
    | .tup l => G (l.zipIdx.map fun p => .tup [.int (p.2 : Nat), p.1]) (fun _ => True) μ1
    | .ref a => ∃ l, μ1 a = some (.lst l) ∧ G (l.zipIdx.map fun p => .tup [.int (p.2 : Nat), p.1]) (fun μ => μ a = some (.lst l)) μ1
    | _ => False) : wSc Φ (.enum e) τ μ G := by unfold wSc; exact q
variable {D : En} {ss ss' : Ss F} {s : S F}
theorem v_nil (q : D.nx τ μ) : wSs Φ .nil D τ μ := by unfold wSs; exact q
theorem v_cons (q : wS Φ s { D with nx := wSs Φ ss D } τ μ) : wSs Φ (.cons s ss) D τ μ := by unfold wSs; exact q
theorem v_ex (q : wE Φ e τ μ fun _ μ1 => D.nx τ μ1) : wS Φ (.ex e) D τ μ := by unfold wS; exact q
theorem v_ret (q : wE Φ e τ μ D.rt) : wS Φ (.ret e) D τ μ := by unfold wS; exact q
theorem v_retN (q : D.rt .non μ) : wS Φ .retN D τ μ := by unfold wS; exact q
theorem v_pass (q : D.nx τ μ) : wS Φ .pass D τ μ := by unfold wS; exact q
theorem v_brk (q : D.bk τ μ) : wS Φ .brk D τ μ := by unfold wS; exact q
theorem v_cont (q : D.ct τ μ) : wS Φ .cont D τ μ := by unfold wS; exact q
theorem v_set {i : Nat} (q : wE Φ e τ μ fun t μ1 => D.nx (τ.set i (some t)) μ1) : wS Φ (.set i e) D τ μ := by unfold wS; exact q
theorem v_unp {gs : List Tg} (q : wE Φ e τ μ fun t μ1 => wUn gs t μ1 τ fun τ' => D.nx τ' μ1) : wS Φ (.unp gs e) D τ μ := by unfold wS; exact q
theorem v_par {is : List Nat} (q : wEs Φ es τ μ fun ts μ1 => ts.length = is.length ∧ D.nx (setsT τ is ts) μ1) : wS Φ (.par is es) D τ μ := by unfold wS; exact q
/-- a store into a list -/
theorem v_subL {i : E F} (q : wE Φ e τ μ fun t μ1 => wE Φ o τ μ1 fun x μ2 => wE Φ i τ μ2 fun k μ3 => ∃ a l n j, x = .ref a ∧ μ3 a = some (.lst l) ∧ k = .int n ∧ ixN l.length n = some j ∧ D.nx τ (mset μ3 a (.lst (l.set j t)))) : wS Φ (.sub o i e) D τ μ := by
  unfold wS
  exact wE_mono e _ _ _ _ (fun t μ1 q => wE_mono o _ _ _ _ (fun x μ2 q => wE_mono i _ _ _ _ (fun k μ3 ⟨a, l, n, j, e1, e2, e3, e4, q⟩ => ⟨a, e1, .inl ⟨l, n, j, e2, e3, e4, q⟩⟩) q) q) q
theorem v_subD {i : E F} (q : wE Φ e τ μ fun t μ1 => wE Φ o τ μ1 fun x μ2 => wE Φ i τ μ2 fun k μ3 => ∃ a kvs key, x = .ref a ∧ μ3 a = some (.dic kvs) ∧ keyOf k = some key ∧ kvs.length < 1000000 ∧ D.nx τ (mset μ3 a (.dic (putT kvs key t)))) : wS Φ (.sub o i e) D τ μ := by
  unfold wS
  exact wE_mono e _ _ _ _ (fun t μ1 q => wE_mono o _ _ _ _ (fun x μ2 q => wE_mono i _ _ _ _ (fun k μ3 ⟨a, kvs, key, e1, e2, e3, e4, q⟩ => ⟨a, e1, .inr ⟨kvs, key, e2, e3, e4, q⟩⟩) q) q) q
theorem v_ite (q : wT Φ c τ μ fun k μ1 => if k = true then wSs Φ ss D τ μ1 else wSs Φ ss' D τ μ1) : wS Φ (.ite c ss ss') D τ μ := by unfold wS; exact q
theorem v_whl (q : ∃ n, whileL (wT Φ c) (wSs Φ ss) D n τ μ) : wS Φ (.whl c ss) D τ μ := by unfold wS; exact q
theorem v_for {tg : Tg} {sc : Sc F} (q : wSc Φ sc τ μ fun its stays μ1 => forL tg stays (wSs Φ ss) D its τ μ1) : wS Φ (.for tg sc ss) D τ μ := by unfold wS; exact q
theorem u_tp {gs : List Tg} {l : List T} {Q : TV.Env → Prop} (q : wTgs gs l τ Q) : wUn gs (.tup l) μ τ Q := by
  show wTg (.tp gs) (.tup l) τ Q
  unfold wTg; exact q
theorem u_lst {gs : List Tg} {a : Addr} {l : List T} {Q : TV.Env → Prop} (e : μ a = some (.lst l)) (q : wTgs gs l τ Q) : wUn gs (.ref a) μ τ Q := ⟨l, e, q⟩
theorem g_nm {i : Nat} {t : T} {Q : TV.Env → Prop} (q : Q (τ.set i (some t))) : wTg (.nm i) t τ Q := by unfold wTg; exact q
theorem g_tp {gs : List Tg} {l : List T} {Q : TV.Env → Prop} (q : wTgs gs l τ Q) : wTg (.tp gs) (.tup l) τ Q := by unfold wTg; exact q
theorem g_nil {Q : TV.Env → Prop} (q : Q τ) : wTgs [] [] τ Q := by unfold wTgs; exact ⟨rfl, q⟩
theorem g_cons {g : Tg} {gs : List Tg} {x : T} {r : List T} {Q : TV.Env → Prop} (q : wTg g x τ fun τ' => wTgs gs r τ' Q) : wTgs (g :: gs) (x :: r) τ Q := by unfold wTgs; exact q
end
theorem ex_some {α : Type} {o : Option α} {a : α} {P : α → Prop} (h : o = some a) (q : P a) : ∃ b, o = some b ∧ P b := ⟨a, h, q⟩
theorem ex_bl {k : Bool} {P : Bool → Prop} (q : P k) : ∃ b, T.bl k = T.bl b ∧ P b := ⟨k, rfl, q⟩
theorem ex_int {k : Int} {P : Int → Prop} (q : P k) : ∃ b, T.int k = T.int b ∧ P b := ⟨k, rfl, q⟩
/-! ### values -/
section
variable {μ : Mu} {Q : PQ}
theorem ite_t {A B : Prop} (q : A) : if true = true then A else B := by rw [if_pos rfl]; exact q
theorem ite_f {A B : Prop} (q : B) : if false = true then A else B := by rw [if_neg Bool.false_ne_true]; exact q
theorem ite_tt {k : Bool} {A B : Prop} (h : k = true) (q : A) : if k = true then A else B := by rw [if_pos h]; exact q
theorem ite_ff {k : Bool} {A B : Prop} (h : k = false) (q : B) : if k = true then A else B := by rw [if_neg (by rw [h]; exact Bool.false_ne_true)]; exact q
theorem ite_b {k : Bool} {A B : Prop} (h : k = true → A) (h' : k = false → B) : if k = true then A else B := by
  cases k with
  | true => rw [if_pos rfl]; exact h rfl
  | false => rw [if_neg Bool.false_ne_true]; exact h' rfl
theorem x_tup {l : List T} {k : Int} {t : T} (h : atI l k = some t) (q : Q t μ) : ixS (.tup l) (.int k) μ Q := .inl ⟨l, k, t, rfl, rfl, h, q⟩
theorem x_lst {a : Addr} {l : List T} {k : Int} {t : T} (e : μ a = some (.lst l)) (h : atI l k = some t) (q : Q t μ) : ixS (.ref a) (.int k) μ Q := .inl ⟨l, k, t, by unfold itemsOf; simp [e], rfl, h, q⟩
theorem x_rol {l : List T} {k : Int} {t : T} (h : atI l k = some t) (q : Q t μ) : ixS (.rol l) (.int k) μ Q := .inl ⟨l, k, t, rfl, rfl, h, q⟩
theorem x_str {z : Str} {k : Int} {c : Nat} (h : atI z.cps.toList k = some c) (q : Q (.str ⟨#[c]⟩) μ) : ixS (.str z) (.int k) μ Q := .inr (.inl ⟨z, k, c, rfl, rfl, h, q⟩)
theorem c_eq {x y : T} (h : EqOk x y) (q : Q (.bl (peq x y)) μ) : cmpS .Eq x y μ Q := ⟨h, q⟩
theorem c_ne {x y : T} (h : EqOk x y) (q : Q (.bl (!peq x y)) μ) : cmpS .NotEq x y μ Q := ⟨h, q⟩
theorem c_eqI {i j : Int} (q : Q (.bl (i == j)) μ) : cmpS .Eq (.int i) (.int j) μ Q := ⟨⟨rfl, rfl, .inl (Nat.zero_le _)⟩, q⟩
theorem c_neI {i j : Int} (q : Q (.bl (!(i == j))) μ) : cmpS .NotEq (.int i) (.int j) μ Q := ⟨⟨rfl, rfl, .inl (Nat.zero_le _)⟩, q⟩
theorem c_eqX {i j : Str} (q : Q (.bl (i == j)) μ) : cmpS .Eq (.str i) (.str j) μ Q := ⟨⟨rfl, rfl, .inl (Nat.zero_le _)⟩, q⟩
theorem c_neX {i j : Str} (q : Q (.bl (!(i == j))) μ) : cmpS .NotEq (.str i) (.str j) μ Q := ⟨⟨rfl, rfl, .inl (Nat.zero_le _)⟩, q⟩
theorem c_lt {i j : Int} (q : Q (.bl (decide (i < j))) μ) : cmpS .Lt (.int i) (.int j) μ Q := ⟨i, j, rfl, rfl, q⟩
theorem c_le {i j : Int} (q : Q (.bl (decide (i ≤ j))) μ) : cmpS .LtE (.int i) (.int j) μ Q := ⟨i, j, rfl, rfl, q⟩
theorem c_gt {i j : Int} (q : Q (.bl (decide (j < i))) μ) : cmpS .Gt (.int i) (.int j) μ Q := ⟨i, j, rfl, rfl, q⟩
theorem c_ge {i j : Int} (q : Q (.bl (decide (j ≤ i))) μ) : cmpS .GtE (.int i) (.int j) μ Q := ⟨i, j, rfl, rfl, q⟩
theorem o_add {i j : Int} (q : Q (.int (i + j)) μ) : binS .Add (.int i) (.int j) μ Q := q
theorem o_addT {i j : List T} (h : i.length + j.length ≤ sizeLine) (q : Q (.tup (i ++ j)) μ) : binS .Add (.tup i) (.tup j) μ Q := ⟨h, q⟩
theorem o_addS {i j : Str} (h : i.length + j.length ≤ sizeLine) (q : Q (.str (i ++ j)) μ) : binS .Add (.str i) (.str j) μ Q := ⟨h, q⟩
theorem o_addL {a b : Addr} {xs ys : List T} (e1 : μ a = some (.lst xs)) (e2 : μ b = some (.lst ys)) (h : xs.length + ys.length ≤ sizeLine) (q : ∀ p, μ p = none → Q (.ref p) (mset μ p (.lst (xs ++ ys)))) : binS .Add (.ref a) (.ref b) μ Q := ⟨xs, ys, e1, e2, h, q⟩
theorem o_sub {i j : Int} (q : Q (.int (i - j)) μ) : binS .Sub (.int i) (.int j) μ Q := ⟨i, j, rfl, rfl, q⟩
theorem o_mul {i j : Int} (h : L2.CMul i j) (q : Q (.int (i * j)) μ) : binS .Mult (.int i) (.int j) μ Q := ⟨h, q⟩
theorem o_div {i j : Int} (h : 0 < j) (h2 : j < 1073741824) (q : Q (.int (i / j)) μ) : binS .FloorDiv (.int i) (.int j) μ Q := ⟨i, j, rfl, rfl, ⟨h, h2⟩, q⟩
theorem o_mod {i j : Int} (h : 0 < j) (q : Q (.int (i % j)) μ) : binS .Mod (.int i) (.int j) μ Q := ⟨i, j, rfl, rfl, h, q⟩
theorem o_pow {i j : Int} (h : L2.CPow i j) (q : Q (.int (i ^ j.toNat)) μ) : binS .Pow (.int i) (.int j) μ Q := ⟨i, j, rfl, rfl, h, q⟩
theorem b_len {x : T} {n : Nat} (h : lenS x μ = some n) (q : Q (.int n) μ) : biS .len [x] μ Q := ⟨n, h, q⟩
theorem b_int {i : Int} (q : Q (.int i) μ) : biS .int [.int i] μ Q := q
theorem b_intB {i : Bool} (q : Q (.int (if i then 1 else 0)) μ) : biS .int [.bl i] μ Q := q
theorem b_max {i j : Int} (q : Q (.int (if j > i then j else i)) μ) : biS .max2 [.int i, .int j] μ Q := q
theorem b_min {i j : Int} (q : Q (.int (if j < i then j else i)) μ) : biS .min2 [.int i, .int j] μ Q := q
theorem b_tuple {x : T} {l : List T} (h : itemsOf μ x = some l) (q : Q (.tup l) μ) : biS .tuple [x] μ Q := ⟨l, h, q⟩
theorem b_list {x : T} {l : List T} (h : itemsOf μ x = some l) (q : ∀ p, μ p = none → Q (.ref p) (mset μ p (.lst l))) : biS .list [x] μ Q := ⟨l, h, q⟩
theorem b_all {a : Addr} {l : List T} {bs : List Bool} (h : μ a = some (.lst l)) (h2 : blsOf l = some bs) (q : Q (.bl (bs.all id)) μ) : biS .all [.ref a] μ Q := ⟨l, bs, h, h2, q⟩
theorem b_any {a : Addr} {l : List T} {bs : List Bool} (h : μ a = some (.lst l)) (h2 : blsOf l = some bs) (q : Q (.bl (bs.any id)) μ) : biS .any [.ref a] μ Q := ⟨l, bs, h, h2, q⟩
theorem items_lst {a : Addr} {l : List T} (e : μ a = some (.lst l)) : itemsOf μ (.ref a) = some l := by unfold itemsOf; simp [e]
theorem len_lst {a : Addr} {l : List T} (e : μ a = some (.lst l)) : lenS (.ref a) μ = some l.length := by unfold lenS; simp [e]
theorem len_dic {a : Addr} {l : List (Key × T)} (e : μ a = some (.dic l)) : lenS (.ref a) μ = some l.length := by unfold lenS; simp [e]
theorem tru_lst {a : Addr} {l : List T} (e : μ a = some (.lst l)) : truthS (.ref a) μ = some (!l.isEmpty) := by unfold truthS; simp [e]
theorem m_append {a : Addr} {l : List T} {x : T} (e : μ a = some (.lst l)) (h : l.length < sizeLine) (q : Q .non (mset μ a (.lst (l ++ [x])))) : meS .append (.ref a) [x] μ Q := ⟨l, e, h, q⟩
theorem m_extend {a : Addr} {l r : List T} {x : T} (e : μ a = some (.lst l)) (h : itemsOf μ x = some r) (hz : l.length + r.length ≤ sizeLine) (q : Q .non (mset μ a (.lst (l ++ r)))) : meS .extend (.ref a) [x] μ Q := ⟨l, r, e, h, hz, q⟩
theorem m_pop {a : Addr} {l : List T} {x : T} (e : μ a = some (.lst (l ++ [x]))) (q : Q x (mset μ a (.lst l))) : meS .pop (.ref a) [] μ Q := ⟨l ++ [x], x, e, by simp, by simpa using q⟩
theorem m_get1 {a : Addr} {kvs : List (Key × T)} {k : T} {key : Key} (e : μ a = some (.dic kvs)) (h : keyOf k = some key) (q : Q ((lookT kvs key).getD .non) μ) : meS .get1 (.ref a) [k] μ Q := ⟨kvs, key, e, h, q⟩
theorem m_get2 {a : Addr} {kvs : List (Key × T)} {k d : T} {key : Key} (e : μ a = some (.dic kvs)) (h : keyOf k = some key) (q : Q ((lookT kvs key).getD d) μ) : meS .get2 (.ref a) [k, d] μ Q := ⟨kvs, key, e, h, q⟩
theorem eqok_left {x y : T} (h1 : x.pure = true) (h2 : y.pure = true) (h : x.depth ≤ 150) : EqOk x y := ⟨h1, h2, .inl h⟩
theorem eqok_right {x y : T} (h1 : x.pure = true) (h2 : y.pure = true) (h : y.depth ≤ 150) : EqOk x y := ⟨h1, h2, .inr h⟩
end

/-- a block without its first n statements -/
def Ss.drop {F : Type} : Nat → Ss F → Ss F
  | 0, ss => ss
  | _ + 1, .nil => .nil
  | n + 1, .cons _ ss => Ss.drop n ss
theorem v_step {F : Type} {Φ : F → TV.Con} {D : En} {ss rest : Ss F} {st : S F} {τ : TV.Env} {μ : Mu} (h : ss = .cons st rest) (q : wS Φ st { D with nx := wSs Φ (Ss.drop 1 ss) D } τ μ) : wSs Φ ss D τ μ := by
  subst h
  exact v_cons q
end TV

/-! Loops and comprehensions by invariants; what a call leaves as it was. -/
namespace TV
open PySem PySem.Spec
open L2 (ixN atI Key)

/-- what stands outside A stands on -/
def ExtX (A : Addr → Prop) (μ μ' : Mu) : Prop := ∀ b o, ¬ A b → μ b = some o → μ' b = some o
abbrev NoA : Addr → Prop := fun _ => False
abbrev Ext (μ μ' : Mu) : Prop := ExtX NoA μ μ'
section
variable {A B : Addr → Prop} {μ μ1 μ2 : Mu} {a : Addr} {o o' : MO}
theorem ExtX.refl : ExtX A μ μ := fun _ _ _ h => h
theorem ExtX.trans (h : ExtX A μ μ1) (k : ExtX A μ1 μ2) : ExtX A μ μ2 := fun b o na e => k b o na (h b o na e)
theorem ExtX.new (h : μ a = none) : ExtX A μ (mset μ a o) := fun b u _ e => by
  rw [mset_ne (fun z => by subst z; rw [h] at e; cases e)]; exact e
theorem ExtX.own (h : A a) : ExtX A μ (mset μ a o) := fun b u nb e => by
  rw [mset_ne (fun z => nb (by subst z; exact h))]; exact e
theorem ExtX.mono (h : ExtX A μ μ1) (s : ∀ b, A b → B b) : ExtX B μ μ1 := fun b o nb e => h b o (fun z => nb (s b z)) e
theorem Ext.any (h : Ext μ μ1) : ExtX A μ μ1 := fun b o _ e => h b o (fun z => z) e
/-- a thing that was not there ahead is written -/
theorem ExtX.later (h : ExtX A μ μ1) (n : μ a = none) : ExtX A μ (mset μ1 a o) := fun b u nb e => by
  rw [mset_ne (fun z => by subst z; rw [n] at e; cases e)]; exact h b u nb e
theorem ExtX.at (h : ExtX A μ μ1) (na : ¬ A a) (e : μ a = some o) : μ1 a = some o := h a o na e
theorem Ext.at (h : Ext μ μ1) (e : μ a = some o) : μ1 a = some o := h a o (fun z => z) e
theorem ne_of_new {b : Addr} (h : μ a = none) (e : μ b = some o) : b ≠ a := fun z => by subst z; rw [h] at e; cases e
end

/-- two lists side by side -/
inductive All2 {α β : Type} (P : α → β → Prop) : List α → List β → Prop
  | nil : All2 P [] []
  | cons {x y xs ys} : P x y → All2 P xs ys → All2 P (x :: xs) (y :: ys)
theorem All2.length {α β : Type} {P : α → β → Prop} {xs : List α} {ys : List β} (h : All2 P xs ys) : xs.length = ys.length := by
  induction h with
  | nil => rfl
  | cons _ _ ih => simp [ih]
theorem All2.imp {α β : Type} {P Q : α → β → Prop} {xs : List α} {ys : List β} (h : All2 P xs ys) (k : ∀ x y, x ∈ xs → P x y → Q x y) : All2 Q xs ys := by
  induction h with
  | nil => exact .nil
  | cons p _ ih => exact .cons (k _ _ (by simp) p) (ih fun x y m q => k x y (by simp [m]) q)
theorem All2.snoc {α β : Type} {P : α → β → Prop} {xs : List α} {ys : List β} {x : α} {y : β} (h : All2 P xs ys) (p : P x y) : All2 P (xs ++ [x]) (ys ++ [y]) := by
  induction h with
  | nil => exact .cons p .nil
  | cons q _ ih => exact .cons q ih

section
variable {tg : Tg} {c : MT} {elt : ME} {stays : Mu → Prop} {D : Addr} {τ : TV.Env} {Q : Mu → Prop}
/-- a list comprehension by what each turn gives -/
theorem lc_rel (hc : MonT c) (he : MonE elt) (A : Addr → Prop) (J : Mu → Prop) (P : T → List T → Prop) {its : List T} {μ0 : Mu} (hD : μ0 D = none) (hA : ¬ A D) (j0 : J μ0) (jD : ∀ μ o, J μ → J (mset μ D o))
    (hst : ∀ μ, ExtX A μ0 μ → J μ → stays μ) (hlen : its.length ≤ sizeLine)
    (step : ∀ x ∈ its, ∀ μ, ExtX A μ0 μ → J μ → wTg tg x τ fun τ' => c τ' μ fun b μ1 => if b = true then elt τ' μ1 fun t μ2 => ExtX A μ μ2 ∧ J μ2 ∧ P x [t] else ExtX A μ μ1 ∧ J μ1 ∧ P x [])
    (fin : ∀ rs μ, All2 P its rs → ExtX A μ0 μ → J μ → μ D = some (.lst rs.flatten) → Q μ) : lcL tg c elt stays D τ Q its [] (mset μ0 D (.lst [])) := by
  have go : ∀ (rest done : List T) (rs : List (List T)) (acc : List T) (μ : Mu), its = done ++ rest → All2 P done rs → acc = rs.flatten → acc.length ≤ done.length → ExtX A μ0 μ → J μ → μ D = some (.lst acc) → lcL tg c elt stays D τ Q rest acc μ := by
    intro rest
    induction rest with
    | nil =>
      intro done rs acc μ e all ea la ex j hd
      unfold lcL
      rw [List.append_nil] at e
      subst e ea
      exact ⟨hst μ ex j, fin rs μ all ex j hd⟩
    | cons x rest ih =>
      intro done rs acc μ e all ea la ex j hd
      unfold lcL
      refine ⟨hst μ ex j, wTg_mono (fun τ' q => hc _ _ _ _ (fun b μ1 q => ?_) q) _ _ _ (step x (by rw [e]; simp) μ ex j)⟩
      have lx : done.length < its.length := by rw [e]; simp
      have e' : its = (done ++ [x]) ++ rest := by rw [e]; simp
      cases b with
      | false =>
        rw [if_neg Bool.false_ne_true] at q ⊢
        obtain ⟨q1, q2, q3⟩ := q
        have hd1 := q1 D _ hA hd
        exact ⟨hd1, ih (done ++ [x]) (rs ++ [[]]) acc μ1 e' (all.snoc q3) (by simp [ea]) (by simp; omega) (ex.trans q1) q2 hd1⟩
      | true =>
        rw [if_pos rfl] at q ⊢
        refine he _ _ _ _ (fun t μ2 q => ?_) q
        obtain ⟨q1, q2, q3⟩ := q
        have hd1 := q1 D _ hA hd
        refine ⟨hd1, by omega, ih (done ++ [x]) (rs ++ [[t]]) (acc ++ [t]) (mset μ2 D (.lst (acc ++ [t]))) e' (all.snoc q3) (by simp [ea]) (by simp; omega) ((ex.trans q1).later hD) (jD _ _ q2) mset_same⟩
  exact go its [] [] [] _ rfl .nil rfl (Nat.le_refl _) (ExtX.new hD) (jD _ _ j0) mset_same
/-- .. without a test, each turn gives one thing -/
theorem lc_map (he : MonE elt) (A : Addr → Prop) (J : Mu → Prop) (P : T → T → Prop) {its : List T} {μ0 : Mu} (hD : μ0 D = none) (hA : ¬ A D) (j0 : J μ0) (jD : ∀ μ o, J μ → J (mset μ D o))
    (hst : ∀ μ, ExtX A μ0 μ → J μ → stays μ) (hlen : its.length ≤ sizeLine)
    (step : ∀ x ∈ its, ∀ μ, ExtX A μ0 μ → J μ → wTg tg x τ fun τ' => elt τ' μ fun t μ2 => ExtX A μ μ2 ∧ J μ2 ∧ P x t)
    (fin : ∀ ts μ, All2 P its ts → ExtX A μ0 μ → J μ → μ D = some (.lst ts) → Q μ) : lcL tg (fun _ μ R => R true μ) elt stays D τ Q its [] (mset μ0 D (.lst [])) := by
  refine lc_rel (c := fun _ μ R => R true μ) (fun τ μ Q Q' h q => h _ _ q) he A J (fun x r => ∃ t, r = [t] ∧ P x t) hD hA j0 jD hst hlen (fun x hx μ ex j => ?_) fun rs μ all ex j hd => ?_
  · refine wTg_mono (fun τ' q => ?_) _ _ _ (step x hx μ ex j)
    refine ite_t ?_
    exact he _ _ _ _ (fun t μ2 ⟨q1, q2, q3⟩ => ⟨q1, q2, t, rfl, q3⟩) q
  · have : ∀ {xs : List T} {rs : List (List T)}, All2 (fun x r => ∃ t, r = [t] ∧ P x t) xs rs → ∃ ts, rs.flatten = ts ∧ All2 P xs ts := by
      intro xs rs h
      induction h with
      | nil => exact ⟨[], rfl, .nil⟩
      | cons p _ ih =>
        obtain ⟨t, rfl, pt⟩ := p
        obtain ⟨ts, e, a⟩ := ih
        exact ⟨t :: ts, by simp [e], .cons pt a⟩
    obtain ⟨ts, e, a⟩ := this all
    rw [e] at hd
    exact fin ts μ a ex j hd
end
theorem wEc_none {F : Type} {Φ : F → TV.Con} : wEc Φ .none = fun _ μ R => R true μ := by unfold wEc; rfl

section
variable {tg : Tg} {stays : Mu → Prop} {b : MS} {D : En} {c : MT}
/-- a for by its invariant: what is left to walk, the slots, the store -/
theorem for_inv (hb : MonS b) (I : List T → TV.Env → Mu → Prop) (hst : ∀ r τ μ, I r τ μ → stays μ) (fin : ∀ τ μ, I [] τ μ → D.nx τ μ)
    (step : ∀ x r τ μ, I (x :: r) τ μ → wTg tg x τ fun τ' => b { D with nx := I r, ct := I r, bk := D.nx } τ' μ) : ∀ (its : List T) (τ : TV.Env) (μ : Mu), I its τ μ → forL tg stays b D its τ μ
  | [], τ, μ, i => by unfold forL; exact ⟨hst _ _ _ i, fin _ _ i⟩
  | x :: r, τ, μ, i => by
    unfold forL
    refine ⟨hst _ _ _ i, wTg_mono (fun τ' q => hb _ _ _ _ ?_ q) _ _ _ (step x r τ μ i)⟩
    exact ⟨fun τ μ q => for_inv hb I hst fin step r τ μ q, fun t μ q => q, fun τ μ q => q, fun τ μ q => for_inv hb I hst fin step r τ μ q⟩
theorem whl_more (hc : MonT c) (hb : MonS b) : ∀ (n : Nat) (τ : TV.Env) (μ : Mu), whileL c b D n τ μ → whileL c b D (n + 1) τ μ
  | 0, _, _, h => by unfold whileL at h; exact h.elim
  | n + 1, τ, μ, h => by
    unfold whileL at h ⊢
    refine hc _ _ _ _ (fun k μ1 q => ?_) h
    cases k with
    | false => rw [if_neg Bool.false_ne_true] at q ⊢; exact q
    | true =>
      rw [if_pos rfl] at q ⊢
      refine hb _ _ _ _ ?_ q
      exact ⟨fun τ μ q => whl_more hc hb n τ μ q, fun t μ q => q, fun τ μ q => q, fun τ μ q => whl_more hc hb n τ μ q⟩
theorem whl_le (hc : MonT c) (hb : MonS b) {n m : Nat} (h : n ≤ m) {τ : TV.Env} {μ : Mu} (q : whileL c b D n τ μ) : whileL c b D m τ μ := by
  induction h with
  | refl => exact q
  | step _ ih => exact whl_more hc hb _ _ _ ih
/-- a while by its invariant and a measure -/
theorem whl_inv (hc : MonT c) (hb : MonS b) (I : Nat → TV.Env → Mu → Prop)
    (step : ∀ n τ μ, I n τ μ → c τ μ fun k μ1 => if k = true then b { D with nx := fun τ' μ' => ∃ n', n' < n ∧ I n' τ' μ', ct := fun τ' μ' => ∃ n', n' < n ∧ I n' τ' μ', bk := D.nx } τ μ1 else D.nx τ μ1)
    {n : Nat} {τ : TV.Env} {μ : Mu} (i : I n τ μ) : ∃ N, whileL c b D N τ μ := by
  have go : ∀ n, ∀ m, m ≤ n → ∀ τ μ, I m τ μ → whileL c b D (n + 1) τ μ := by
    intro n
    induction n with
    | zero =>
      intro m hm τ μ i
      obtain rfl : m = 0 := by omega
      unfold whileL
      refine hc _ _ _ _ (fun k μ1 q => ?_) (step _ τ μ i)
      cases k with
      | false => rw [if_neg Bool.false_ne_true] at q ⊢; exact q
      | true =>
        rw [if_pos rfl] at q ⊢
        refine hb _ _ _ _ ?_ q
        exact ⟨fun τ μ ⟨n', h, _⟩ => by omega, fun t μ q => q, fun τ μ q => q, fun τ μ ⟨n', h, _⟩ => by omega⟩
    | succ n ih =>
      intro m hm τ μ i
      unfold whileL
      refine hc _ _ _ _ (fun k μ1 q => ?_) (step _ τ μ i)
      cases k with
      | false => rw [if_neg Bool.false_ne_true] at q ⊢; exact q
      | true =>
        rw [if_pos rfl] at q ⊢
        refine hb _ _ _ _ ?_ q
        exact ⟨fun τ μ ⟨n', h, j⟩ => ih n' (by omega) τ μ j, fun t μ q => q, fun τ μ q => q, fun τ μ ⟨n', h, j⟩ => ih n' (by omega) τ μ j⟩
  exact ⟨_, go n n (Nat.le_refl _) τ μ i⟩
end

/-! ### trees: how wide, how many nodes -/
mutual
def T.wide : T → Nat
  | .tup l => max l.length (wides l)
  | _ => 0
def wides : List T → Nat
  | [] => 0
  | x :: xs => max x.wide (wides xs)
end
mutual
def T.sz : T → Nat
  | .tup l => szs l + 1
  | _ => 1
def szs : List T → Nat
  | [] => 0
  | x :: xs => x.sz + szs xs
end
theorem szs_append : ∀ xs ys : List T, szs (xs ++ ys) = szs xs + szs ys
  | [], ys => by simp [szs]
  | x :: xs, ys => by simp [szs, szs_append xs ys]; omega
theorem sz_pos : ∀ t : T, 0 < t.sz
  | .tup l => by unfold T.sz; omega
  | .non | .bl _ | .int _ | .str _ | .ref _ | .rol _ => by unfold T.sz; omega
theorem pures_mem : ∀ {l : List T} {x : T}, pures l = true → x ∈ l → x.pure = true
  | y :: l, x, h, m => by
    have h' : y.pure = true ∧ pures l = true := by unfold pures at h; simpa using h
    rcases List.mem_cons.mp m with rfl | m
    · exact h'.1
    · exact pures_mem h'.2 m
theorem pures_of : ∀ {l : List T}, (∀ x ∈ l, x.pure = true) → pures l = true
  | [], _ => rfl
  | y :: l, h => by unfold pures; rw [h y (by simp), pures_of fun x m => h x (by simp [m])]; rfl
theorem depths_mem : ∀ {l : List T} {x : T}, x ∈ l → x.depth ≤ depths l
  | y :: l, x, m => by
    unfold depths
    rcases List.mem_cons.mp m with rfl | m
    · exact Nat.le_max_left _ _
    · exact Nat.le_trans (depths_mem m) (Nat.le_max_right _ _)
theorem depths_le : ∀ {l : List T} {n : Nat}, (∀ x ∈ l, x.depth ≤ n) → depths l ≤ n
  | [], n, _ => Nat.zero_le _
  | y :: l, n, h => by unfold depths; exact Nat.max_le.mpr ⟨h y (by simp), depths_le fun x m => h x (by simp [m])⟩
theorem wides_mem : ∀ {l : List T} {x : T}, x ∈ l → x.wide ≤ wides l
  | y :: l, x, m => by
    unfold wides
    rcases List.mem_cons.mp m with rfl | m
    · exact Nat.le_max_left _ _
    · exact Nat.le_trans (wides_mem m) (Nat.le_max_right _ _)
theorem wides_le : ∀ {l : List T} {n : Nat}, (∀ x ∈ l, x.wide ≤ n) → wides l ≤ n
  | [], n, _ => Nat.zero_le _
  | y :: l, n, h => by unfold wides; exact Nat.max_le.mpr ⟨h y (by simp), wides_le fun x m => h x (by simp [m])⟩
theorem pure_tup {l : List T} : (T.tup l).pure = true ↔ ∀ x ∈ l, x.pure = true := ⟨fun h x m => pures_mem (by unfold T.pure at h; exact h) m, fun h => by unfold T.pure; exact pures_of h⟩
theorem depth_eq (l : List T) : (T.tup l).depth = depths l + 1 := by simp [T.depth]
theorem wide_eq (l : List T) : (T.tup l).wide = max l.length (wides l) := by simp [T.wide]
theorem depth_tup {l : List T} {n : Nat} : (T.tup l).depth ≤ n + 1 ↔ ∀ x ∈ l, x.depth ≤ n := by
  rw [depth_eq]
  exact ⟨fun h x m => Nat.le_trans (depths_mem m) (by omega), fun h => by have := depths_le h; omega⟩
theorem wide_tup {l : List T} {n : Nat} : (T.tup l).wide ≤ n ↔ l.length ≤ n ∧ ∀ x ∈ l, x.wide ≤ n := by
  rw [wide_eq]
  exact ⟨fun h => ⟨by omega, fun x m => Nat.le_trans (wides_mem m) (by omega)⟩, fun h => by have := wides_le h.2; omega⟩
/-- isinstance, of a tree without mutable things -/
def isiP (ty : String) : T → Bool
  | .bl _ => ty == "bool" || ty == "int"
  | .int _ => ty == "int"
  | .str _ => ty == "str"
  | .tup _ => ty == "tuple"
  | _ => false
theorem isi_pure {ty : String} {t : T} {μ : Mu} (h : t.pure = true) : isiS ty t μ = some (isiP ty t) := by
  cases t <;> first | rfl | (unfold T.pure at h; cases h)
theorem w_isiP {F : Type} {Φ : F → TV.Con} {τ : TV.Env} {μ : Mu} {ty : String} {t : T} {Q : Bool → Mu → Prop} (h : t.pure = true) (q : Q (isiP ty t) μ) : ∃ b, isiS ty t μ = some b ∧ Q b μ := ⟨_, isi_pure h, q⟩
end TV

/-! Comprehensions and loops over the images of a list of things. -/
namespace TV
open PySem PySem.Spec
open L2 (ixN atI Key)
section
variable {α : Type} {tg : Tg} {c : MT} {elt : ME} {stays : Mu → Prop} {D : Addr} {τ : TV.Env} {Q : Mu → Prop} {f : α → T} {l : List α}
theorem lcT_rel (hc : MonT c) (he : MonE elt) (A : Addr → Prop) (J : Mu → Prop) (P : α → List T → Prop) {μ0 : Mu} (hD : μ0 D = none) (hA : ¬ A D) (j0 : J μ0) (jD : ∀ μ o, J μ → J (mset μ D o))
    (hst : ∀ μ, ExtX A μ0 μ → J μ → stays μ) (hlen : l.length ≤ sizeLine)
    (step : ∀ x ∈ l, ∀ μ, ExtX A μ0 μ → J μ → wTg tg (f x) τ fun τ' => c τ' μ fun b μ1 => if b = true then elt τ' μ1 fun t μ2 => ExtX A μ μ2 ∧ J μ2 ∧ P x [t] else ExtX A μ μ1 ∧ J μ1 ∧ P x [])
    (fin : ∀ rs μ, All2 P l rs → ExtX A μ0 μ → J μ → μ D = some (.lst rs.flatten) → Q μ) : lcL tg c elt stays D τ Q (l.map f) [] (mset μ0 D (.lst [])) := by
  have go : ∀ (rest done : List α) (rs : List (List T)) (acc : List T) (μ : Mu), l = done ++ rest → All2 P done rs → acc = rs.flatten → acc.length ≤ done.length → ExtX A μ0 μ → J μ → μ D = some (.lst acc) → lcL tg c elt stays D τ Q (rest.map f) acc μ := by
    intro rest
    induction rest with
    | nil =>
      intro done rs acc μ e all ea la ex j hd
      rw [List.map_nil]
      unfold lcL
      rw [List.append_nil] at e
      subst e ea
      exact ⟨hst μ ex j, fin rs μ all ex j hd⟩
    | cons x rest ih =>
      intro done rs acc μ e all ea la ex j hd
      rw [List.map_cons]
      unfold lcL
      refine ⟨hst μ ex j, wTg_mono (fun τ' q => hc _ _ _ _ (fun b μ1 q => ?_) q) _ _ _ (step x (by rw [e]; simp) μ ex j)⟩
      have lx : done.length < l.length := by rw [e]; simp
      have e' : l = (done ++ [x]) ++ rest := by rw [e]; simp
      cases b with
      | false =>
        rw [if_neg Bool.false_ne_true] at q ⊢
        obtain ⟨q1, q2, q3⟩ := q
        have hd1 := q1 D _ hA hd
        exact ⟨hd1, ih (done ++ [x]) (rs ++ [[]]) acc μ1 e' (all.snoc q3) (by simp [ea]) (by simp; omega) (ex.trans q1) q2 hd1⟩
      | true =>
        rw [if_pos rfl] at q ⊢
        refine he _ _ _ _ (fun t μ2 q => ?_) q
        obtain ⟨q1, q2, q3⟩ := q
        have hd1 := q1 D _ hA hd
        refine ⟨hd1, by omega, ih (done ++ [x]) (rs ++ [[t]]) (acc ++ [t]) (mset μ2 D (.lst (acc ++ [t]))) e' (all.snoc q3) (by simp [ea]) (by simp; omega) ((ex.trans q1).later hD) (jD _ _ q2) mset_same⟩
  exact go l [] [] [] _ rfl .nil rfl (Nat.le_refl _) (ExtX.new hD) (jD _ _ j0) mset_same
/-- without a test -/
theorem lcT_map (he : MonE elt) (A : Addr → Prop) (J : Mu → Prop) (P : α → T → Prop) {μ0 : Mu} (hD : μ0 D = none) (hA : ¬ A D) (j0 : J μ0) (jD : ∀ μ o, J μ → J (mset μ D o))
    (hst : ∀ μ, ExtX A μ0 μ → J μ → stays μ) (hlen : l.length ≤ sizeLine)
    (step : ∀ x ∈ l, ∀ μ, ExtX A μ0 μ → J μ → wTg tg (f x) τ fun τ' => elt τ' μ fun t μ2 => ExtX A μ μ2 ∧ J μ2 ∧ P x t)
    (fin : ∀ ts μ, All2 P l ts → ExtX A μ0 μ → J μ → μ D = some (.lst ts) → Q μ) : lcL tg (fun _ μ R => R true μ) elt stays D τ Q (l.map f) [] (mset μ0 D (.lst [])) := by
  refine lcT_rel (c := fun _ μ R => R true μ) (fun τ μ Q Q' h q => h _ _ q) he A J (fun x r => ∃ t, r = [t] ∧ P x t) hD hA j0 jD hst hlen (fun x hx μ ex j => ?_) fun rs μ all ex j hd => ?_
  · refine wTg_mono (fun τ' q => ?_) _ _ _ (step x hx μ ex j)
    refine ite_t ?_
    exact he _ _ _ _ (fun t μ2 ⟨q1, q2, q3⟩ => ⟨q1, q2, t, rfl, q3⟩) q
  · have : ∀ {xs : List α} {rs : List (List T)}, All2 (fun x r => ∃ t, r = [t] ∧ P x t) xs rs → ∃ ts, rs.flatten = ts ∧ All2 P xs ts := by
      intro xs rs h
      induction h with
      | nil => exact ⟨[], rfl, .nil⟩
      | cons p _ ih =>
        obtain ⟨t, rfl, pt⟩ := p
        obtain ⟨ts, e, a⟩ := ih
        exact ⟨t :: ts, by simp [e], .cons pt a⟩
    obtain ⟨ts, e, a⟩ := this all
    rw [e] at hd
    exact fin ts μ a ex j hd
/-- nothing but new things; each turn's value is told -/
theorem lcT_pure {F : Type} {Φ : F → TV.Con} (he : MonE elt) (g : α → T) {μ0 : Mu} (hD : μ0 D = none) (hst : ∀ μ, Ext μ0 μ → stays μ) (hlen : l.length ≤ sizeLine)
    (step : ∀ x ∈ l, ∀ μ, Ext μ0 μ → wTg tg (f x) τ fun τ' => elt τ' μ fun t μ2 => Ext μ μ2 ∧ t = g x)
    (fin : ∀ μ, Ext μ0 μ → μ D = some (.lst (l.map g)) → Q μ) : lcL tg (wEc Φ .none) elt stays D τ Q (l.map f) [] (mset μ0 D (.lst [])) := by
  rw [wEc_none]
  refine lcT_map he NoA (fun _ => True) (fun x t => t = g x) hD (fun z => z) trivial (fun _ _ _ => trivial) (fun μ e _ => hst μ e) hlen (fun x hx μ e _ => ?_) fun ts μ all e _ hd => ?_
  · exact wTg_mono (fun τ' q => he _ _ _ _ (fun t μ2 q => ⟨q.1, trivial, q.2⟩) q) _ _ _ (step x hx μ e)
  · have : ∀ {l : List α} {ts : List T}, All2 (fun x t => t = g x) l ts → ts = l.map g := by
      intro l ts h
      induction h with
      | nil => rfl
      | cons p _ ih => rw [p, ih]; rfl
    rw [this all] at hd
    exact fin μ e hd
/-- .. with a test that is told -/
theorem lcT_filt (hc : MonT c) (he : MonE elt) (g : α → T) (p : α → Bool) {μ0 : Mu} (hD : μ0 D = none) (hst : ∀ μ, Ext μ0 μ → stays μ) (hlen : l.length ≤ sizeLine)
    (step : ∀ x ∈ l, ∀ μ, Ext μ0 μ → wTg tg (f x) τ fun τ' => c τ' μ fun b μ1 => b = p x ∧ Ext μ μ1 ∧ (p x = true → elt τ' μ1 fun t μ2 => Ext μ1 μ2 ∧ t = g x))
    (fin : ∀ μ, Ext μ0 μ → μ D = some (.lst ((l.filter p).map g)) → Q μ) : lcL tg c elt stays D τ Q (l.map f) [] (mset μ0 D (.lst [])) := by
  refine lcT_rel hc he NoA (fun _ => True) (fun x r => r = if p x then [g x] else []) hD (fun z => z) trivial (fun _ _ _ => trivial) (fun μ e _ => hst μ e) hlen (fun x hx μ e _ => ?_) fun rs μ all e _ hd => ?_
  · refine wTg_mono (fun τ' q => hc _ _ _ _ (fun b μ1 q => ?_) q) _ _ _ (step x hx μ e)
    obtain ⟨rfl, q1, q2⟩ := q
    cases hp : p x with
    | true => exact ite_t (he _ _ _ _ (fun t μ2 q => ⟨q1.trans q.1, trivial, by rw [q.2]; rfl⟩) (q2 hp))
    | false => exact ite_f ⟨q1, trivial, rfl⟩
  · have : ∀ {l : List α} {rs : List (List T)}, All2 (fun x r => r = if p x then [g x] else []) l rs → rs.flatten = (l.filter p).map g := by
      intro l rs h
      induction h with
      | nil => rfl
      | cons q _ ih =>
        rw [q, List.flatten_cons, ih, List.filter_cons]
        split <;> rfl
    rw [this all] at hd
    exact fin μ e hd
end
section
variable {α : Type} {tg : Tg} {stays : Mu → Prop} {b : MS} {D : En} {f : α → T}
theorem forT_inv (hb : MonS b) (I : List α → TV.Env → Mu → Prop) (hst : ∀ r τ μ, I r τ μ → stays μ) (fin : ∀ τ μ, I [] τ μ → D.nx τ μ)
    (step : ∀ x r τ μ, I (x :: r) τ μ → wTg tg (f x) τ fun τ' => b { D with nx := I r, ct := I r, bk := D.nx } τ' μ) : ∀ (l : List α) (τ : TV.Env) (μ : Mu), I l τ μ → forL tg stays b D (l.map f) τ μ
  | [], τ, μ, i => by rw [List.map_nil]; unfold forL; exact ⟨hst _ _ _ i, fin _ _ i⟩
  | x :: r, τ, μ, i => by
    rw [List.map_cons]
    unfold forL
    refine ⟨hst _ _ _ i, wTg_mono (fun τ' q => hb _ _ _ _ ?_ q) _ _ _ (step x r τ μ i)⟩
    exact ⟨fun τ μ q => forT_inv hb I hst fin step r τ μ q, fun t μ q => q, fun τ μ q => q, fun τ μ q => forT_inv hb I hst fin step r τ μ q⟩
end
theorem map_inj' {α β : Type} {f : α → β} (h : ∀ x y, f x = f y → x = y) : ∀ {l l' : List α}, l.map f = l'.map f → l = l'
  | [], [], _ => rfl
  | [], _ :: _, e => by cases e
  | _ :: _, [], e => by cases e
  | x :: l, y :: l', e => by
    rw [List.map_cons, List.map_cons] at e
    injection e with e1 e2
    rw [h x y e1, map_inj' h e2]
/-- a contract over things that the arguments tell -/
def mkC {α : Type} (inp : α → List T) (pre : α → Mu → Prop) (post : α → Mu → T → Mu → Prop) : TV.Con := ⟨fun ts μ => ∃ x, ts = inp x ∧ pre x μ, fun ts μ t μ' => ∀ x, ts = inp x → pre x μ → post x μ t μ'⟩
theorem call_mk {F α : Type} {Φ : F → TV.Con} {inp : α → List T} {pre : α → Mu → Prop} {post : α → Mu → T → Mu → Prop} {f : F} {ts : List T} {μ : Mu} {Q : PQ} (h : Φ f = mkC inp pre post) (x : α) (e : ts = inp x) (p : pre x μ) (q : ∀ t μ', post x μ t μ' → Q t μ') : callS Φ f ts μ Q := by
  unfold callS; rw [h]; exact ⟨⟨x, e, p⟩, fun t μ' r => q t μ' (r x e p)⟩
theorem vc_mk {F α : Type} {Φ : F → TV.Con} {inp : α → List T} {pre : α → Mu → Prop} {post : α → Mu → T → Mu → Prop} {b : Ss F} {n : Nat} (inj : ∀ x y, inp x = inp y → x = y) (v : ∀ x μ, pre x μ → ∀ (P : T → Mu → Prop), (∀ t μ', post x μ t μ' → P t μ') → wSs Φ b (endsOf P) (startT n (inp x)) μ) (ts : List T) (μ : Mu) (h : (mkC inp pre post).pre ts μ) : wSs Φ b (endsOf ((mkC inp pre post).post ts μ)) (startT n ts) μ := by
  obtain ⟨x, rfl, p⟩ := h
  refine v x μ p _ fun t μ' r y e _ => ?_
  rw [← inj x y e]
  exact r
theorem vc_mk2 {F α : Type} {Φ : F → TV.Con} {inp : α → List T} {pre : α → Mu → Prop} {post : α → Mu → T → Mu → Prop} {b : Ss F} {n : Nat} (inj : ∀ x y μ, inp x = inp y → pre x μ → pre y μ → x = y) (v : ∀ x μ, pre x μ → ∀ (P : T → Mu → Prop), (∀ t μ', post x μ t μ' → P t μ') → wSs Φ b (endsOf P) (startT n (inp x)) μ) (ts : List T) (μ : Mu) (h : (mkC inp pre post).pre ts μ) : wSs Φ b (endsOf ((mkC inp pre post).post ts μ)) (startT n ts) μ := by
  obtain ⟨x, rfl, p⟩ := h
  refine v x μ p _ fun t μ' r y e p' => ?_
  rw [← inj x y μ e p p']
  exact r
end TV

/-! More steps: defs within defs, del xs[a:], index, setdefault, sorted. -/
namespace TV
open PySem PySem.Spec
open L2 (ixN atI Key)
section
variable {F : Type} {Φ : F → TV.Con} {τ : TV.Env} {μ : Mu} {Q : PQ} {D : En} {es : Es F} {e o lo : E F}
theorem w_callK {g : F} {i : Nat} {ws : List T} {F0 : NdefX.NF} {fa : Addr} (h : τ[i]? = some (some (.ref fa))) (h2 : μ fa = some (.fn F0)) (q : wEs Φ es τ μ fun ts μ1 => μ1 fa = some (.fn F0) ∧ callS Φ g (ts ++ ws) μ1 Q) : wE Φ (.callK g i es ws F0) τ μ Q := by
  unfold wE; exact ⟨fa, h, h2, q⟩
theorem w_callC {g : F} {js : List Nat} {mk : Addr → NdefX.NF} (q : wEs Φ es τ μ fun ts μ1 => ∃ us fa c ws, ts = us ++ [.ref fa] ∧ μ1 fa = some (.fn (mk c)) ∧ js.map (fun j => τ[j]?) = ws.map (fun w => some (some w)) ∧ callS Φ g (ts ++ ws) μ1 Q) : wE Φ (.callC g es js mk) τ μ Q := by
  unfold wE; exact q
theorem v_ndef {i : Nat} {mk : Addr → NdefX.NF} (q : ∀ c f, μ f = none → D.nx (τ.set i (some (.ref f))) (mset μ f (.fn (mk c)))) : wS Φ (.ndef i mk) D τ μ := by
  unfold wS; exact q
theorem v_delsl (q : wE Φ o τ μ fun x μ1 => wE Φ lo τ μ1 fun k μ2 => ∃ a l n, x = .ref a ∧ μ2 a = some (.lst l) ∧ k = .int n ∧ 0 ≤ n ∧ n ≤ l.length ∧ D.nx τ (mset μ2 a (.lst (l.take n.toNat)))) : wS Φ (.delsl o lo) D τ μ := by
  unfold wS; exact q
end
section
variable {μ : Mu} {Q : PQ}
theorem m_index {a : Addr} {l : List T} {x z : T} {j : Nat} (e : μ a = some (.lst l)) (fx : flatT x = true) (fl : l.all flatT = true) (ez : l[j]? = some z) (eq : peq z x = true) (no : ∀ m z', m < j → l[m]? = some z' → peq z' x = false) (q : Q (.int (j : Nat)) μ) : meS .index (.ref a) [x] μ Q := ⟨l, j, z, e, fx, fl, ez, eq, no, q⟩
theorem m_setd {a : Addr} {kvs : List (Key × T)} {k d : T} {key : Key} (e : μ a = some (.dic kvs)) (h : keyOf k = some key) (few : kvs.length < 1000000) (q1 : ∀ t, lookT kvs key = some t → Q t μ) (q2 : lookT kvs key = none → Q d (mset μ a (.dic (putT kvs key d)))) : meS .setdefault (.ref a) [k, d] μ Q := by
  refine ⟨kvs, key, e, h, few, ?_⟩
  cases hk : lookT kvs key with
  | none => exact q2 hk
  | some t => exact q1 t hk
theorem b_sorted {a : Addr} {ks : List (Int × Int)} (e : μ a = some (.lst (ks.map pairI))) (q : ∀ ks' p, ks'.Perm ks → SrtI ks' → μ p = none → Q (.ref p) (mset μ p (.lst (ks'.map pairI)))) : biS .sorted [.ref a] μ Q := ⟨ks, e, q⟩
theorem x_dic {d : Addr} {kvs : List (Key × T)} {i t : T} {k : Key} (e : μ d = some (.dic kvs)) (h : keyOf i = some k) (l : lookT kvs k = some t) (q : Q t μ) : ixS (.ref d) i μ Q := .inr (.inr ⟨d, kvs, k, t, rfl, e, h, l, q⟩)
theorem tru_dic {a : Addr} {l : List (Key × T)} (e : μ a = some (.dic l)) : truthS (.ref a) μ = some (!l.isEmpty) := by unfold truthS; simp [e]
/-- an int among a dict's keys -/
theorem in_dicI {neg : Bool} {d : Addr} {kvs : List (Key × T)} {i : Int} (e : μ d = some (.dic kvs)) (q : Q (.bl (kvs.any (fun p => decide (p.1 = Sum.inl i)) ^^ neg)) μ) : inS neg (.int i) (.ref d) μ Q := .inr (.inr (.inl ⟨d, kvs, i, rfl, e, rfl, q⟩))
end
theorem lookT_put {k j : Key} {v : T} : ∀ {kvs : List (Key × T)}, lookT (putT kvs k v) j = if k = j then some v else lookT kvs j
  | [] => by
    unfold putT lookT
    by_cases h : k = j <;> simp [h]
  | (k', v') :: r => by
    have ih := lookT_put (k := k) (j := j) (v := v) (kvs := r)
    unfold putT
    by_cases h : k' = k
    · rw [if_pos h]
      subst h
      unfold lookT
      by_cases h2 : k' = j <;> simp [h2]
    · rw [if_neg h]
      unfold lookT at ih ⊢
      rw [List.find?_cons, List.find?_cons]
      by_cases h2 : k' = j
      · have : ¬ k = j := fun z => h (by rw [z, h2])
        simp [h2, this]
      · simp only [h2, decide_false]
        exact ih
theorem lookT_any {k : Key} : ∀ {kvs : List (Key × T)}, kvs.any (fun p => decide (p.1 = k)) = (lookT kvs k).isSome
  | [] => rfl
  | (k', v') :: r => by
    have ih := lookT_any (k := k) (kvs := r)
    rw [List.any_cons, ih]
    unfold lookT
    rw [List.find?_cons]
    by_cases h : k' = k <;> simp [h]
theorem putT_len (k : Key) (v : T) : ∀ kvs : List (Key × T), (putT kvs k v).length ≤ kvs.length + 1
  | [] => by simp [putT]
  | (k', v') :: r => by
    have ih := putT_len k v r
    unfold putT
    split <;> simp <;> omega
theorem c_in {x y : T} {μ : Mu} {Q : PQ} (q : inS false x y μ Q) : cmpS .In x y μ Q := q
theorem c_notin {x y : T} {μ : Mu} {Q : PQ} (q : inS true x y μ Q) : cmpS .NotIn x y μ Q := q
theorem dc_map {F : Type} {Φ : F → TV.Con} {tg : Tg} {kk vv : ME} {stays : Mu → Prop} {D : Addr} {τ : TV.Env} {Q : Mu → Prop} (hk : MonE kk) (hv : MonE vv) (kf : T → Key) (vf : T → T) {its : List T} {μ0 : Mu} (hD : μ0 D = none) (few : its.length ≤ 900) (hst : ∀ μ, Ext μ0 μ → stays μ)
    (step : ∀ x ∈ its, ∀ μ, Ext μ0 μ → wTg tg x τ fun τ' => kk τ' μ fun kt μ1 => vv τ' μ1 fun vt μ2 => Ext μ μ2 ∧ keyOf kt = some (kf x) ∧ vt = vf x)
    (fin : ∀ μ, Ext μ0 μ → μ D = some (.dic (its.foldl (fun d x => putT d (kf x) (vf x)) [])) → Q μ) : dcL tg (wEc Φ .none) kk vv stays D τ Q its [] (mset μ0 D (.dic [])) := by
  have go : ∀ (rest done : List T) (acc : List (Key × T)) (μ : Mu), its = done ++ rest → acc = done.foldl (fun d x => putT d (kf x) (vf x)) [] → acc.length ≤ done.length → Ext μ0 μ → μ D = some (.dic acc) → dcL tg (wEc Φ .none) kk vv stays D τ Q rest acc μ := by
    intro rest
    induction rest with
    | nil =>
      intro done acc μ e ea la ex hd
      unfold dcL
      rw [List.append_nil] at e
      subst e ea
      exact ⟨hst μ ex, fin μ ex hd⟩
    | cons x rest ih =>
      intro done acc μ e ea la ex hd
      unfold dcL
      refine ⟨hst μ ex, wTg_mono (fun τ' q => ?_) _ _ _ (step x (by rw [e]; simp) μ ex)⟩
      rw [wEc_none]
      refine ite_t (hk _ _ _ _ (fun kt μ1 q => hv _ _ _ _ (fun vt μ2 q => ?_) q) q)
      obtain ⟨q1, q2, rfl⟩ := q
      have hd1 := Ext.at q1 hd
      have hl : done.length < its.length := by rw [e]; simp
      refine ⟨kf x, q2, hd1, by omega, ih (done ++ [x]) _ _ (by rw [e]; simp) (by rw [List.foldl_append, ← ea]; rfl) ?_ ((ex.trans q1).later hD) mset_same⟩
      have := putT_len (kf x) (vf x) acc
      simp only [List.length_append, List.length_cons, List.length_nil]; omega
  exact go its [] [] _ rfl rfl (Nat.le_refl _) (ExtX.new hD) mset_same

/-- a comprehension, by what holds of the part done -/
theorem lcT_ind {F : Type} {Φ : F → TV.Con} {α : Type} {f : α → T} {l : List α} {tg : Tg} {elt : ME} {stays : Mu → Prop} {D : Addr} {τ : TV.Env} {Q : Mu → Prop} (he : MonE elt) (A : Addr → Prop) (I : List α → List T → Mu → Prop) {μ0 : Mu} (hD : μ0 D = none) (hA : ¬ A D) (i0 : I [] [] μ0) (iD : ∀ d a μ o, I d a μ → I d a (mset μ D o))
    (hst : ∀ d a μ, ExtX A μ0 μ → I d a μ → stays μ) (hlen : l.length ≤ sizeLine)
    (step : ∀ d x r a μ, l = d ++ x :: r → a.length = d.length → ExtX A μ0 μ → I d a μ → wTg tg (f x) τ fun τ' => elt τ' μ fun t μ2 => ExtX A μ μ2 ∧ I (d ++ [x]) (a ++ [t]) μ2)
    (fin : ∀ a μ, ExtX A μ0 μ → I l a μ → μ D = some (.lst a) → Q μ) : lcL tg (wEc Φ .none) elt stays D τ Q (l.map f) [] (mset μ0 D (.lst [])) := by
  rw [wEc_none]
  have go : ∀ (r d : List α) (a : List T) (μ : Mu), l = d ++ r → a.length = d.length → ExtX A μ0 μ → I d a μ → μ D = some (.lst a) → lcL tg (fun _ μ R => R true μ) elt stays D τ Q (r.map f) a μ := by
    intro r
    induction r with
    | nil =>
      intro d a μ e la ex i hd
      rw [List.map_nil]
      unfold lcL
      rw [List.append_nil] at e
      subst e
      exact ⟨hst _ _ μ ex i, fin a μ ex i hd⟩
    | cons x r ih =>
      intro d a μ e la ex i hd
      rw [List.map_cons]
      unfold lcL
      refine ⟨hst _ _ μ ex i, wTg_mono (fun τ' q => ?_) _ _ _ (step d x r a μ e la ex i)⟩
      refine ite_t (he _ _ _ _ (fun t μ2 q => ?_) q)
      obtain ⟨q1, q2⟩ := q
      have hd1 := q1 D _ hA hd
      have hl : d.length < l.length := by rw [e]; simp
      exact ⟨hd1, by omega, ih (d ++ [x]) (a ++ [t]) (mset μ2 D (.lst (a ++ [t]))) (by rw [e]; simp) (by simp [la]) ((ex.trans q1).later hD) (iD _ _ _ _ q2) mset_same⟩
  exact go l [] [] _ rfl rfl (ExtX.new hD) (iD _ _ _ _ i0) mset_same
end TV

namespace K07
open PySem PySem.Spec PyProof.Rows L2 TV
open NdefX (NF)
def topS (i : Nat) : Stmt := PySem.Challenge.pw_gapless_k07_instances.main.body.getD i (.Pass ⟨0, 0, 0, 0⟩)
/-- the defs -/
inductive Fn where
  | is_integer | type_of_head | own_binders | long_binder | changed__closed_over | binder_of | binders_of | closed_over_change | closed_over | more_of | law_start | law_fill | law_take | law_signature | law_kind | law_long | law_lifted | law_body | law_within | law_filled | law_size | law_is_int | law_needed | law_heads | law_least | law_term | law_number | law_named | law_read | law_more | law_choice | law_drawn | law_met | law_ordered | law_rows_of | law_tidied | law_other | law_is_apt | law
  deriving DecidableEq
/-- built-in names that the text does not set -/
structure Abs (mg : Str → Option Value) : Prop where
  z_all : mg "all" = none
  z_bool : mg "bool" = none
  z_dict : mg "dict" = none
  z_enumerate : mg "enumerate" = none
  z_int : mg "int" = none
  z_isinstance : mg "isinstance" = none
  z_len : mg "len" = none
  z_max : mg "max" = none
  z_range : mg "range" = none
  z_sorted : mg "sorted" = none
  z_str : mg "str" = none
  z_sum : mg "sum" = none
  z_tuple : mg "tuple" = none
/-- the constants of the text -/
structure Csts (K : PySem.W.Frag) (mg : Str → Option Value) : Prop where
  none : True
def nmF : Fn → Str
  | .is_integer => "is_integer"
  | .type_of_head => "type_of_head"
  | .own_binders => "own_binders"
  | .long_binder => "long_binder"
  | .changed__closed_over => "changed"
  | .binder_of => "binder_of"
  | .binders_of => "binders_of"
  | .closed_over_change => "change"
  | .closed_over => "closed_over"
  | .more_of => "more_of"
  | .law_start => "_law_start"
  | .law_fill => "_law_fill"
  | .law_take => "_law_take"
  | .law_signature => "_law_signature"
  | .law_kind => "_law_kind"
  | .law_long => "_law_long"
  | .law_lifted => "_law_lifted"
  | .law_body => "_law_body"
  | .law_within => "_law_within"
  | .law_filled => "_law_filled"
  | .law_size => "_law_size"
  | .law_is_int => "_law_is_int"
  | .law_needed => "_law_needed"
  | .law_heads => "_law_heads"
  | .law_least => "_law_least"
  | .law_term => "_law_term"
  | .law_number => "_law_number"
  | .law_named => "_law_named"
  | .law_read => "_law_read"
  | .law_more => "_law_more"
  | .law_choice => "_law_choice"
  | .law_drawn => "_law_drawn"
  | .law_met => "_law_met"
  | .law_ordered => "_law_ordered"
  | .law_rows_of => "_law_rows_of"
  | .law_tidied => "_law_tidied"
  | .law_other => "_law_other"
  | .law_is_apt => "_law_is_apt"
  | .law => "law"
def qualF : Fn → Str
  | .is_integer => "is_integer"
  | .type_of_head => "type_of_head"
  | .own_binders => "own_binders"
  | .long_binder => "long_binder"
  | .changed__closed_over => "changed"
  | .binder_of => "binder_of"
  | .binders_of => "binders_of"
  | .closed_over_change => ("closed_over" : Str) ++ ".<locals>." ++ ("change" : Str)
  | .closed_over => "closed_over"
  | .more_of => "more_of"
  | .law_start => "_law_start"
  | .law_fill => "_law_fill"
  | .law_take => "_law_take"
  | .law_signature => "_law_signature"
  | .law_kind => "_law_kind"
  | .law_long => "_law_long"
  | .law_lifted => "_law_lifted"
  | .law_body => "_law_body"
  | .law_within => "_law_within"
  | .law_filled => "_law_filled"
  | .law_size => "_law_size"
  | .law_is_int => "_law_is_int"
  | .law_needed => "_law_needed"
  | .law_heads => "_law_heads"
  | .law_least => "_law_least"
  | .law_term => "_law_term"
  | .law_number => "_law_number"
  | .law_named => "_law_named"
  | .law_read => "_law_read"
  | .law_more => "_law_more"
  | .law_choice => "_law_choice"
  | .law_drawn => "_law_drawn"
  | .law_met => "_law_met"
  | .law_ordered => "_law_ordered"
  | .law_rows_of => "_law_rows_of"
  | .law_tidied => "_law_tidied"
  | .law_other => "_law_other"
  | .law_is_apt => "_law_is_apt"
  | .law => "law"
def stF : Fn → Stmt
  | .is_integer => topS 1
  | .type_of_head => topS 2
  | .own_binders => topS 3
  | .long_binder => topS 4
  | .changed__closed_over => topS 5
  | .binder_of => topS 6
  | .binders_of => topS 7
  | .closed_over_change => (C8.fnBody (topS 9)).getD 3 (.Pass ⟨0, 0, 0, 0⟩)
  | .closed_over => topS 9
  | .more_of => topS 10
  | .law_start => topS 12
  | .law_fill => topS 13
  | .law_take => topS 14
  | .law_signature => topS 15
  | .law_kind => topS 16
  | .law_long => topS 17
  | .law_lifted => topS 18
  | .law_body => topS 19
  | .law_within => topS 20
  | .law_filled => topS 21
  | .law_size => topS 22
  | .law_is_int => topS 23
  | .law_needed => topS 24
  | .law_heads => topS 25
  | .law_least => topS 26
  | .law_term => topS 27
  | .law_number => topS 28
  | .law_named => topS 29
  | .law_read => topS 30
  | .law_more => topS 31
  | .law_choice => topS 32
  | .law_drawn => topS 33
  | .law_met => topS 34
  | .law_ordered => topS 35
  | .law_rows_of => topS 36
  | .law_tidied => topS 37
  | .law_other => topS 38
  | .law_is_apt => topS 39
  | .law => topS 40
def nsF : Fn → List Str
  | .is_integer => ["value"]
  | .type_of_head => ["table", "holes", "around", "head", "letter", "which"]
  | .own_binders => ["kinds", "k", "kind"]
  | .long_binder => ["i", "kind"]
  | .changed__closed_over => ["term", "change", "done", "left", "inside", "one", "outside", "ready", "at", "parts", "part"]
  | .binder_of => ["around", "part", "i", "letter", "which"]
  | .binders_of => ["around", "parts", "found", "part", "i"]
  | .closed_over_change => ["node", "inside", "places", "strange", "n", "head", "parts", "i"]
  | .closed_over => ["numbers", "term", "change", "many", "places", "strange", "found", "k", "i"]
  | .more_of => ["signature", "old", "new", "values", "others", "table", "found", "left", "around", "ahead", "wanted", "one", "other", "letter", "which", "value", "k", "kind", "needed", "part"]
  | .law_start => ["script", "cell"]
  | .law_fill => ["c", "number"]
  | .law_take => ["c", "many", "digit"]
  | .law_signature => ["c", "one", "rows", "front", "kept", "a", "b", "j", "row", "name", "kind"]
  | .law_kind => ["c", "high", "sort", "many", "k"]
  | .law_long => ["head", "kind", "many", "j"]
  | .law_lifted => ["term", "k", "depth", "inner", "own", "head", "parts", "part"]
  | .law_body => ["head", "parts", "terms", "depth", "done", "k", "own", "part"]
  | .law_within => ["term", "terms", "depth", "told"]
  | .law_filled => ["values", "term", "done", "told", "own", "head", "parts", "part"]
  | .law_size => ["term", "part"]
  | .law_is_int => ["value"]
  | .law_needed => ["signature", "holes", "own", "head"]
  | .law_heads => ["signature", "holes", "own", "sort", "found", "k", "row", "name", "kind"]
  | .law_least => ["signature", "kind", "name", "own"]
  | .law_term => ["c", "signature", "holes", "prefix", "kind", "depth", "own", "fits", "parts", "head", "needed", "row", "one"]
  | .law_number => ["part"]
  | .law_named => ["head", "parts", "names", "depth", "done", "part", "told"]
  | .law_read => ["one", "other", "found", "names", "told", "value", "part", "j"]
  | .law_more => ["values", "others", "many", "found", "k"]
  | .law_choice => ["c", "own", "kinds", "numbers", "kind", "fits", "k"]
  | .law_drawn => ["c", "signature", "holes", "prefix", "kind", "depth", "own", "fits", "parts", "head", "needed", "numbers", "row", "one", "j"]
  | .law_met => ["term", "found", "part"]
  | .law_ordered => ["term", "rows", "number", "order", "part", "j"]
  | .law_rows_of => ["new", "terms", "rows", "types", "term", "place", "hole", "falling", "order", "row", "j"]
  | .law_tidied => ["new", "values", "rows", "types", "value"]
  | .law_other => ["c", "signature", "holes", "prefix", "kind", "term", "box", "own", "needed", "parts", "j"]
  | .law_is_apt => ["terms", "counts", "term", "left", "nodes", "deep", "one", "level", "part"]
  | .law => ["script", "c", "signature", "old", "new", "values", "kind", "last", "more", "others", "told", "turn", "types", "k", "at", "changed_v", "value"]
def psF : Fn → List Str
  | .is_integer => ["value"]
  | .type_of_head => ["table", "holes", "around", "head"]
  | .own_binders => ["kinds"]
  | .long_binder => ["i", "kind"]
  | .changed__closed_over => ["term", "change"]
  | .binder_of => ["around", "part"]
  | .binders_of => ["around", "parts"]
  | .closed_over_change => ["node", "inside"]
  | .closed_over => ["numbers", "term"]
  | .more_of => ["signature", "old", "new", "values", "others"]
  | .law_start => ["script"]
  | .law_fill => ["c"]
  | .law_take => ["c", "many"]
  | .law_signature => ["c"]
  | .law_kind => ["c", "high"]
  | .law_long => ["head", "kind"]
  | .law_lifted => ["term", "k", "depth"]
  | .law_body => ["head", "parts", "terms", "depth"]
  | .law_within => ["term", "terms", "depth"]
  | .law_filled => ["values", "term"]
  | .law_size => ["term"]
  | .law_is_int => ["value"]
  | .law_needed => ["signature", "holes", "own", "head"]
  | .law_heads => ["signature", "holes", "own", "sort"]
  | .law_least => ["signature", "kind"]
  | .law_term => ["c", "signature", "holes", "prefix", "kind", "depth"]
  | .law_number => ["part"]
  | .law_named => ["head", "parts", "names", "depth"]
  | .law_read => ["one", "other", "found"]
  | .law_more => ["values", "others", "many"]
  | .law_choice => ["c", "own", "kinds"]
  | .law_drawn => ["c", "signature", "holes", "prefix", "kind", "depth"]
  | .law_met => ["term", "found"]
  | .law_ordered => ["term", "rows"]
  | .law_rows_of => ["new", "terms"]
  | .law_tidied => ["new", "values"]
  | .law_other => ["c", "signature", "holes", "prefix", "kind", "term", "box"]
  | .law_is_apt => ["terms"]
  | .law => ["script"]
def kdF : Fn → Kind Fn
  | .is_integer => .plain
  | .type_of_head => .plain
  | .own_binders => .plain
  | .long_binder => .plain
  | .changed__closed_over => .takes .closed_over_change
  | .binder_of => .plain
  | .binders_of => .plain
  | .closed_over_change => .nest ["places", "strange"]
  | .closed_over => .plain
  | .more_of => .plain
  | .law_start => .plain
  | .law_fill => .plain
  | .law_take => .plain
  | .law_signature => .plain
  | .law_kind => .plain
  | .law_long => .plain
  | .law_lifted => .plain
  | .law_body => .plain
  | .law_within => .plain
  | .law_filled => .plain
  | .law_size => .plain
  | .law_is_int => .plain
  | .law_needed => .plain
  | .law_heads => .plain
  | .law_least => .plain
  | .law_term => .plain
  | .law_number => .plain
  | .law_named => .plain
  | .law_read => .plain
  | .law_more => .plain
  | .law_choice => .plain
  | .law_drawn => .plain
  | .law_met => .plain
  | .law_ordered => .plain
  | .law_rows_of => .plain
  | .law_tidied => .plain
  | .law_other => .plain
  | .law_is_apt => .plain
  | .law => .plain
def b_is_integer : Ss Fn :=
    .cons (.ret (.and (.cons (.isi (.var 0) "int") (.cons (.not (.isi (.var 0) "bool")) .nil)))) .nil
def b_type_of_head : Ss Fn :=
    .cons (.ite (.or (.cons (.not (.isi (.var 3) "tuple")) (.cons (.cmp .NotEq (.bi .len (.cons (.var 3) .nil)) (.int 2)) .nil))) (.cons (.ret .non) .nil) (.nil))
    (.cons (.unp [(.nm 4), (.nm 5)] (.var 3))
    (.cons (.ite (.and (.cons (.cmp .Eq (.var 4) (.str "b")) (.cons (.call .is_integer (.cons (.var 5) .nil)) (.cons (.chain .LtE .Lt (.int 0) (.var 5) (.bi .len (.cons (.var 2) .nil))) .nil)))) (.cons (.ret (.ix (.var 2) (.bin .Sub (.bin .Sub (.bi .len (.cons (.var 2) .nil)) (.int 1)) (.var 5)))) .nil) (.nil))
    (.cons (.ite (.and (.cons (.cmp .Eq (.var 4) (.str "c")) (.cons (.isi (.var 5) "str") .nil))) (.cons (.ret (.me .get1 (.var 0) (.cons (.var 5) .nil))) .nil) (.nil))
    (.cons (.ite (.and (.cons (.cmp .Eq (.var 4) (.str "h")) (.cons (.call .is_integer (.cons (.var 5) .nil)) (.cons (.chain .LtE .Lt (.int 0) (.var 5) (.bi .len (.cons (.var 1) .nil))) .nil)))) (.cons (.ret (.ix (.var 1) (.var 5))) .nil) (.nil))
    (.cons (.ret .non) .nil)))))
def b_own_binders : Ss Fn :=
    .cons (.ret (.bi .tuple (.cons (.lc (.call .long_binder (.cons (.bin .Sub (.bin .Sub (.bi .len (.cons (.var 0) .nil)) (.int 1)) (.var 1)) (.cons (.var 2) .nil))) (.tp [(.nm 1), (.nm 2)]) (.enum (.var 0)) .none [1, 2]) .nil))) .nil
def b_long_binder : Ss Fn :=
    .cons (.ret (.tup (.cons (.bi .len (.cons (.ix (.var 1) (.int 0)) .nil)) (.cons (.tup (.cons (.str "b") (.cons (.bin .Add (.var 0) (.bi .len (.cons (.ix (.var 1) (.int 0)) .nil))) .nil))) (.cons (.call .own_binders (.cons (.ix (.var 1) (.int 0)) .nil)) .nil))))) .nil
def b_changed__closed_over (G : NF) (us : List T) : Ss Fn :=
    .cons (.set 2 (.lst .nil))
    (.cons (.set 3 (.lst (.cons (.tup (.cons (.var 0) (.cons (.int 0) (.cons (.bl false) .nil)))) .nil)))
    (.cons (.whl (.var 3) (.cons (.unp [(.nm 5), (.nm 6), (.nm 7)] (.me .pop (.var 3) .nil))
    (.cons (.set 4 (.bin .Add (.var 6) (.ix (.var 5) (.int 0))))
    (.cons (.ite (.var 7) (.cons (.set 8 (.bin .Sub (.bi .len (.cons (.var 2) .nil)) (.bi .len (.cons (.ix (.var 5) (.int 2)) .nil))))
    (.cons (.set 9 (.bi .tuple (.cons (.sl (.var 2) (.some (.var 8)) .none) .nil)))
    (.cons (.delsl (.var 2) (.var 8))
    (.cons (.ex (.me .append (.var 2) (.cons (.callK .closed_over_change 1 (.cons (.tup (.cons (.ix (.var 5) (.int 0)) (.cons (.ix (.var 5) (.int 1)) (.cons (.var 9) .nil)))) (.cons (.var 4) .nil)) us G) .nil))) .nil)))) (.cons (.ex (.me .append (.var 3) (.cons (.tup (.cons (.var 5) (.cons (.var 6) (.cons (.bl true) .nil)))) .nil)))
    (.cons (.ex (.me .extend (.var 3) (.cons (.lc (.tup (.cons (.var 10) (.cons (.var 4) (.cons (.bl false) .nil)))) (.nm 10) (.val (.rev (.ix (.var 5) (.int 2)))) .none [10]) .nil))) .nil))) .nil))))
    (.cons (.ret (.ix (.var 2) (.int 0))) .nil)))
def b_binder_of : Ss Fn :=
    .cons (.unp [(.nm 3), (.nm 4)] (.ix (.var 1) (.int 1)))
    (.cons (.set 2 (.ite (.cmp .Eq (.var 3) (.str "b")) (.bin .Sub (.var 4) (.ix (.var 1) (.int 0))) (.neg (.int 1))))
    (.cons (.ite (.and (.cons (.chain .LtE .Lt (.int 0) (.var 2) (.bi .len (.cons (.var 0) .nil))) (.cons (.cmp .Eq (.var 1) (.call .long_binder (.cons (.var 2) (.cons (.ix (.var 0) (.bin .Sub (.bin .Sub (.bi .len (.cons (.var 0) .nil)) (.int 1)) (.var 2))) .nil)))) .nil))) (.cons (.ret (.var 2)) .nil) (.nil))
    (.cons (.ret .non) .nil)))
def b_binders_of : Ss Fn :=
    .cons (.set 2 (.lst .nil))
    (.cons (.for (.nm 3) (.val (.var 1)) (.cons (.set 4 (.call .binder_of (.cons (.var 0) (.cons (.var 3) .nil))))
    (.cons (.ite (.or (.cons (.isN (.var 4)) (.cons (.cmp .In (.var 4) (.var 2)) .nil))) (.cons (.ret .non) .nil) (.nil))
    (.cons (.ex (.me .append (.var 2) (.cons (.var 4) .nil))) .nil))))
    (.cons (.ret (.var 2)) .nil))
def b_closed_over_change : Ss Fn :=
    .cons (.unp [(.nm 4), (.nm 5), (.nm 6)] (.var 0))
    (.cons (.ite (.and (.cons (.cmp .Eq (.ix (.var 5) (.int 0)) (.str "b")) (.cons (.cmp .GtE (.ix (.var 5) (.int 1)) (.var 1)) .nil))) (.cons (.set 7 (.bin .Sub (.ix (.var 5) (.int 1)) (.var 1)))
    (.cons (.ite (.cmp .NotIn (.var 7) (.var 2)) (.cons (.ex (.me .append (.var 3) (.cons (.var 7) .nil))) .nil) (.nil))
    (.cons (.set 5 (.tup (.cons (.str "b") (.cons (.bin .Add (.me .get2 (.var 2) (.cons (.var 7) (.cons (.int 0) .nil))) (.var 1)) .nil)))) .nil))) (.nil))
    (.cons (.ret (.tup (.cons (.var 4) (.cons (.var 5) (.cons (.var 6) .nil))))) .nil))
def b_closed_over (cl : List (Str × Addr)) : Ss Fn :=
    .cons (.set 3 (.bi .len (.cons (.var 0) .nil)))
    (.cons (.set 4 (.dc (.var 8) (.bin .Sub (.bin .Sub (.var 3) (.int 1)) (.var 7)) (.tp [(.nm 7), (.nm 8)]) (.enum (.var 0)) .none [7, 8]))
    (.cons (.set 5 (.lst .nil))
    (.cons (.ndef 2 (NF.of (stF .closed_over_change) (nmF .closed_over_change) (qualF .closed_over_change) cl))
    (.cons (.set 6 (.callC .changed__closed_over (.cons (.tup (.cons (.int 0) (.cons (.ix (.var 1) (.int 1)) (.cons (.ix (.var 1) (.int 2)) .nil)))) (.cons (.var 2) .nil)) [4, 5] (NF.of (stF .closed_over_change) (nmF .closed_over_change) (qualF .closed_over_change) cl)))
    (.cons (.ret (.ite (.var 5) .non (.tup (.cons (.var 3) (.cons (.ix (.var 6) (.int 1)) (.cons (.ix (.var 6) (.int 2)) .nil)))))) .nil)))))
def b_more_of : Ss Fn :=
    .cons (.set 5 (.bi .dict (.cons (.var 0) .nil)))
    (.cons (.set 6 .dnew)
    (.cons (.set 7 (.lc (.tup (.cons (.tup .nil) (.cons (.var 17) (.cons (.ix (.var 3) (.var 16)) (.cons (.ix (.var 4) (.var 16)) .nil))))) (.tp [(.nm 16), (.nm 17)]) (.enum (.var 1)) .none [16, 17]))
    (.cons (.whl (.var 7) (.cons (.unp [(.nm 9), (.nm 10), (.nm 11), (.nm 12)] (.me .pop (.var 7) .nil))
    (.cons (.set 8 (.bin .Add (.var 9) (.ix (.var 10) (.int 0))))
    (.cons (.unp [(.nm 13), (.nm 14)] (.ix (.var 11) (.int 1)))
    (.cons (.ite (.cmp .Eq (.var 13) (.str "h")) (.cons (.set 15 (.call .closed_over (.cons (.call .binders_of (.cons (.var 8) (.cons (.ix (.var 11) (.int 2)) .nil))) (.cons (.var 12) .nil))))
    (.cons (.ite (.or (.cons (.isN (.var 15)) (.cons (.cmp .NotEq (.me .get2 (.var 6) (.cons (.var 14) (.cons (.var 15) .nil))) (.var 15)) .nil))) (.cons (.ret .non) .nil) (.nil))
    (.cons (.sub (.var 6) (.var 14) (.var 15)) .nil))) (.cons (.ite (.cmp .NotEq (.ix (.var 11) (.int 1)) (.ix (.var 12) (.int 1))) (.cons (.ret .non) .nil) (.cons (.set 18 (.call .type_of_head (.cons (.var 5) (.cons (.var 2) (.cons (.var 8) (.cons (.ix (.var 11) (.int 1)) .nil))))))
    (.cons (.ex (.me .extend (.var 7) (.cons (.lc (.tup (.cons (.var 8) (.cons (.ix (.ix (.var 18) (.int 0)) (.var 16)) (.cons (.var 19) (.cons (.ix (.ix (.var 12) (.int 2)) (.var 16)) .nil))))) (.tp [(.nm 16), (.nm 19)]) (.enum (.ix (.var 11) (.int 2))) .none [16, 19]) .nil))) .nil))) .nil)) .nil)))))
    (.cons (.ret (.bi .tuple (.cons (.lc (.ix (.var 6) (.var 16)) (.nm 16) (.rng1 (.bi .len (.cons (.var 2) .nil))) .none [16]) .nil))) .nil))))
def b_law_start : Ss Fn :=
    .cons (.ret (.lst (.cons (.lc (.bi .int (.cons (.var 1) .nil)) (.nm 1) (.val (.sl (.var 0) .none (.some (.int 63)))) .none [1]) (.cons (.int 0) (.cons (.int 0) (.cons (.int 0) (.cons (.int 20) .nil))))))) .nil
def b_law_fill : Ss Fn :=
    .cons (.sub (.var 0) (.int 3) (.bin .Add (.ix (.var 0) (.int 3)) (.int 1)))
    (.cons (.set 1 (.bin .Add (.bin .Mult (.ix (.var 0) (.int 3)) (.int 69621)) (.int 12345)))
    (.cons (.ite (.cmp .Lt (.ix (.var 0) (.int 1)) (.bi .len (.cons (.ix (.var 0) (.int 0)) .nil))) (.cons (.set 1 (.bi .max2 (.cons (.ix (.ix (.var 0) (.int 0)) (.ix (.var 0) (.int 1))) (.cons (.bin .Sub (.bin .Sub (.int 0) (.int 1)) (.ix (.ix (.var 0) (.int 0)) (.ix (.var 0) (.int 1)))) .nil))))
    (.cons (.sub (.var 0) (.int 1) (.bin .Add (.ix (.var 0) (.int 1)) (.int 1)))
    (.cons (.ite (.cmp .GtE (.var 1) (.bin .Pow (.int 10) (.int 18))) (.cons (.ret (.var 1)) .nil) (.nil)) .nil))) (.nil))
    (.cons (.ite (.and (.cons (.ix (.var 0) (.int 0)) (.cons (.cmp .GtE (.ix (.var 0) (.int 1)) (.bi .len (.cons (.ix (.var 0) (.int 0)) .nil))) .nil))) (.cons (.set 1 (.bin .Add (.var 1) (.bin .Mod (.bi .int (.cons (.ix (.ix (.var 0) (.int 0)) (.neg (.int 1))) .nil)) (.int 1000003)))) .nil) (.nil))
    (.cons (.set 1 (.bin .Mod (.bi .int (.cons (.bin .Add (.bin .Mult (.var 1) (.int 48271)) (.bin .Mult (.ix (.var 0) (.int 3)) (.int 69621))) .nil)) (.int 2147483647)))
    (.cons (.ret (.bin .Add (.bin .FloorDiv (.bi .int (.cons (.bin .Add (.bin .Add (.bin .Mult (.var 1) (.var 1)) (.bin .Mult (.ix (.var 0) (.int 3)) (.int 7919))) (.int 11)) .nil)) (.int 64)) (.int 36028797018963968))) .nil)))))
def b_law_take : Ss Fn :=
    .cons (.ite (.cmp .Lt (.ix (.var 0) (.int 2)) (.var 1)) (.cons (.sub (.var 0) (.int 2) (.call .law_fill (.cons (.var 0) .nil))) .nil) (.nil))
    (.cons (.set 2 (.bin .Mod (.bi .int (.cons (.ix (.var 0) (.int 2)) .nil)) (.var 1)))
    (.cons (.sub (.var 0) (.int 2) (.bin .FloorDiv (.ix (.var 0) (.int 2)) (.var 1)))
    (.cons (.ret (.var 2)) .nil)))
def b_law_signature : Ss Fn :=
    .cons (.unp [(.nm 5), (.nm 6)] (.tup (.cons (.tup (.cons (.tup .nil) (.cons (.str "a") .nil))) (.cons (.tup (.cons (.tup .nil) (.cons (.str "b") .nil))) .nil))))
    (.cons (.set 1 (.tup (.cons (.tup (.cons (.var 5) .nil)) (.cons (.str "a") .nil))))
    (.cons (.set 2 (.lst (.cons (.tup (.cons (.str "c") (.cons (.var 5) .nil))) (.cons (.tup (.cons (.str "f") (.cons (.tup (.cons (.tup (.cons (.var 5) (.cons (.var 5) .nil))) (.cons (.str "a") .nil))) .nil))) (.cons (.tup (.cons (.str "g") (.cons (.var 1) .nil))) (.cons (.tup (.cons (.str "lam") (.cons (.tup (.cons (.tup (.cons (.var 1) .nil)) (.cons (.str "a") .nil))) .nil))) (.cons (.tup (.cons (.str "e") (.cons (.var 6) .nil))) (.cons (.tup (.cons (.str "k") (.cons (.tup (.cons (.tup (.cons (.var 5) (.cons (.var 6) .nil))) (.cons (.str "b") .nil))) .nil))) (.cons (.tup (.cons (.str "d") (.cons (.var 5) .nil))) .nil)))))))))
    (.cons (.set 2 (.bin .Add (.var 2) (.lst (.cons (.tup (.cons (.str "w") (.cons (.tup (.cons (.tup (.cons (.tup (.cons (.tup (.cons (.var 5) (.cons (.var 5) .nil))) (.cons (.str "a") .nil))) .nil)) (.cons (.str "b") .nil))) .nil))) (.cons (.tup (.cons (.str "m") (.cons (.tup (.cons (.tup (.cons (.var 1) (.cons (.var 6) .nil))) (.cons (.str "a") .nil))) .nil))) .nil)))))
    (.cons (.set 3 (.me .join (.str "") (.cons (.lc (.ix (.str "abdeghjklmnpqrvwxy") (.call .law_take (.cons (.var 0) (.cons (.int 18) .nil)))) (.nm 7) (.rng1 (.call .law_take (.cons (.var 0) (.cons (.int 4) .nil)))) .none [7]) .nil)))
    (.cons (.set 4 (.bin .Add (.lst (.cons (.ix (.var 2) (.int 0)) (.cons (.ix (.var 2) (.int 4)) .nil))) (.lc (.var 8) (.nm 8) (.val (.bin .Add (.sl (.var 2) (.some (.int 1)) (.some (.int 4))) (.sl (.var 2) (.some (.int 5)) .none))) (.some (.cmp .NotEq (.call .law_take (.cons (.var 0) (.cons (.int 3) .nil))) (.int 0))) [8])))
    (.cons (.ret (.bi .tuple (.cons (.lc (.tup (.cons (.bin .Add (.var 3) (.var 9)) (.cons (.var 10) .nil))) (.tp [(.nm 9), (.nm 10)]) (.val (.var 4)) .none [9, 10]) .nil))) .nil))))))
def b_law_kind : Ss Fn :=
    .cons (.set 2 (.ix (.lst (.cons (.str "a") (.cons (.str "a") (.cons (.str "b") .nil)))) (.call .law_take (.cons (.var 0) (.cons (.int 3) .nil)))))
    (.cons (.ite (.cmp .Eq (.var 1) (.int 0)) (.cons (.ret (.tup (.cons (.tup .nil) (.cons (.var 2) .nil)))) .nil) (.nil))
    (.cons (.set 3 (.ix (.lst (.cons (.int 0) (.cons (.int 1) (.cons (.int 1) (.cons (.int 2) (.cons (.int 3) .nil)))))) (.call .law_take (.cons (.var 0) (.cons (.int 5) .nil)))))
    (.cons (.ret (.tup (.cons (.bi .tuple (.cons (.lc (.call .law_kind (.cons (.var 0) (.cons (.ix (.lst (.cons (.bin .Sub (.var 1) (.int 1)) (.cons (.int 0) .nil))) (.bi .int (.cons (.cmp .NotEq (.call .law_take (.cons (.var 0) (.cons (.int 3) .nil))) (.int 0)) .nil))) .nil))) (.nm 4) (.rng1 (.var 3)) .none [4]) .nil)) (.cons (.var 2) .nil)))) .nil)))
def b_law_long : Ss Fn :=
    .cons (.set 2 (.bi .len (.cons (.ix (.var 1) (.int 0)) .nil)))
    (.cons (.ite (.cmp .Eq (.ix (.var 0) (.int 0)) (.str "b")) (.cons (.set 0 (.tup (.cons (.str "b") (.cons (.bin .Add (.ix (.var 0) (.int 1)) (.var 2)) .nil)))) .nil) (.nil))
    (.cons (.ret (.tup (.cons (.var 2) (.cons (.var 0) (.cons (.bi .tuple (.cons (.lc (.call .law_long (.cons (.tup (.cons (.str "b") (.cons (.bin .Sub (.bin .Sub (.var 2) (.int 1)) (.var 3)) .nil))) (.cons (.ix (.ix (.var 1) (.int 0)) (.var 3)) .nil))) (.nm 3) (.rng1 (.var 2)) .none [3]) .nil)) .nil))))) .nil))
def b_law_lifted : Ss Fn :=
    .cons (.unp [(.nm 4), (.nm 5), (.nm 6)] (.var 0))
    (.cons (.set 3 (.bin .Add (.var 2) (.var 4)))
    (.cons (.ite (.and (.cons (.cmp .Eq (.ix (.var 5) (.int 0)) (.str "b")) (.cons (.cmp .GtE (.ix (.var 5) (.int 1)) (.var 3)) .nil))) (.cons (.set 5 (.tup (.cons (.str "b") (.cons (.bin .Add (.ix (.var 5) (.int 1)) (.var 1)) .nil)))) .nil) (.nil))
    (.cons (.ret (.tup (.cons (.var 4) (.cons (.var 5) (.cons (.bi .tuple (.cons (.lc (.call .law_lifted (.cons (.var 7) (.cons (.var 1) (.cons (.var 3) .nil)))) (.nm 7) (.val (.var 6)) .none [7]) .nil)) .nil))))) .nil)))
def b_law_body : Ss Fn :=
    .cons (.set 4 (.bi .tuple (.cons (.lc (.call .law_within (.cons (.var 7) (.cons (.var 2) (.cons (.var 3) .nil)))) (.nm 7) (.val (.var 1)) .none [7]) .nil)))
    (.cons (.ite (.or (.cons (.cmp .NotEq (.ix (.var 0) (.int 0)) (.str "b")) (.cons (.cmp .Lt (.ix (.var 0) (.int 1)) (.var 3)) .nil))) (.cons (.ret (.lst (.cons (.var 0) (.cons (.var 4) .nil)))) .nil) (.nil))
    (.cons (.set 5 (.bin .Sub (.ix (.var 0) (.int 1)) (.var 3)))
    (.cons (.ite (.cmp .GtE (.var 5) (.bi .len (.cons (.var 2) .nil))) (.cons (.ret (.lst (.cons (.tup (.cons (.str "b") (.cons (.bin .Sub (.ix (.var 0) (.int 1)) (.bi .len (.cons (.var 2) .nil))) .nil))) (.cons (.var 4) .nil)))) .nil) (.nil))
    (.cons (.set 6 (.call .law_lifted (.cons (.ix (.var 2) (.bin .Sub (.bin .Sub (.bi .len (.cons (.var 2) .nil)) (.int 1)) (.var 5))) (.cons (.var 3) (.cons (.int 0) .nil)))))
    (.cons (.ret (.call .law_body (.cons (.ix (.var 6) (.int 1)) (.cons (.ix (.var 6) (.int 2)) (.cons (.var 4) (.cons (.int 0) .nil)))))) .nil)))))
def b_law_within : Ss Fn :=
    .cons (.set 3 (.call .law_body (.cons (.ix (.var 0) (.int 1)) (.cons (.ix (.var 0) (.int 2)) (.cons (.var 1) (.cons (.bin .Add (.var 2) (.ix (.var 0) (.int 0))) .nil))))))
    (.cons (.ret (.tup (.cons (.ix (.var 0) (.int 0)) (.cons (.ix (.var 3) (.int 0)) (.cons (.ix (.var 3) (.int 1)) .nil))))) .nil)
def b_law_filled : Ss Fn :=
    .cons (.unp [(.nm 4), (.nm 5), (.nm 6)] (.var 1))
    (.cons (.set 2 (.bi .tuple (.cons (.lc (.call .law_filled (.cons (.var 0) (.cons (.var 7) .nil))) (.nm 7) (.val (.var 6)) .none [7]) .nil)))
    (.cons (.ite (.cmp .NotEq (.ix (.var 5) (.int 0)) (.str "h")) (.cons (.ret (.tup (.cons (.var 4) (.cons (.var 5) (.cons (.var 2) .nil))))) .nil) (.nil))
    (.cons (.set 3 (.call .law_body (.cons (.ix (.ix (.var 0) (.ix (.var 5) (.int 1))) (.int 1)) (.cons (.ix (.ix (.var 0) (.ix (.var 5) (.int 1))) (.int 2)) (.cons (.var 2) (.cons (.int 0) .nil))))))
    (.cons (.ret (.tup (.cons (.var 4) (.cons (.ix (.var 3) (.int 0)) (.cons (.ix (.var 3) (.int 1)) .nil))))) .nil))))
def b_law_size : Ss Fn :=
    .cons (.ret (.bin .Add (.int 1) (.bi .sum (.cons (.lc (.call .law_size (.cons (.var 1) .nil)) (.nm 1) (.val (.ix (.var 0) (.int 2))) .none [1]) .nil)))) .nil
def b_law_is_int : Ss Fn :=
    .cons (.ret (.and (.cons (.isi (.var 0) "int") (.cons (.not (.isi (.var 0) "bool")) .nil)))) .nil
def b_law_needed : Ss Fn :=
    .cons (.ite (.or (.cons (.not (.isi (.var 3) "tuple")) (.cons (.cmp .NotEq (.bi .len (.cons (.var 3) .nil)) (.int 2)) .nil))) (.cons (.ret .non) .nil) (.nil))
    (.cons (.ite (.and (.cons (.cmp .Eq (.ix (.var 3) (.int 0)) (.str "c")) (.cons (.isi (.ix (.var 3) (.int 1)) "str") .nil))) (.cons (.ret (.me .get2 (.bi .dict (.cons (.var 0) .nil)) (.cons (.ix (.var 3) (.int 1)) (.cons .non .nil)))) .nil) (.nil))
    (.cons (.ite (.and (.cons (.cmp .Eq (.ix (.var 3) (.int 0)) (.str "b")) (.cons (.call .law_is_int (.cons (.ix (.var 3) (.int 1)) .nil)) (.cons (.cmp .GtE (.ix (.var 3) (.int 1)) (.int 0)) (.cons (.cmp .Lt (.ix (.var 3) (.int 1)) (.bi .len (.cons (.var 2) .nil))) .nil))))) (.cons (.ret (.ix (.var 2) (.bin .Sub (.bin .Sub (.bi .len (.cons (.var 2) .nil)) (.int 1)) (.ix (.var 3) (.int 1))))) .nil) (.nil))
    (.cons (.ite (.and (.cons (.cmp .Eq (.ix (.var 3) (.int 0)) (.str "h")) (.cons (.call .law_is_int (.cons (.ix (.var 3) (.int 1)) .nil)) (.cons (.cmp .GtE (.ix (.var 3) (.int 1)) (.int 0)) (.cons (.cmp .Lt (.ix (.var 3) (.int 1)) (.bi .len (.cons (.var 1) .nil))) .nil))))) (.cons (.ret (.ix (.var 1) (.ix (.var 3) (.int 1)))) .nil) (.nil))
    (.cons (.ret .non) .nil))))
def b_law_heads : Ss Fn :=
    .cons (.set 4 (.lc (.tup (.cons (.tup (.cons (.str "b") (.cons (.var 5) .nil))) (.cons (.ix (.var 2) (.bin .Sub (.bin .Sub (.bi .len (.cons (.var 2) .nil)) (.int 1)) (.var 5))) .nil))) (.nm 5) (.rng1 (.bi .len (.cons (.var 2) .nil))) .none [5]))
    (.cons (.set 4 (.bin .Add (.var 4) (.lc (.tup (.cons (.tup (.cons (.str "c") (.cons (.var 7) .nil))) (.cons (.var 8) .nil))) (.tp [(.nm 7), (.nm 8)]) (.val (.var 0)) .none [7, 8])))
    (.cons (.set 4 (.bin .Add (.var 4) (.lc (.tup (.cons (.tup (.cons (.str "h") (.cons (.var 5) .nil))) (.cons (.ix (.var 1) (.var 5)) .nil))) (.nm 5) (.rng1 (.bi .len (.cons (.var 1) .nil))) .none [5])))
    (.cons (.ret (.lc (.var 6) (.nm 6) (.val (.var 4)) (.some (.cmp .Eq (.ix (.ix (.var 6) (.int 1)) (.int 1)) (.var 3))) [6])) .nil)))
def b_law_least : Ss Fn :=
    .cons (.for (.tp [(.nm 2), (.nm 3)]) (.val (.var 0)) (.cons (.ite (.cmp .Eq (.var 3) (.tup (.cons (.tup .nil) (.cons (.ix (.var 1) (.int 1)) .nil)))) (.cons (.ret (.tup (.cons (.bi .len (.cons (.ix (.var 1) (.int 0)) .nil)) (.cons (.tup (.cons (.str "c") (.cons (.var 2) .nil))) (.cons (.tup .nil) .nil))))) .nil) (.nil)) .nil))
    (.cons (.ret .non) .nil)
def b_law_term : Ss Fn :=
    .cons (.sub (.var 0) (.int 4) (.bin .Sub (.ix (.var 0) (.int 4)) (.int 1)))
    (.cons (.set 6 (.bin .Add (.var 3) (.ix (.var 4) (.int 0))))
    (.cons (.set 7 (.call .law_heads (.cons (.var 1) (.cons (.var 2) (.cons (.var 6) (.cons (.ix (.var 4) (.int 1)) .nil))))))
    (.cons (.ite (.or (.cons (.cmp .Lt (.var 5) (.int 1)) (.cons (.cmp .Lt (.ix (.var 0) (.int 4)) (.int 1)) .nil))) (.cons (.set 7 (.lc (.var 11) (.nm 11) (.val (.var 7)) (.some (.cmp .Eq (.ix (.ix (.var 11) (.int 1)) (.int 0)) (.tup .nil))) [11])) .nil) (.nil))
    (.cons (.unp [(.nm 9), (.nm 10)] (.ix (.var 7) (.call .law_take (.cons (.var 0) (.cons (.bi .len (.cons (.var 7) .nil)) .nil)))))
    (.cons (.set 8 (.bi .tuple (.cons (.lc (.call .law_term (.cons (.var 0) (.cons (.var 1) (.cons (.var 2) (.cons (.var 6) (.cons (.var 12) (.cons (.bin .Sub (.var 5) (.int 1)) .nil))))))) (.nm 12) (.val (.ix (.var 10) (.int 0))) .none [12]) .nil)))
    (.cons (.ret (.tup (.cons (.bi .len (.cons (.ix (.var 4) (.int 0)) .nil)) (.cons (.var 9) (.cons (.var 8) .nil))))) .nil))))))
def b_law_number : Ss Fn :=
    .cons (.ret (.bin .Sub (.ix (.ix (.var 0) (.int 1)) (.int 1)) (.ix (.var 0) (.int 0)))) .nil
def b_law_named : Ss Fn :=
    .cons (.ite (.and (.cons (.cmp .Eq (.ix (.var 0) (.int 0)) (.str "b")) (.cons (.cmp .GtE (.ix (.var 0) (.int 1)) (.var 3)) .nil))) (.cons (.ite (.cmp .NotIn (.bin .Sub (.ix (.var 0) (.int 1)) (.var 3)) (.var 2)) (.cons (.ret .non) .nil) (.nil))
    (.cons (.set 0 (.tup (.cons (.str "b") (.cons (.bin .Sub (.bin .Sub (.bin .Add (.var 3) (.bi .len (.cons (.var 2) .nil))) (.int 1)) (.me .index (.var 2) (.cons (.bin .Sub (.ix (.var 0) (.int 1)) (.var 3)) .nil))) .nil)))) .nil)) (.nil))
    (.cons (.set 4 (.lst .nil))
    (.cons (.for (.nm 5) (.val (.var 1)) (.cons (.set 6 (.call .law_named (.cons (.ix (.var 5) (.int 1)) (.cons (.ix (.var 5) (.int 2)) (.cons (.var 2) (.cons (.bin .Add (.var 3) (.ix (.var 5) (.int 0))) .nil))))))
    (.cons (.ite (.isN (.var 6)) (.cons (.ret .non) .nil) (.nil))
    (.cons (.ex (.me .append (.var 4) (.cons (.tup (.cons (.ix (.var 5) (.int 0)) (.cons (.ix (.var 6) (.int 0)) (.cons (.ix (.var 6) (.int 1)) .nil)))) .nil))) .nil))))
    (.cons (.ret (.lst (.cons (.var 0) (.cons (.bi .tuple (.cons (.var 4) .nil)) .nil)))) .nil)))
def b_law_read : Ss Fn :=
    .cons (.ite (.cmp .Eq (.ix (.ix (.var 0) (.int 1)) (.int 0)) (.str "h")) (.cons (.set 3 (.lc (.call .law_number (.cons (.var 6) .nil)) (.nm 6) (.val (.ix (.var 0) (.int 2))) .none [6]))
    (.cons (.set 4 (.call .law_named (.cons (.ix (.var 1) (.int 1)) (.cons (.ix (.var 1) (.int 2)) (.cons (.var 3) (.cons (.int 0) .nil))))))
    (.cons (.ite (.isN (.var 4)) (.cons (.ret (.bl false)) .nil) (.nil))
    (.cons (.set 5 (.tup (.cons (.bi .len (.cons (.var 3) .nil)) (.cons (.ix (.var 4) (.int 0)) (.cons (.ix (.var 4) (.int 1)) .nil)))))
    (.cons (.ret (.cmp .Eq (.me .setdefault (.var 2) (.cons (.ix (.ix (.var 0) (.int 1)) (.int 1)) (.cons (.var 5) .nil))) (.var 5))) .nil))))) (.nil))
    (.cons (.ite (.or (.cons (.cmp .NotEq (.ix (.var 0) (.int 0)) (.ix (.var 1) (.int 0))) (.cons (.cmp .NotEq (.ix (.var 0) (.int 1)) (.ix (.var 1) (.int 1))) (.cons (.cmp .NotEq (.bi .len (.cons (.ix (.var 0) (.int 2)) .nil)) (.bi .len (.cons (.ix (.var 1) (.int 2)) .nil))) .nil)))) (.cons (.ret (.bl false)) .nil) (.nil))
    (.cons (.ret (.bi .all (.cons (.lc (.call .law_read (.cons (.ix (.ix (.var 0) (.int 2)) (.var 7)) (.cons (.ix (.ix (.var 1) (.int 2)) (.var 7)) (.cons (.var 2) .nil)))) (.nm 7) (.rng1 (.bi .len (.cons (.ix (.var 0) (.int 2)) .nil))) .none [7]) .nil))) .nil))
def b_law_more : Ss Fn :=
    .cons (.set 3 .dnew)
    (.cons (.for (.nm 4) (.rng1 (.bi .len (.cons (.var 0) .nil))) (.cons (.ite (.not (.call .law_read (.cons (.ix (.var 0) (.var 4)) (.cons (.ix (.var 1) (.var 4)) (.cons (.var 3) .nil))))) (.cons (.ret .non) .nil) (.nil)) .nil))
    (.cons (.ret (.bi .tuple (.cons (.lc (.me .get2 (.var 3) (.cons (.var 4) (.cons .non .nil))) (.nm 4) (.rng1 (.var 2)) .none [4]) .nil))) .nil))
def b_law_choice : Ss Fn :=
    .cons (.set 3 (.lst .nil))
    (.cons (.for (.nm 4) (.val (.var 2)) (.cons (.set 5 (.lc (.var 6) (.nm 6) (.rng1 (.bi .len (.cons (.var 1) .nil))) (.some (.and (.cons (.cmp .Eq (.ix (.var 1) (.bin .Sub (.bin .Sub (.bi .len (.cons (.var 1) .nil)) (.int 1)) (.var 6))) (.var 4)) (.cons (.cmp .NotIn (.var 6) (.var 3)) .nil)))) [6]))
    (.cons (.ite (.not (.var 5)) (.cons (.ret .non) .nil) (.nil))
    (.cons (.ex (.me .append (.var 3) (.cons (.ix (.var 5) (.call .law_take (.cons (.var 0) (.cons (.bi .len (.cons (.var 5) .nil)) .nil)))) .nil))) .nil))))
    (.cons (.ret (.var 3)) .nil))
def b_law_drawn : Ss Fn :=
    .cons (.sub (.var 0) (.int 4) (.bin .Sub (.ix (.var 0) (.int 4)) (.int 1)))
    (.cons (.set 6 (.bin .Add (.var 3) (.ix (.var 4) (.int 0))))
    (.cons (.set 7 (.call .law_heads (.cons (.var 1) (.cons (.var 2) (.cons (.var 6) (.cons (.ix (.var 4) (.int 1)) .nil))))))
    (.cons (.ite (.or (.cons (.cmp .Lt (.var 5) (.int 1)) (.cons (.cmp .Lt (.ix (.var 0) (.int 4)) (.int 1)) .nil))) (.cons (.set 7 (.lc (.var 12) (.nm 12) (.val (.var 7)) (.some (.or (.cons (.cmp .Eq (.ix (.ix (.var 12) (.int 1)) (.int 0)) (.tup .nil)) (.cons (.cmp .Eq (.ix (.ix (.var 12) (.int 0)) (.int 0)) (.str "h")) .nil)))) [12])) .nil) (.nil))
    (.cons (.unp [(.nm 9), (.nm 10)] (.ix (.var 7) (.call .law_take (.cons (.var 0) (.cons (.bi .len (.cons (.var 7) .nil)) .nil)))))
    (.cons (.ite (.cmp .Eq (.ix (.var 9) (.int 0)) (.str "h")) (.cons (.set 11 (.call .law_choice (.cons (.var 0) (.cons (.var 6) (.cons (.ix (.var 10) (.int 0)) .nil)))))
    (.cons (.ite (.isN (.var 11)) (.cons (.ret (.call .law_least (.cons (.var 1) (.cons (.var 4) .nil)))) .nil) (.nil))
    (.cons (.ret (.tup (.cons (.bi .len (.cons (.ix (.var 4) (.int 0)) .nil)) (.cons (.var 9) (.cons (.bi .tuple (.cons (.lc (.call .law_long (.cons (.tup (.cons (.str "b") (.cons (.ix (.var 11) (.var 14)) .nil))) (.cons (.ix (.ix (.var 10) (.int 0)) (.var 14)) .nil))) (.nm 14) (.rng1 (.bi .len (.cons (.var 11) .nil))) .none [14]) .nil)) .nil))))) .nil))) (.nil))
    (.cons (.set 8 (.bi .tuple (.cons (.lc (.call .law_drawn (.cons (.var 0) (.cons (.var 1) (.cons (.var 2) (.cons (.var 6) (.cons (.var 13) (.cons (.bin .Sub (.var 5) (.int 1)) .nil))))))) (.nm 13) (.val (.ix (.var 10) (.int 0))) .none [13]) .nil)))
    (.cons (.ret (.tup (.cons (.bi .len (.cons (.ix (.var 4) (.int 0)) .nil)) (.cons (.var 9) (.cons (.var 8) .nil))))) .nil)))))))
def b_law_met : Ss Fn :=
    .cons (.ite (.cmp .Eq (.ix (.ix (.var 0) (.int 1)) (.int 0)) (.str "h")) (.cons (.ex (.me .append (.var 1) (.cons (.var 0) .nil))) .nil) (.nil))
    (.cons (.for (.nm 2) (.val (.ix (.var 0) (.int 2))) (.cons (.ex (.call .law_met (.cons (.var 2) (.cons (.var 1) .nil)))) .nil))
    (.cons (.ret (.var 1)) .nil))
def b_law_ordered : Ss Fn :=
    .cons (.ite (.cmp .Eq (.ix (.ix (.var 0) (.int 1)) (.int 0)) (.str "h")) (.cons (.unp [(.nm 2), (.nm 3)] (.ix (.var 1) (.ix (.ix (.var 0) (.int 1)) (.int 1))))
    (.cons (.ret (.tup (.cons (.ix (.var 0) (.int 0)) (.cons (.tup (.cons (.str "h") (.cons (.var 2) .nil))) (.cons (.bi .tuple (.cons (.lc (.call .law_ordered (.cons (.ix (.ix (.var 0) (.int 2)) (.var 5)) (.cons (.var 1) .nil))) (.nm 5) (.val (.var 3)) .none [5]) .nil)) .nil))))) .nil)) (.nil))
    (.cons (.ret (.tup (.cons (.ix (.var 0) (.int 0)) (.cons (.ix (.var 0) (.int 1)) (.cons (.bi .tuple (.cons (.lc (.call .law_ordered (.cons (.var 4) (.cons (.var 1) .nil))) (.nm 4) (.val (.ix (.var 0) (.int 2))) .none [4]) .nil)) .nil))))) .nil)
def b_law_rows_of : Ss Fn :=
    .cons (.set 2 .dnew)
    (.cons (.set 3 (.lst .nil))
    (.cons (.for (.nm 4) (.val (.var 1)) (.cons (.for (.nm 5) (.val (.call .law_met (.cons (.var 4) (.cons (.lst .nil) .nil)))) (.cons (.set 6 (.ix (.ix (.var 5) (.int 1)) (.int 1)))
    (.cons (.ite (.cmp .NotIn (.var 6) (.var 2)) (.cons (.set 7 (.bi .sorted (.cons (.lc (.tup (.cons (.bin .Sub (.int 0) (.call .law_number (.cons (.ix (.ix (.var 5) (.int 2)) (.var 10)) .nil))) (.cons (.var 10) .nil))) (.nm 10) (.rng1 (.bi .len (.cons (.ix (.var 5) (.int 2)) .nil))) .none [10]) .nil)))
    (.cons (.set 8 (.lc (.ix (.var 9) (.int 1)) (.nm 9) (.val (.var 7)) .none [9]))
    (.cons (.sub (.var 2) (.var 6) (.lst (.cons (.bi .len (.cons (.var 2) .nil)) (.cons (.var 8) .nil))))
    (.cons (.ex (.me .append (.var 3) (.cons (.tup (.cons (.bi .tuple (.cons (.lc (.ix (.ix (.ix (.var 0) (.var 6)) (.int 0)) (.var 10)) (.nm 10) (.val (.var 8)) .none [10]) .nil)) (.cons (.ix (.ix (.var 0) (.var 6)) (.int 1)) .nil))) .nil))) .nil)))) (.nil)) .nil))) .nil))
    (.cons (.ret (.lst (.cons (.var 2) (.cons (.bi .tuple (.cons (.var 3) .nil)) .nil)))) .nil)))
def b_law_tidied : Ss Fn :=
    .cons (.unp [(.nm 2), (.nm 3)] (.call .law_rows_of (.cons (.var 0) (.cons (.var 1) .nil))))
    (.cons (.ret (.tup (.cons (.var 3) (.cons (.bi .tuple (.cons (.lc (.call .law_ordered (.cons (.var 4) (.cons (.var 2) .nil))) (.nm 4) (.val (.var 1)) .none [4]) .nil)) .nil)))) .nil)
def b_law_other : Ss Fn :=
    .cons (.sub (.var 6) (.int 0) (.bin .Sub (.ix (.var 6) (.int 0)) (.int 1)))
    (.cons (.ite (.cmp .Eq (.ix (.var 6) (.int 0)) (.int 0)) (.cons (.sub (.var 0) (.int 4) (.int 4))
    (.cons (.ret (.call .law_term (.cons (.var 0) (.cons (.var 1) (.cons (.var 2) (.cons (.var 3) (.cons (.var 4) (.cons (.int 2) .nil)))))))) .nil)) (.nil))
    (.cons (.set 7 (.bin .Add (.var 3) (.ix (.var 4) (.int 0))))
    (.cons (.set 8 (.call .law_needed (.cons (.var 1) (.cons (.var 2) (.cons (.var 7) (.cons (.ix (.var 5) (.int 1)) .nil))))))
    (.cons (.set 9 (.lc (.call .law_other (.cons (.var 0) (.cons (.var 1) (.cons (.var 2) (.cons (.var 7) (.cons (.ix (.ix (.var 8) (.int 0)) (.var 10)) (.cons (.ix (.ix (.var 5) (.int 2)) (.var 10)) (.cons (.var 6) .nil)))))))) (.nm 10) (.rng1 (.bi .len (.cons (.ix (.var 5) (.int 2)) .nil))) .none [10]))
    (.cons (.ret (.tup (.cons (.ix (.var 5) (.int 0)) (.cons (.ix (.var 5) (.int 1)) (.cons (.bi .tuple (.cons (.var 9) .nil)) .nil))))) .nil)))))
def b_law_is_apt : Ss Fn :=
    .cons (.set 1 (.lst .nil))
    (.cons (.for (.nm 2) (.val (.var 0)) (.cons (.par [3, 4, 5] (.cons (.lst (.cons (.tup (.cons (.var 2) (.cons (.int 1) .nil))) .nil)) (.cons (.int 0) (.cons (.int 0) .nil))))
    (.cons (.whl (.var 3) (.cons (.unp [(.nm 6), (.nm 7)] (.me .pop (.var 3) .nil))
    (.cons (.par [4, 5] (.cons (.bin .Add (.var 4) (.int 1)) (.cons (.bi .max2 (.cons (.var 5) (.cons (.var 7) .nil))) .nil)))
    (.cons (.ex (.me .extend (.var 3) (.cons (.lc (.tup (.cons (.var 8) (.cons (.bin .Add (.var 7) (.int 1)) .nil))) (.nm 8) (.val (.ix (.var 6) (.int 2))) .none [8]) .nil))) .nil))))
    (.cons (.ex (.me .append (.var 1) (.cons (.and (.cons (.cmp .LtE (.var 4) (.int 200)) (.cons (.cmp .LtE (.var 5) (.int 20)) .nil))) .nil))) .nil))))
    (.cons (.ret (.bi .all (.cons (.var 1) .nil))) .nil))
def b_law : Ss Fn :=
    .cons (.set 1 (.call .law_start (.cons (.var 0) .nil)))
    (.cons (.set 2 (.call .law_signature (.cons (.var 1) .nil)))
    (.cons (.set 3 (.bi .tuple (.cons (.lc (.call .law_kind (.cons (.var 1) (.cons (.int 2) .nil))) (.nm 13) (.rng1 (.bin .Add (.int 1) (.call .law_take (.cons (.var 1) (.cons (.int 3) .nil))))) .none [13]) .nil)))
    (.cons (.set 4 (.bi .tuple (.cons (.lc (.call .law_kind (.cons (.var 1) (.cons (.int 2) .nil))) (.nm 13) (.rng1 (.bin .Add (.int 1) (.call .law_take (.cons (.var 1) (.cons (.int 3) .nil))))) .none [13]) .nil)))
    (.cons (.set 5 (.lst .nil))
    (.cons (.for (.nm 6) (.val (.var 3)) (.cons (.sub (.var 1) (.int 4) (.bin .Add (.int 3) (.call .law_take (.cons (.var 1) (.cons (.int 8) .nil)))))
    (.cons (.ex (.me .append (.var 5) (.cons (.call .law_drawn (.cons (.var 1) (.cons (.var 2) (.cons (.var 4) (.cons (.tup .nil) (.cons (.var 6) (.cons (.bin .Add (.int 1) (.call .law_take (.cons (.var 1) (.cons (.int 3) .nil)))) .nil))))))) .nil))) .nil)))
    (.cons (.unp [(.nm 12), (.nm 5)] (.call .law_tidied (.cons (.var 4) (.cons (.var 5) .nil))))
    (.cons (.set 7 (.bi .tuple (.cons (.lc (.call .law_kind (.cons (.var 1) (.cons (.int 1) .nil))) (.nm 13) (.rng1 (.call .law_take (.cons (.var 1) (.cons (.int 3) .nil)))) .none [13]) .nil)))
    (.cons (.set 8 (.lst .nil))
    (.cons (.for (.nm 6) (.val (.var 12)) (.cons (.sub (.var 1) (.int 4) (.bin .Add (.int 3) (.call .law_take (.cons (.var 1) (.cons (.int 4) .nil)))))
    (.cons (.ex (.me .append (.var 8) (.cons (.call .law_term (.cons (.var 1) (.cons (.var 2) (.cons (.var 7) (.cons (.tup .nil) (.cons (.var 6) (.cons (.bin .Add (.int 1) (.call .law_take (.cons (.var 1) (.cons (.int 2) .nil)))) .nil))))))) .nil))) .nil)))
    (.cons (.set 9 (.bi .tuple (.cons (.lc (.call .law_filled (.cons (.var 8) (.cons (.var 16) .nil))) (.nm 16) (.val (.var 5)) .none [16]) .nil)))
    (.cons (.ite (.or (.cons (.cmp .Gt (.bi .sum (.cons (.lc (.call .law_size (.cons (.var 16) .nil)) (.nm 16) (.val (.var 9)) .none [16]) .nil)) (.int 150)) (.cons (.not (.call .law_is_apt (.cons (.bin .Add (.var 5) (.var 9)) .nil))) .nil))) (.cons (.ret (.bl true)) .nil) (.nil))
    (.cons (.set 10 (.call .more_of (.cons (.var 2) (.cons (.var 3) (.cons (.var 12) (.cons (.var 5) (.cons (.var 9) .nil)))))))
    (.cons (.ite (.or (.cons (.not (.isi (.var 10) "tuple")) (.cons (.cmp .NotEq (.var 10) (.bi .tuple (.cons (.var 8) .nil))) .nil))) (.cons (.ret (.bl false)) .nil) (.nil))
    (.cons (.for (.nm 11) (.rng1 (.int 3)) (.cons (.set 13 (.call .law_take (.cons (.var 1) (.cons (.bi .len (.cons (.var 3) .nil)) .nil))))
    (.cons (.set 14 (.bin .Add (.int 1) (.call .law_take (.cons (.var 1) (.cons (.call .law_size (.cons (.ix (.var 9) (.var 13)) .nil)) .nil)))))
    (.cons (.set 15 (.call .law_other (.cons (.var 1) (.cons (.var 2) (.cons (.var 7) (.cons (.tup .nil) (.cons (.ix (.var 3) (.var 13)) (.cons (.ix (.var 9) (.var 13)) (.cons (.lst (.cons (.var 14) .nil)) .nil)))))))))
    (.cons (.set 9 (.bin .Add (.bin .Add (.sl (.var 9) .none (.some (.var 13))) (.tup (.cons (.var 15) .nil))) (.sl (.var 9) (.some (.bin .Add (.var 13) (.int 1))) .none)))
    (.cons (.ite (.cmp .NotEq (.call .more_of (.cons (.var 2) (.cons (.var 3) (.cons (.var 12) (.cons (.var 5) (.cons (.var 9) .nil)))))) (.call .law_more (.cons (.var 5) (.cons (.var 9) (.cons (.bi .len (.cons (.var 12) .nil)) .nil))))) (.cons (.ret (.bl false)) .nil) (.nil)) .nil))))))
    (.cons (.ret (.bl true)) .nil)))))))))))))))
def boF : Fn → BX → Ss Fn
  | .is_integer, _ => b_is_integer
  | .type_of_head, _ => b_type_of_head
  | .own_binders, _ => b_own_binders
  | .long_binder, _ => b_long_binder
  | .changed__closed_over, b => b_changed__closed_over b.G b.us
  | .binder_of, _ => b_binder_of
  | .binders_of, _ => b_binders_of
  | .closed_over_change, _ => b_closed_over_change
  | .closed_over, b => b_closed_over b.cl
  | .more_of, _ => b_more_of
  | .law_start, _ => b_law_start
  | .law_fill, _ => b_law_fill
  | .law_take, _ => b_law_take
  | .law_signature, _ => b_law_signature
  | .law_kind, _ => b_law_kind
  | .law_long, _ => b_law_long
  | .law_lifted, _ => b_law_lifted
  | .law_body, _ => b_law_body
  | .law_within, _ => b_law_within
  | .law_filled, _ => b_law_filled
  | .law_size, _ => b_law_size
  | .law_is_int, _ => b_law_is_int
  | .law_needed, _ => b_law_needed
  | .law_heads, _ => b_law_heads
  | .law_least, _ => b_law_least
  | .law_term, _ => b_law_term
  | .law_number, _ => b_law_number
  | .law_named, _ => b_law_named
  | .law_read, _ => b_law_read
  | .law_more, _ => b_law_more
  | .law_choice, _ => b_law_choice
  | .law_drawn, _ => b_law_drawn
  | .law_met, _ => b_law_met
  | .law_ordered, _ => b_law_ordered
  | .law_rows_of, _ => b_law_rows_of
  | .law_tidied, _ => b_law_tidied
  | .law_other, _ => b_law_other
  | .law_is_apt, _ => b_law_is_apt
  | .law, _ => b_law
def lib : LibN Fn := ⟨nmF, qualF, stF, nsF, psF, kdF, boF⟩
/-- the tables of code of the defs that make defs -/
structure Mks (mg : Str → Option Value) (base : Heap) (Tb : List NdefX.NTab) (cv : Fn → Value) : Prop where
  m_closed_over : ∃ c P, LamX.TabB base mg c P ∧ cv .closed_over = .ref c ∧ (P, fun _ _ => qualF .closed_over_change) ∈ Tb ∧ ∀ p ∈ Tb, p.1 = P → p.2 = fun _ _ => qualF .closed_over_change
theorem sc_is_integer : FnScope (nsF .is_integer) (psF .is_integer) (defScope (stF .is_integer)) := ⟨rfl, rfl, rfl, by decide +kernel, rfl, by decide +kernel, by decide +kernel⟩
theorem sc_type_of_head : FnScope (nsF .type_of_head) (psF .type_of_head) (defScope (stF .type_of_head)) := ⟨rfl, rfl, rfl, by decide +kernel, rfl, by decide +kernel, by decide +kernel⟩
theorem sc_own_binders : FnScope (nsF .own_binders) (psF .own_binders) (defScope (stF .own_binders)) := ⟨rfl, rfl, rfl, by decide +kernel, rfl, by decide +kernel, by decide +kernel⟩
theorem sc_long_binder : FnScope (nsF .long_binder) (psF .long_binder) (defScope (stF .long_binder)) := ⟨rfl, rfl, rfl, by decide +kernel, rfl, by decide +kernel, by decide +kernel⟩
theorem sc_changed__closed_over : FnScope (nsF .changed__closed_over) (psF .changed__closed_over) (defScope (stF .changed__closed_over)) := ⟨rfl, rfl, rfl, by decide +kernel, rfl, by decide +kernel, by decide +kernel⟩
theorem sc_binder_of : FnScope (nsF .binder_of) (psF .binder_of) (defScope (stF .binder_of)) := ⟨rfl, rfl, rfl, by decide +kernel, rfl, by decide +kernel, by decide +kernel⟩
theorem sc_binders_of : FnScope (nsF .binders_of) (psF .binders_of) (defScope (stF .binders_of)) := ⟨rfl, rfl, rfl, by decide +kernel, rfl, by decide +kernel, by decide +kernel⟩
theorem sc_closed_over_change : NdefX.NScope (nsF .closed_over_change) (psF .closed_over_change) ["places", "strange"] (C8.fnScope (stF .closed_over_change)) := NdefX.nscope_by (by decide +kernel)
theorem nd_closed_over_change : NdefX.ndefB (defScope (stF .closed_over)) (C8.fnScope (stF .closed_over_change)) ["places", "strange"] = true := by decide +kernel
theorem sc_closed_over : FnScope (nsF .closed_over) (psF .closed_over) (defScope (stF .closed_over)) := ⟨rfl, rfl, rfl, by decide +kernel, rfl, by decide +kernel, by decide +kernel⟩
theorem sc_more_of : FnScope (nsF .more_of) (psF .more_of) (defScope (stF .more_of)) := ⟨rfl, rfl, rfl, by decide +kernel, rfl, by decide +kernel, by decide +kernel⟩
theorem sc_law_start : FnScope (nsF .law_start) (psF .law_start) (defScope (stF .law_start)) := ⟨rfl, rfl, rfl, by decide +kernel, rfl, by decide +kernel, by decide +kernel⟩
theorem sc_law_fill : FnScope (nsF .law_fill) (psF .law_fill) (defScope (stF .law_fill)) := ⟨rfl, rfl, rfl, by decide +kernel, rfl, by decide +kernel, by decide +kernel⟩
theorem sc_law_take : FnScope (nsF .law_take) (psF .law_take) (defScope (stF .law_take)) := ⟨rfl, rfl, rfl, by decide +kernel, rfl, by decide +kernel, by decide +kernel⟩
theorem sc_law_signature : FnScope (nsF .law_signature) (psF .law_signature) (defScope (stF .law_signature)) := ⟨rfl, rfl, rfl, by decide +kernel, rfl, by decide +kernel, by decide +kernel⟩
theorem sc_law_kind : FnScope (nsF .law_kind) (psF .law_kind) (defScope (stF .law_kind)) := ⟨rfl, rfl, rfl, by decide +kernel, rfl, by decide +kernel, by decide +kernel⟩
theorem sc_law_long : FnScope (nsF .law_long) (psF .law_long) (defScope (stF .law_long)) := ⟨rfl, rfl, rfl, by decide +kernel, rfl, by decide +kernel, by decide +kernel⟩
theorem sc_law_lifted : FnScope (nsF .law_lifted) (psF .law_lifted) (defScope (stF .law_lifted)) := ⟨rfl, rfl, rfl, by decide +kernel, rfl, by decide +kernel, by decide +kernel⟩
theorem sc_law_body : FnScope (nsF .law_body) (psF .law_body) (defScope (stF .law_body)) := ⟨rfl, rfl, rfl, by decide +kernel, rfl, by decide +kernel, by decide +kernel⟩
theorem sc_law_within : FnScope (nsF .law_within) (psF .law_within) (defScope (stF .law_within)) := ⟨rfl, rfl, rfl, by decide +kernel, rfl, by decide +kernel, by decide +kernel⟩
theorem sc_law_filled : FnScope (nsF .law_filled) (psF .law_filled) (defScope (stF .law_filled)) := ⟨rfl, rfl, rfl, by decide +kernel, rfl, by decide +kernel, by decide +kernel⟩
theorem sc_law_size : FnScope (nsF .law_size) (psF .law_size) (defScope (stF .law_size)) := ⟨rfl, rfl, rfl, by decide +kernel, rfl, by decide +kernel, by decide +kernel⟩
theorem sc_law_is_int : FnScope (nsF .law_is_int) (psF .law_is_int) (defScope (stF .law_is_int)) := ⟨rfl, rfl, rfl, by decide +kernel, rfl, by decide +kernel, by decide +kernel⟩
theorem sc_law_needed : FnScope (nsF .law_needed) (psF .law_needed) (defScope (stF .law_needed)) := ⟨rfl, rfl, rfl, by decide +kernel, rfl, by decide +kernel, by decide +kernel⟩
theorem sc_law_heads : FnScope (nsF .law_heads) (psF .law_heads) (defScope (stF .law_heads)) := ⟨rfl, rfl, rfl, by decide +kernel, rfl, by decide +kernel, by decide +kernel⟩
theorem sc_law_least : FnScope (nsF .law_least) (psF .law_least) (defScope (stF .law_least)) := ⟨rfl, rfl, rfl, by decide +kernel, rfl, by decide +kernel, by decide +kernel⟩
theorem sc_law_term : FnScope (nsF .law_term) (psF .law_term) (defScope (stF .law_term)) := ⟨rfl, rfl, rfl, by decide +kernel, rfl, by decide +kernel, by decide +kernel⟩
theorem sc_law_number : FnScope (nsF .law_number) (psF .law_number) (defScope (stF .law_number)) := ⟨rfl, rfl, rfl, by decide +kernel, rfl, by decide +kernel, by decide +kernel⟩
theorem sc_law_named : FnScope (nsF .law_named) (psF .law_named) (defScope (stF .law_named)) := ⟨rfl, rfl, rfl, by decide +kernel, rfl, by decide +kernel, by decide +kernel⟩
theorem sc_law_read : FnScope (nsF .law_read) (psF .law_read) (defScope (stF .law_read)) := ⟨rfl, rfl, rfl, by decide +kernel, rfl, by decide +kernel, by decide +kernel⟩
theorem sc_law_more : FnScope (nsF .law_more) (psF .law_more) (defScope (stF .law_more)) := ⟨rfl, rfl, rfl, by decide +kernel, rfl, by decide +kernel, by decide +kernel⟩
theorem sc_law_choice : FnScope (nsF .law_choice) (psF .law_choice) (defScope (stF .law_choice)) := ⟨rfl, rfl, rfl, by decide +kernel, rfl, by decide +kernel, by decide +kernel⟩
theorem sc_law_drawn : FnScope (nsF .law_drawn) (psF .law_drawn) (defScope (stF .law_drawn)) := ⟨rfl, rfl, rfl, by decide +kernel, rfl, by decide +kernel, by decide +kernel⟩
theorem sc_law_met : FnScope (nsF .law_met) (psF .law_met) (defScope (stF .law_met)) := ⟨rfl, rfl, rfl, by decide +kernel, rfl, by decide +kernel, by decide +kernel⟩
theorem sc_law_ordered : FnScope (nsF .law_ordered) (psF .law_ordered) (defScope (stF .law_ordered)) := ⟨rfl, rfl, rfl, by decide +kernel, rfl, by decide +kernel, by decide +kernel⟩
theorem sc_law_rows_of : FnScope (nsF .law_rows_of) (psF .law_rows_of) (defScope (stF .law_rows_of)) := ⟨rfl, rfl, rfl, by decide +kernel, rfl, by decide +kernel, by decide +kernel⟩
theorem sc_law_tidied : FnScope (nsF .law_tidied) (psF .law_tidied) (defScope (stF .law_tidied)) := ⟨rfl, rfl, rfl, by decide +kernel, rfl, by decide +kernel, by decide +kernel⟩
theorem sc_law_other : FnScope (nsF .law_other) (psF .law_other) (defScope (stF .law_other)) := ⟨rfl, rfl, rfl, by decide +kernel, rfl, by decide +kernel, by decide +kernel⟩
theorem sc_law_is_apt : FnScope (nsF .law_is_apt) (psF .law_is_apt) (defScope (stF .law_is_apt)) := ⟨rfl, rfl, rfl, by decide +kernel, rfl, by decide +kernel, by decide +kernel⟩
theorem sc_law : FnScope (nsF .law) (psF .law) (defScope (stF .law)) := ⟨rfl, rfl, rfl, by decide +kernel, rfl, by decide +kernel, by decide +kernel⟩
theorem scF : ∀ f, (∀ fr, kdF f ≠ .nest fr) → FnScope (nsF f) (psF f) (defScope (stF f))
  | .is_integer => fun _ => sc_is_integer
  | .type_of_head => fun _ => sc_type_of_head
  | .own_binders => fun _ => sc_own_binders
  | .long_binder => fun _ => sc_long_binder
  | .changed__closed_over => fun _ => sc_changed__closed_over
  | .binder_of => fun _ => sc_binder_of
  | .binders_of => fun _ => sc_binders_of
  | .closed_over_change => fun h => absurd rfl (h _)
  | .closed_over => fun _ => sc_closed_over
  | .more_of => fun _ => sc_more_of
  | .law_start => fun _ => sc_law_start
  | .law_fill => fun _ => sc_law_fill
  | .law_take => fun _ => sc_law_take
  | .law_signature => fun _ => sc_law_signature
  | .law_kind => fun _ => sc_law_kind
  | .law_long => fun _ => sc_law_long
  | .law_lifted => fun _ => sc_law_lifted
  | .law_body => fun _ => sc_law_body
  | .law_within => fun _ => sc_law_within
  | .law_filled => fun _ => sc_law_filled
  | .law_size => fun _ => sc_law_size
  | .law_is_int => fun _ => sc_law_is_int
  | .law_needed => fun _ => sc_law_needed
  | .law_heads => fun _ => sc_law_heads
  | .law_least => fun _ => sc_law_least
  | .law_term => fun _ => sc_law_term
  | .law_number => fun _ => sc_law_number
  | .law_named => fun _ => sc_law_named
  | .law_read => fun _ => sc_law_read
  | .law_more => fun _ => sc_law_more
  | .law_choice => fun _ => sc_law_choice
  | .law_drawn => fun _ => sc_law_drawn
  | .law_met => fun _ => sc_law_met
  | .law_ordered => fun _ => sc_law_ordered
  | .law_rows_of => fun _ => sc_law_rows_of
  | .law_tidied => fun _ => sc_law_tidied
  | .law_other => fun _ => sc_law_other
  | .law_is_apt => fun _ => sc_law_is_apt
  | .law => fun _ => sc_law
theorem snF : ∀ f fr, kdF f = .nest fr → NdefX.NScope (nsF f) (psF f) fr (C8.fnScope (stF f)) := by
  intro f fr e
  cases f
  · cases e
  · cases e
  · cases e
  · cases e
  · cases e
  · cases e
  · cases e
  · cases e; exact sc_closed_over_change
  · cases e
  · cases e
  · cases e
  · cases e
  · cases e
  · cases e
  · cases e
  · cases e
  · cases e
  · cases e
  · cases e
  · cases e
  · cases e
  · cases e
  · cases e
  · cases e
  · cases e
  · cases e
  · cases e
  · cases e
  · cases e
  · cases e
  · cases e
  · cases e
  · cases e
  · cases e
  · cases e
  · cases e
  · cases e
  · cases e
  · cases e

end K07

local macro_rules | `(tactic| walk_at "w1") => `(tactic| first
  | (with_reducible first
    | refine TV.w_int ?_
    | refine TV.w_bl ?_
    | refine TV.w_str ?_
    | refine TV.w_non ?_
    | refine TV.w_glob ?_
    | refine TV.w_tup ?_
    | refine TV.w_lst ?_
    | refine TV.w_bin ?_
    | refine TV.w_neg ?_
    | refine TV.w_cmp ?_
    | refine TV.w_chain ?_
    | refine TV.w_isN ?_
    | refine TV.w_notN ?_
    | refine TV.w_isi ?_
    | refine TV.w_and ?_
    | refine TV.w_or ?_
    | refine TV.w_not ?_
    | refine TV.w_ite ?_
    | refine TV.w_ix ?_
    | refine TV.w_sl ?_
    | refine TV.w_rev ?_
    | refine TV.w_call ?_
    | refine TV.w_bi ?_
    | refine TV.w_me ?_
    | refine TV.w_lc ?_
    | refine TV.w_dc ?_
    | refine TV.w_dnew ?_
    | refine TV.w_callC ?_
    | refine TV.ws_nil ?_
    | refine TV.ws_cons ?_
    | refine TV.wo_none ?_
    | refine TV.wo_some ?_
    | refine TV.wc_none ?_
    | refine TV.wc_some ?_
    | refine TV.wa_one ?_
    | refine TV.wa_cons ?_
    | refine TV.wr_one ?_
    | refine TV.wr_cons ?_
    | refine TV.t_and ?_
    | refine TV.t_or ?_
    | refine TV.t_not ?_
    | refine TV.t_cmp ?_
    | refine TV.t_chain ?_
    | refine TV.t_isN ?_
    | refine TV.t_notN ?_
    | refine TV.t_isi ?_
    | refine TV.t_ix ?_
    | refine TV.t_call ?_
    | refine TV.t_bi ?_
    | refine TV.ta_one ?_
    | refine TV.ta_cons ?_
    | refine TV.to_one ?_
    | refine TV.to_cons ?_
    | refine TV.sc_val ?_
    | refine TV.sc_rng1 ?_
    | refine TV.sc_enum ?_
    | refine TV.v_cons ?_
    | refine TV.v_nil ?_
    | refine TV.v_ex ?_
    | refine TV.v_ret ?_
    | refine TV.v_retN ?_
    | refine TV.v_pass ?_
    | refine TV.v_brk ?_
    | refine TV.v_cont ?_
    | refine TV.v_set ?_
    | refine TV.v_unp ?_
    | refine TV.v_par ?_
    | refine TV.v_ite ?_
    | refine TV.v_for ?_
    | refine TV.v_delsl ?_
    | refine TV.u_tp ?_
    | refine TV.g_nm ?_
    | refine TV.g_tp ?_
    | refine TV.g_cons ?_
    | refine TV.g_nil ?_
    | refine TV.ite_t ?_
    | refine TV.ite_f ?_
    | refine TV.c_lt ?_
    | refine TV.c_le ?_
    | refine TV.c_gt ?_
    | refine TV.c_ge ?_
    | refine TV.c_eqI ?_
    | refine TV.c_neI ?_
    | refine TV.c_eqX ?_
    | refine TV.c_neX ?_
    | refine TV.o_add ?_
    | refine TV.o_sub ?_
    | refine TV.b_int ?_
    | refine TV.b_max ?_
    | refine TV.b_min ?_)
  | ((with_reducible refine (show TV.wE _ (TV.E.var _) _ _ _ from ?_)); refine TV.w_var (by with_unfolding_all rfl) ?_)
  | ((with_reducible refine (show TV.wT _ (TV.E.var _) _ _ _ from ?_)); refine TV.t_var (by with_unfolding_all rfl) ?_)
  | ((with_reducible refine (show TV.ixS (TV.T.tup _) (TV.T.int _) _ _ from ?_)); refine TV.x_tup (by with_unfolding_all rfl) ?_)
  | ((with_reducible refine (show TV.biS TV.Bi.len [_] _ _ from ?_)); refine TV.b_len (by with_unfolding_all rfl) ?_)
  | ((with_reducible refine (show ite _ _ _ from ?_)); first | refine TV.ite_tt (by with_unfolding_all rfl) ?_ | refine TV.ite_ff (by with_unfolding_all rfl) ?_)
  | (with_reducible refine TV.ex_bl ?_)
  | (with_reducible refine TV.ex_int ?_)
  | ((with_reducible refine (show Exists _ from ?_)); refine TV.ex_some (by with_unfolding_all rfl) ?_))
local macro_rules | `(tactic| walk_at "wgo") => `(tactic| repeat (walk_at "w1"; try dsimp only [Bool.not_true, Bool.not_false]))
namespace K07
open PySem PySem.Spec TV
open L2 (ixN atI Key)
theorem call_of {Φ : Fn → TV.Con} {f : Fn} {c : TV.Con} {ts : List T} {μ : Mu} {Q : PQ} (h : Φ f = c) (p : c.pre ts μ) (q : ∀ t μ', c.post ts μ t μ' → Q t μ') : callS Φ f ts μ Q := by unfold callS; rw [h]; exact ⟨p, q⟩

/-! ### heads -/
def getI (l : List T) (i : Int) : T := (atI l i).getD .non
def hdTy (kvs : List (Key × T)) (hs own : List T) : T → T
  | .tup [.str x, .int i] => if x = "b" ∧ 0 ≤ i ∧ i < own.length then getI own (own.length - 1 - i) else if x = "h" ∧ 0 ≤ i ∧ i < hs.length then getI hs i else .non
  | .tup [.str x, .str y] => if x = "c" then (lookT kvs (.inr y)).getD .non else .non
  | _ => .non
def argsOf : T → List T
  | .tup [.tup l, _] => l
  | _ => []
def sortOf : T → T
  | .tup [_, s] => s
  | _ => .non
def sigD (s : T) : List (Key × T) := match s with
  | .tup l => dictOf ((pairsOf l).getD [])
  | _ => []
def itemsT : T → List T
  | .tup l => l
  | _ => []
/-- a value that is looked at: nothing mutable in it, neither deep nor wide -/
structure Bd (t : T) : Prop where
  pu : t.pure = true
  dp : t.depth ≤ 100
  wd : t.wide ≤ 100
theorem Bd.item {l : List T} (h : Bd (.tup l)) {x : T} (m : x ∈ l) : Bd x :=
  ⟨pures_mem (by have := h.pu; unfold T.pure at this; exact this) m, Nat.le_trans (depths_mem m) (by have := h.dp; rw [depth_eq] at this; omega), Nat.le_trans (wides_mem m) (by have := h.wd; rw [wide_eq] at this; omega)⟩
theorem Bd.len {l : List T} (h : Bd (.tup l)) : l.length ≤ 100 := by have := h.wd; rw [wide_eq] at this; omega
theorem Bd.lt {l : List T} (h : Bd (.tup l)) {x : T} (m : x ∈ l) : x.depth < (T.tup l).depth := by rw [depth_eq]; exact Nat.lt_succ_of_le (depths_mem m)
theorem line_eq : sizeLine = 16777216 := sizeLine_eq
/-- a pure def of one value, r levels -/
def cP1 (r k : Nat) (f : T → T) : TV.Con := ⟨fun ts μ => r ≤ k ∧ ∃ v, ts = [v] ∧ Bd v, fun ts μ t μ' => Ext μ μ' ∧ ∀ v, ts = [v] → t = f v⟩

variable {Φ : Fn → TV.Con} {k : Nat}
theorem ite_f' {p : Prop} [Decidable p] {A B : Prop} (h : ¬ p) (q : B) : if p then A else B := by rw [if_neg h]; exact q
def isIntT : T → Bool
  | .int _ => true
  | _ => false
theorem v_is_integer (v : T) (μ : Mu) (hv : v.pure = true) (post : T → Mu → Prop) (q : post (.bl (isIntT v)) μ) : wSs Φ b_is_integer (endsOf post) (startT 1 [v]) μ := by
  unfold b_is_integer
  walk_at "wgo"
  cases v <;> first | (unfold T.pure at hv; cases hv) | skip
  all_goals (walk_at "wgo"; exact q)

theorem bls_map {α : Type} {f : α → Bool} : ∀ {l : List α}, blsOf (l.map fun c => T.bl (f c)) = some (l.map f)
  | [] => rfl
  | x :: xs => by
    show (blsOf (xs.map fun c => T.bl (f c))).map (f x :: ·) = _
    rw [bls_map]; rfl
theorem all2_map {α β : Type} {f : α → β} : ∀ {l : List α} {ts : List β}, All2 (fun s t => t = f s) l ts → ts = l.map f
  | [], _, .nil => rfl
  | _ :: _, _, .cons e h => by rw [e, all2_map h]; rfl
theorem cP1.len {r k : Nat} {f : T → T} {ts : List T} {μ : Mu} (h : (cP1 r k f).pre ts μ) : ts.length = 1 := by
  obtain ⟨_, v, rfl, _⟩ := h; rfl
/-- a call of a pure def of one value -/
theorem call_P1 {f : Fn} {r k : Nat} {g : T → T} (h : Φ f = cP1 r k g) (hk : r ≤ k) {v : T} (hv : Bd v) {μ : Mu} {Q : PQ} (q : ∀ μ', Ext μ μ' → Q (g v) μ') : callS Φ f [v] μ Q :=
  call_of h ⟨hk, v, rfl, hv⟩ fun t μ' p => by rw [p.2 v rfl]; exact q μ' p.1
/-- type_of_head, r levels -/
def cHd (r k : Nat) : TV.Con := ⟨fun ts μ => r ≤ k ∧ ∃ tb kvs hs own h, ts = [.ref tb, .tup hs, .tup own, h] ∧ μ tb = some (.dic kvs) ∧ Bd h,
  fun ts μ t μ' => Ext μ μ' ∧ ∀ tb kvs hs own h, ts = [.ref tb, .tup hs, .tup own, h] → μ tb = some (.dic kvs) → t = hdTy kvs hs own h⟩
theorem call_Hd {f : Fn} {r : Nat} (h : Φ f = cHd r k) (hk : r ≤ k) {tb : Addr} {kvs : List (Key × T)} {hs own : List T} {hd : T} {μ : Mu} {Q : PQ} (e : μ tb = some (.dic kvs)) (b : Bd hd) (q : ∀ μ', Ext μ μ' → Q (hdTy kvs hs own hd) μ') : callS Φ f [.ref tb, .tup hs, .tup own, hd] μ Q :=
  call_of h ⟨hk, tb, kvs, hs, own, hd, rfl, e, b⟩ fun t μ' p => by rw [p.2 tb kvs hs own hd rfl e]; exact q μ' p.1
theorem atI_some {l : List T} {i : Int} (h0 : 0 ≤ i) (h1 : i < l.length) : atI l i = some (getI l i) := by
  unfold getI
  cases h : atI l i with
  | some t => rfl
  | none =>
    exfalso
    obtain ⟨n, rfl⟩ : ∃ n : Nat, i = n := ⟨i.toNat, by omega⟩
    have hn : n < l.length := by omega
    rw [L2.atI_nat (v := l[n]) (by simp [hn])] at h
    cases h
theorem hd_str {x : Str} {b : T} {kvs : List (Key × T)} {hs own : List T} (h1 : x ≠ "b") (h2 : x ≠ "c") (h3 : x ≠ "h") : hdTy kvs hs own (.tup [.str x, b]) = .non := by
  cases b <;> first | rfl | simp [hdTy, h1, h2, h3]
theorem v_type_of_head (h1 : ∃ k, 1 ≤ k ∧ Φ .is_integer = cP1 1 k fun v => .bl (isIntT v)) (tb : Addr) (kvs : List (Key × T)) (hs own : List T) (h : T) (μ : Mu) (hb : μ tb = some (.dic kvs)) (bh : Bd h) (post : T → Mu → Prop) (q : ∀ μ', Ext μ μ' → post (hdTy kvs hs own h) μ') :
    wSs Φ b_type_of_head (endsOf post) (startT 6 [.ref tb, .tup hs, .tup own, h]) μ := by
  obtain ⟨k, hk, h1⟩ := h1
  unfold b_type_of_head
  walk_at "wgo"
  cases h <;> first | exact absurd (show false = true from bh.pu) Bool.false_ne_true | skip
  case tup y =>
    walk_at "wgo"
    match y, bh, q with
    | [], bh, q => walk_at "wgo"; exact q _ ExtX.refl
    | [a], bh, q => walk_at "wgo"; cases a <;> exact q _ ExtX.refl
    | a :: b :: c :: z, bh, q =>
      refine ite_tt (by simp; omega) ?_
      walk_at "wgo"
      cases a <;> first | exact q _ ExtX.refl | (cases b <;> exact q _ ExtX.refl)
    | [a, b], bh, q =>
      walk_at "wgo"
      have ba : Bd a := bh.item (by simp)
      have bb : Bd b := bh.item (by simp)
      cases a <;> first | exact absurd (show false = true from ba.pu) Bool.false_ne_true | skip
      case str x =>
        walk_at "wgo"
        by_cases xb : x = "b"
        · subst xb
          walk_at "wgo"
          refine call_P1 h1 hk bb fun μ2 e2 => ?_
          walk_at "wgo"
          cases b <;> first | exact absurd (show false = true from bb.pu) Bool.false_ne_true | skip
          case int i =>
            walk_at "wgo"
            refine ite_b (fun h0 => ?_) (fun h0 => ?_)
            · walk_at "wgo"
              refine ite_b (fun h2 => ?_) (fun h2 => ?_)
              · walk_at "wgo"
                have h0' : 0 ≤ i := of_decide_eq_true h0
                have h2' : i < own.length := of_decide_eq_true h2
                refine x_tup (atI_some (by omega) (by omega)) ?_
                have : hdTy kvs hs own (.tup [.str "b", .int i]) = getI own (own.length - 1 - i) := by simp [hdTy, h0', h2']
                rw [this] at q
                exact q _ e2
              · walk_at "wgo"
                have h2' : ¬ i < own.length := of_decide_eq_false h2
                have : hdTy kvs hs own (.tup [.str "b", .int i]) = .non := by
                  have nb : ¬ (("b" : Str) = "h") := by decide
                  simp only [hdTy]
                  rw [if_neg (fun z => h2' z.2.2), if_neg (fun z => nb z.1)]
                rw [this] at q
                exact q _ e2
            · walk_at "wgo"
              have h0' : ¬ 0 ≤ i := of_decide_eq_false h0
              have : hdTy kvs hs own (.tup [.str "b", .int i]) = .non := by
                simp only [hdTy]
                rw [if_neg (fun z => h0' z.2.1), if_neg (fun z => h0' z.2.1)]
              rw [this] at q
              exact q _ e2
          case str y =>
            walk_at "wgo"
            have : hdTy kvs hs own (.tup [.str "b", .str y]) = .non := by
              have nb : ¬ (("b" : Str) = "c") := by decide
              simp only [hdTy]
              rw [if_neg nb]
            rw [this] at q
            exact q _ e2
          all_goals (walk_at "wgo"; exact q _ e2)
        · have eb : (x == ("b" : Str)) = false := by simpa using xb
          refine ite_ff eb ?_
          walk_at "wgo"
          by_cases xc : x = "c"
          · subst xc
            walk_at "wgo"
            cases b <;> first | exact absurd (show false = true from bb.pu) Bool.false_ne_true | skip
            case str y =>
              walk_at "wgo"
              refine ⟨⟨_, hb⟩, ?_⟩
              walk_at "wgo"
              refine m_get1 hb rfl ?_
              exact q _ ExtX.refl
            all_goals walk_at "wgo"
            case int i =>
              have : hdTy kvs hs own (.tup [.str "c", .int i]) = .non := by
                have n1 : ¬ (("c" : Str) = "b") := by decide
                have n2 : ¬ (("c" : Str) = "h") := by decide
                simp only [hdTy]
                rw [if_neg (fun z => n1 z.1), if_neg (fun z => n2 z.1)]
              rw [this] at q
              exact q _ ExtX.refl
            all_goals exact q _ ExtX.refl
          · have ec : (x == ("c" : Str)) = false := by simpa using xc
            refine ite_ff ec ?_
            walk_at "wgo"
            by_cases xh : x = "h"
            · subst xh
              walk_at "wgo"
              refine call_P1 h1 hk bb fun μ2 e2 => ?_
              walk_at "wgo"
              cases b <;> first | exact absurd (show false = true from bb.pu) Bool.false_ne_true | skip
              case int i =>
                have n1 : ¬ (("h" : Str) = "b") := by decide
                walk_at "wgo"
                refine ite_b (fun h0 => ?_) (fun h0 => ?_)
                · walk_at "wgo"
                  refine ite_b (fun h2 => ?_) (fun h2 => ?_)
                  · walk_at "wgo"
                    have h0' : 0 ≤ i := of_decide_eq_true h0
                    have h2' : i < hs.length := of_decide_eq_true h2
                    refine x_tup (atI_some (by omega) (by omega)) ?_
                    have : hdTy kvs hs own (.tup [.str "h", .int i]) = getI hs i := by
                      simp only [hdTy]
                      rw [if_neg (fun z => n1 z.1), if_pos ⟨trivial, h0', h2'⟩]
                    rw [this] at q
                    exact q _ e2
                  · walk_at "wgo"
                    have h2' : ¬ i < hs.length := of_decide_eq_false h2
                    have : hdTy kvs hs own (.tup [.str "h", .int i]) = .non := by
                      simp only [hdTy]
                      rw [if_neg (fun z => n1 z.1), if_neg (fun z => h2' z.2.2)]
                    rw [this] at q
                    exact q _ e2
                · walk_at "wgo"
                  have h0' : ¬ 0 ≤ i := of_decide_eq_false h0
                  have : hdTy kvs hs own (.tup [.str "h", .int i]) = .non := by
                    simp only [hdTy]
                    rw [if_neg (fun z => h0' z.2.1), if_neg (fun z => h0' z.2.1)]
                  rw [this] at q
                  exact q _ e2
              case str y =>
                walk_at "wgo"
                have : hdTy kvs hs own (.tup [.str "h", .str y]) = .non := by
                  have n2 : ¬ (("h" : Str) = "c") := by decide
                  simp only [hdTy]
                  rw [if_neg n2]
                rw [this] at q
                exact q _ e2
              all_goals (walk_at "wgo"; exact q _ e2)
            · have eh : (x == ("h" : Str)) = false := by simpa using xh
              refine ite_ff eh ?_
              walk_at "wgo"
              rw [hd_str xb xc xh] at q
              exact q _ ExtX.refl
      all_goals
        walk_at "wgo"
        refine c_eq (eqok_right ba.pu rfl (Nat.zero_le _)) ?_
        walk_at "wgo"
        refine c_eq (eqok_right ba.pu rfl (Nat.zero_le _)) ?_
        walk_at "wgo"
        refine c_eq (eqok_right ba.pu rfl (Nat.zero_le _)) ?_
        walk_at "wgo"
        cases b <;> exact q _ ExtX.refl
  all_goals (walk_at "wgo"; exact q _ ExtX.refl)

theorem v_law_is_int (v : T) (μ : Mu) (hv : v.pure = true) (post : T → Mu → Prop) (q : post (.bl (isIntT v)) μ) : wSs Φ b_law_is_int (endsOf post) (startT 1 [v]) μ := v_is_integer v μ hv post q
theorem all2_get {α β : Type} {P : α → β → Prop} {xs : List α} {ys : List β} (h : All2 P xs ys) : ∀ {i : Nat} {x : α}, xs[i]? = some x → ∃ y, ys[i]? = some y ∧ P x y := by
  induction h with
  | nil => intro i x e; simp at e
  | @cons a b xs ys p _ ih =>
    intro i x e
    cases i with
    | zero => simp at e; subst e; exact ⟨b, rfl, p⟩
    | succ i => simpa using ih (i := i) (by simpa using e)
/-- _law_needed, r levels -/
def cNd (r k : Nat) : TV.Con := ⟨fun ts μ => r ≤ k ∧ ∃ rows prs hs own h, ts = [.tup rows, .tup hs, .tup own, h] ∧ pairsOf rows = some prs ∧ Bd h,
  fun ts μ t μ' => Ext μ μ' ∧ ∀ rows hs own h, ts = [.tup rows, .tup hs, .tup own, h] → t = hdTy (sigD (.tup rows)) hs own h⟩
theorem call_Nd {f : Fn} {r : Nat} (h : Φ f = cNd r k) (hk : r ≤ k) {rows hs own : List T} {prs : List (Key × T)} {hd : T} {μ : Mu} {Q : PQ} (e : pairsOf rows = some prs) (b : Bd hd) (q : ∀ μ', Ext μ μ' → Q (hdTy (sigD (.tup rows)) hs own hd) μ') : callS Φ f [.tup rows, .tup hs, .tup own, hd] μ Q :=
  call_of h ⟨hk, rows, prs, hs, own, hd, rfl, e, b⟩ fun t μ' p => by rw [p.2 rows hs own hd rfl]; exact q μ' p.1
theorem v_law_needed (h1 : ∃ k, 1 ≤ k ∧ Φ .law_is_int = cP1 1 k fun v => .bl (isIntT v)) (rows hs own : List T) (prs : List (Key × T)) (h : T) (μ : Mu) (e0 : pairsOf rows = some prs) (bh : Bd h) (post : T → Mu → Prop) (q : ∀ μ', Ext μ μ' → post (hdTy (sigD (.tup rows)) hs own h) μ') :
    wSs Φ b_law_needed (endsOf post) (startT 4 [.tup rows, .tup hs, .tup own, h]) μ := by
  obtain ⟨k, hk, h1⟩ := h1
  have eD : sigD (.tup rows) = dictOf prs := by unfold sigD; simp only [e0]; rfl
  rw [eD] at q
  generalize eK : dictOf prs = kvs at q
  unfold b_law_needed
  walk_at "wgo"
  cases h <;> first | exact absurd (show false = true from bh.pu) Bool.false_ne_true | skip
  case tup y =>
    walk_at "wgo"
    match y, bh, q with
    | [], bh, q => walk_at "wgo"; exact q _ ExtX.refl
    | [a], bh, q => walk_at "wgo"; cases a <;> exact q _ ExtX.refl
    | a :: b :: c :: z, bh, q =>
      refine ite_tt (by simp; omega) ?_
      walk_at "wgo"
      cases a <;> first | exact q _ ExtX.refl | (cases b <;> exact q _ ExtX.refl)
    | [a, b], bh, q =>
      walk_at "wgo"
      have ba : Bd a := bh.item (by simp)
      have bb : Bd b := bh.item (by simp)
      cases a <;> first | exact absurd (show false = true from ba.pu) Bool.false_ne_true | skip
      case str x =>
        have nbc : ¬ (("b" : Str) = "c") := by decide
        have nbh : ¬ (("b" : Str) = "h") := by decide
        have nhb : ¬ (("h" : Str) = "b") := by decide
        have nhc : ¬ (("h" : Str) = "c") := by decide
        have ncb : ¬ (("c" : Str) = "b") := by decide
        have nch : ¬ (("c" : Str) = "h") := by decide
        walk_at "wgo"
        by_cases xc : x = "c"
        · subst xc
          walk_at "wgo"
          cases b <;> first | exact absurd (show false = true from bb.pu) Bool.false_ne_true | skip
          case str y =>
            walk_at "wgo"
            refine ⟨prs, e0, fun p hp => ?_⟩
            rw [eK]
            walk_at "wgo"
            refine ⟨⟨_, mset_same⟩, ?_⟩
            walk_at "wgo"
            refine m_get2 mset_same rfl ?_
            exact q _ (ExtX.new hp)
          all_goals walk_at "wgo"
          case int i =>
            have : hdTy kvs hs own (.tup [.str "c", .int i]) = .non := by
              simp only [hdTy]
              rw [if_neg (fun z => ncb z.1), if_neg (fun z => nch z.1)]
            rw [this] at q
            exact q _ ExtX.refl
          all_goals exact q _ ExtX.refl
        · refine ite_ff (by simpa using xc) ?_
          walk_at "wgo"
          by_cases xb : x = "b"
          · subst xb
            walk_at "wgo"
            refine call_P1 h1 hk bb fun μ2 e2 => ?_
            walk_at "wgo"
            cases b <;> first | exact absurd (show false = true from bb.pu) Bool.false_ne_true | skip
            case int i =>
              walk_at "wgo"
              refine ite_b (fun h0 => ?_) (fun h0 => ?_)
              · walk_at "wgo"
                refine ite_b (fun h2 => ?_) (fun h2 => ?_)
                · walk_at "wgo"
                  have h0' : 0 ≤ i := of_decide_eq_true h0
                  have h2' : i < own.length := of_decide_eq_true h2
                  refine x_tup (atI_some (by omega) (by omega)) ?_
                  have : hdTy kvs hs own (.tup [.str "b", .int i]) = getI own (own.length - 1 - i) := by simp [hdTy, h0', h2']
                  rw [this] at q
                  exact q _ e2
                · walk_at "wgo"
                  have h2' : ¬ i < own.length := of_decide_eq_false h2
                  have : hdTy kvs hs own (.tup [.str "b", .int i]) = .non := by
                    simp only [hdTy]
                    rw [if_neg (fun z => h2' z.2.2), if_neg (fun z => nbh z.1)]
                  rw [this] at q
                  exact q _ e2
              · walk_at "wgo"
                have h0' : ¬ 0 ≤ i := of_decide_eq_false h0
                have : hdTy kvs hs own (.tup [.str "b", .int i]) = .non := by
                  simp only [hdTy]
                  rw [if_neg (fun z => h0' z.2.1), if_neg (fun z => h0' z.2.1)]
                rw [this] at q
                exact q _ e2
            case str y =>
              walk_at "wgo"
              have : hdTy kvs hs own (.tup [.str "b", .str y]) = .non := by
                simp only [hdTy]
                rw [if_neg nbc]
              rw [this] at q
              exact q _ e2
            all_goals (walk_at "wgo"; exact q _ e2)
          · refine ite_ff (by simpa using xb) ?_
            walk_at "wgo"
            by_cases xh : x = "h"
            · subst xh
              walk_at "wgo"
              refine call_P1 h1 hk bb fun μ2 e2 => ?_
              walk_at "wgo"
              cases b <;> first | exact absurd (show false = true from bb.pu) Bool.false_ne_true | skip
              case int i =>
                walk_at "wgo"
                refine ite_b (fun h0 => ?_) (fun h0 => ?_)
                · walk_at "wgo"
                  refine ite_b (fun h2 => ?_) (fun h2 => ?_)
                  · walk_at "wgo"
                    have h0' : 0 ≤ i := of_decide_eq_true h0
                    have h2' : i < hs.length := of_decide_eq_true h2
                    refine x_tup (atI_some (by omega) (by omega)) ?_
                    have : hdTy kvs hs own (.tup [.str "h", .int i]) = getI hs i := by
                      simp only [hdTy]
                      rw [if_neg (fun z => nhb z.1), if_pos ⟨trivial, h0', h2'⟩]
                    rw [this] at q
                    exact q _ e2
                  · walk_at "wgo"
                    have h2' : ¬ i < hs.length := of_decide_eq_false h2
                    have : hdTy kvs hs own (.tup [.str "h", .int i]) = .non := by
                      simp only [hdTy]
                      rw [if_neg (fun z => nhb z.1), if_neg (fun z => h2' z.2.2)]
                    rw [this] at q
                    exact q _ e2
                · walk_at "wgo"
                  have h0' : ¬ 0 ≤ i := of_decide_eq_false h0
                  have : hdTy kvs hs own (.tup [.str "h", .int i]) = .non := by
                    simp only [hdTy]
                    rw [if_neg (fun z => h0' z.2.1), if_neg (fun z => h0' z.2.1)]
                  rw [this] at q
                  exact q _ e2
              case str y =>
                walk_at "wgo"
                have : hdTy kvs hs own (.tup [.str "h", .str y]) = .non := by
                  simp only [hdTy]
                  rw [if_neg nhc]
                rw [this] at q
                exact q _ e2
              all_goals (walk_at "wgo"; exact q _ e2)
            · refine ite_ff (by simpa using xh) ?_
              walk_at "wgo"
              rw [hd_str xb xc xh] at q
              exact q _ ExtX.refl
      all_goals
        walk_at "wgo"
        refine c_eq (eqok_right ba.pu rfl (Nat.zero_le _)) ?_
        walk_at "wgo"
        refine c_eq (eqok_right ba.pu rfl (Nat.zero_le _)) ?_
        walk_at "wgo"
        refine c_eq (eqok_right ba.pu rfl (Nat.zero_le _)) ?_
        walk_at "wgo"
        cases b <;> exact q _ ExtX.refl
  all_goals (walk_at "wgo"; exact q _ ExtX.refl)

theorem getI_mem {l : List T} {i : Int} (h0 : 0 ≤ i) (h1 : i < l.length) : getI l i ∈ l := atI_mem (atI_some h0 h1)
end K07

namespace K07
open PySem PySem.Spec TV
open L2 (ixN atI Key)
variable {Φ : Fn → TV.Con} {k : Nat}
/-- the cursor's two lists -/
structure CurAt (a p : Addr) (ns : List Int) (i1 i2 i3 i4 : Int) (μ : Mu) : Prop where
  c : μ a = some (.lst [.ref p, .int i1, .int i2, .int i3, .int i4])
  s : μ p = some (.lst (ns.map T.int))
  ne : p ≠ a
  n1 : 0 ≤ i1
  n2 : 0 ≤ i2
  n3 : 0 ≤ i3
/-- the cursor stands at a -/
def Cur (a ap : Addr) (μ : Mu) : Prop := ∃ ns i1 i2 i3 i4, CurAt a ap ns i1 i2 i3 i4 μ
/-- the cursor alone may have changed -/
abbrev ExtC (a : Addr) (μ μ' : Mu) : Prop := ExtX (fun b => b = a) μ μ'
section
variable {a p ap : Addr} {ns : List Int} {i1 i2 i3 i4 j1 j2 j3 j4 : Int} {μ μ' : Mu} {l : List T}
theorem CurAt.put (h : CurAt a p ns i1 i2 i3 i4 μ) (e : l = [.ref p, .int j1, .int j2, .int j3, .int j4]) (n1 : 0 ≤ j1) (n2 : 0 ≤ j2) (n3 : 0 ≤ j3) : CurAt a p ns j1 j2 j3 j4 (mset μ a (.lst l)) :=
  ⟨by rw [mset_same, e], by rw [mset_ne h.ne]; exact h.s, h.ne, n1, n2, n3⟩
theorem Cur.ext (h : Cur a ap μ) (e : Ext μ μ') : Cur a ap μ' := by
  obtain ⟨ns, i1, i2, i3, i4, h⟩ := h
  exact ⟨ns, i1, i2, i3, i4, Ext.at e h.c, Ext.at e h.s, h.ne, h.n1, h.n2, h.n3⟩
theorem Cur.there (h : Cur a ap μ) : ∃ o, μ a = some o := by
  obtain ⟨ns, i1, i2, i3, i4, h⟩ := h
  exact ⟨_, h.c⟩
theorem Cur.inner (h : Cur a ap μ) : ∃ o, μ ap = some o := by
  obtain ⟨ns, i1, i2, i3, i4, h⟩ := h
  exact ⟨_, h.s⟩
theorem Cur.later {D : Addr} {o : MO} (h : Cur a ap μ) (h1 : a ≠ D) (h2 : ap ≠ D) : Cur a ap (mset μ D o) := by
  obtain ⟨ns, i1, i2, i3, i4, h⟩ := h
  exact ⟨ns, i1, i2, i3, i4, by rw [mset_ne h1]; exact h.c, by rw [mset_ne h2]; exact h.s, h.ne, h.n1, h.n2, h.n3⟩
theorem Cur.new {D : Addr} {o : MO} (h : Cur a ap μ) (hD : μ D = none) : Cur a ap (mset μ D o) := h.ext (ExtX.new hD)
end
/-- the script: a list that nobody writes, or a list -/
def Scr (ns : List Int) (x : T) (μ : Mu) : Prop := x = .rol (ns.map T.int) ∨ ∃ r, x = .ref r ∧ μ r = some (.lst (ns.map T.int))
theorem Scr.sl {ns : List Int} {x : T} {μ : Mu} {Q : PQ} {lo hi : Option Int} (h : Scr ns x μ) (q : ∀ p, μ p = none → Q (.ref p) (mset μ p (.lst (cutL (ns.map T.int) lo hi)))) : slS x lo hi μ Q := by
  rcases h with rfl | ⟨r, rfl, e⟩
  · exact q
  · exact ⟨_, e, q⟩
def cSt (k : Nat) : TV.Con := ⟨fun ts μ => 1 ≤ k ∧ ∃ (ns : List Int) (x : T), ts = [x] ∧ Scr ns x μ ∧ ns.length ≤ 63, fun ts μ t μ' => ∃ a ap, t = .ref a ∧ Cur a ap μ' ∧ Ext μ μ' ∧ μ a = none⟩
theorem cutL_map {α β : Type} (f : α → β) (l : List α) (lo hi : Option Int) : cutL (l.map f) lo hi = (cutL l lo hi).map f := by
  unfold cutL
  rw [List.length_map, List.map_take, List.map_drop]
theorem cutL_len {α : Type} (l : List α) (lo hi : Option Int) : (cutL l lo hi).length ≤ l.length := by
  unfold cutL
  rw [List.length_take, List.length_drop]
  omega
theorem v_law_start (ns : List Int) (x : T) (hn : ns.length ≤ 63) (μ : Mu) (hx : Scr ns x μ) (post : T → Mu → Prop) (q : ∀ a ap μ', Cur a ap μ' → Ext μ μ' → μ a = none → post (.ref a) μ') : wSs Φ b_law_start (endsOf post) (startT 2 [x]) μ := by
  unfold b_law_start
  walk_at "wgo"
  refine hx.sl fun p hp => ?_
  rw [cutL_map]
  generalize hm : cutL ns none (some 63) = ms
  have lm : ms.length ≤ 63 := by rw [← hm]; exact Nat.le_trans (cutL_len _ _ _) hn
  refine ⟨ms.map T.int, mset_same, ?_⟩
  intro D hD
  rw [wEc_none]
  refine lc_map (wE_mono _) NoA (fun _ => True) (fun s t => ∃ i, s = T.int i ∧ t = T.int i) hD (fun z => z) trivial (fun _ _ _ => trivial) (fun μ' e _ => Ext.at e mset_same) (by rw [line_eq, List.length_map]; omega) (fun s hs μ' e _ => ?_) fun ts μ' all e _ hlst => ?_
  · obtain ⟨i, _, rfl⟩ := List.mem_map.mp hs
    walk_at "wgo"
    exact ⟨ExtX.refl, trivial, i, rfl, rfl⟩
  · have ets : ts = ms.map T.int := by
      have : ∀ {ms : List Int} {ts : List T}, All2 (fun s t => ∃ i, s = T.int i ∧ t = T.int i) (ms.map T.int) ts → ts = ms.map T.int := by
        intro ms
        induction ms with
        | nil => intro ts h; cases h; rfl
        | cons m ms ih =>
          intro ts h
          cases h with
          | cons p h =>
            obtain ⟨i, e1, e2⟩ := p
            rw [ih h, e2, ← e1]; rfl
      exact this all
    rw [ets] at hlst
    walk_at "wgo"
    refine ⟨by rw [line_eq]; simp, fun a ha => ?_⟩
    have hne : D ≠ a := ne_of_new ha hlst
    have ex : Ext μ μ' := (ExtX.new hp).trans e
    refine q a D _ ⟨ms, 0, 0, 0, 20, mset_same, by rw [mset_ne hne]; exact hlst, hne, by decide, by decide, by decide⟩ (ex.trans (ExtX.new ha)) ?_
    cases h : μ a with
    | none => rfl
    | some o => rw [Ext.at ex h] at ha; cases ha
def cFi (k : Nat) : TV.Con := ⟨fun ts μ => 1 ≤ k ∧ ∃ a ap, ts = [.ref a] ∧ Cur a ap μ, fun ts μ t μ' => ∀ a ap, ts = [.ref a] → Cur a ap μ → ∃ n, t = .int n ∧ 0 ≤ n ∧ Cur a ap μ' ∧ ExtC a μ μ'⟩
theorem fill_tail {a ap : Addr} {ns : List Int} {i1 i2 i3 i4 : Int} {μ0 μ : Mu} (hc : CurAt a ap ns i1 i2 i3 i4 μ) (ex : ExtC a μ0 μ) (n : Int) (post : T → Mu → Prop) (q : ∀ n μ', 0 ≤ n → Cur a ap μ' → ExtC a μ0 μ' → post (.int n) μ') :
    wSs Φ (Ss.drop 3 b_law_fill) (endsOf post) [some (.ref a), some (.int n)] μ := by
  have fin : ∀ n : Int, wSs Φ (Ss.drop 4 b_law_fill) (endsOf post) [some (.ref a), some (.int n)] μ := by
    intro n
    dsimp only [b_law_fill, Ss.drop]
    walk_at "wgo"
    refine o_mul (.inr ⟨by decide, by decide⟩) ?_
    walk_at "wgo"
    refine x_lst hc.c rfl ?_
    walk_at "wgo"
    refine o_mul (.inr ⟨by decide, by decide⟩) ?_
    walk_at "wgo"
    refine o_mod (by decide) ?_
    walk_at "wgo"
    have h0 := Int.emod_nonneg (n * 48271 + i3 * 69621) (show (2147483647 : Int) ≠ 0 by decide)
    have h1 := Int.emod_lt_of_pos (n * 48271 + i3 * 69621) (show (0 : Int) < 2147483647 by decide)
    generalize (n * 48271 + i3 * 69621) % 2147483647 = z at h0 h1
    refine o_mul (.inl ⟨by omega, by omega⟩) ?_
    walk_at "wgo"
    refine x_lst hc.c rfl ?_
    walk_at "wgo"
    refine o_mul (.inr ⟨by decide, by decide⟩) ?_
    walk_at "wgo"
    refine o_div (by decide) (by decide) ?_
    walk_at "wgo"
    have n3 := hc.n3
    have hzz : 0 ≤ z * z := Int.mul_nonneg h0 h0
    refine q _ _ ?_ ⟨ns, i1, i2, i3, i4, hc⟩ ex
    have : 0 ≤ (z * z + i3 * 7919 + 11) / 64 := Int.ediv_nonneg (by omega) (by decide)
    omega
  refine v_step rfl ?_
  walk_at "wgo"
  refine x_lst hc.c rfl ?_
  walk_at "wgo"
  refine ⟨_, tru_lst hc.s, ?_⟩
  cases ns with
  | nil =>
    walk_at "wgo"
    exact fin n
  | cons z zs =>
    walk_at "wgo"
    refine x_lst hc.c rfl ?_
    walk_at "wgo"
    refine x_lst hc.c rfl ?_
    walk_at "wgo"
    refine b_len (len_lst hc.s) ?_
    walk_at "wgo"
    refine ite_b (fun h => ?_) (fun h => ?_)
    · walk_at "wgo"
      refine x_lst hc.c rfl ?_
      walk_at "wgo"
      obtain ⟨y, hlast⟩ : ∃ y, atI ((z :: zs).map T.int) (-1) = some (.int y) := by
        rcases List.eq_nil_or_concat (z :: zs) with e | ⟨ys, y, e⟩
        · cases e
        · exact ⟨y, by rw [e, List.concat_eq_append, List.map_append]; exact L2.atI_last _ _⟩
      refine x_lst hc.s hlast ?_
      walk_at "wgo"
      refine o_mod (by decide) ?_
      walk_at "wgo"
      exact fin _
    · walk_at "wgo"
      exact fin n
theorem v_law_fill (a ap : Addr) (μ : Mu) (hc : Cur a ap μ) (post : T → Mu → Prop) (q : ∀ n μ', 0 ≤ n → Cur a ap μ' → ExtC a μ μ' → post (.int n) μ') : wSs Φ b_law_fill (endsOf post) (startT 2 [.ref a]) μ := by
  obtain ⟨ns, i1, i2, i3, i4, hc⟩ := hc
  refine v_step rfl ?_
  refine v_subL ?_
  walk_at "wgo"
  refine x_lst hc.c rfl ?_
  walk_at "wgo"
  refine ⟨_, _, _, 3, rfl, hc.c, rfl, rfl, ?_⟩
  have h1 := hc.put (l := [T.ref ap, .int i1, .int i2, .int i3, .int i4].set 3 (.int (i3 + 1))) rfl hc.n1 hc.n2 (by have := hc.n3; omega)
  have e1 : ExtC a μ (mset μ a (.lst ([T.ref ap, .int i1, .int i2, .int i3, .int i4].set 3 (.int (i3 + 1))))) := ExtX.own rfl
  generalize mset μ a (.lst ([T.ref ap, .int i1, .int i2, .int i3, .int i4].set 3 (.int (i3 + 1)))) = μ1 at h1 e1
  refine v_step rfl ?_
  walk_at "wgo"
  refine x_lst h1.c rfl ?_
  walk_at "wgo"
  refine o_mul (.inr ⟨by decide, by decide⟩) ?_
  walk_at "wgo"
  refine v_step rfl ?_
  walk_at "wgo"
  refine x_lst h1.c rfl ?_
  walk_at "wgo"
  refine x_lst h1.c rfl ?_
  walk_at "wgo"
  refine b_len (len_lst h1.s) ?_
  walk_at "wgo"
  refine ite_b (fun h => ?_) (fun h => ?_)
  · have h' : i1 < ((ns.map T.int).length : Nat) := of_decide_eq_true h
    rw [List.length_map] at h'
    have n1 := hc.n1
    obtain ⟨z, hz⟩ : ∃ z, atI (ns.map T.int) i1 = some (.int z) := by
      have hn : i1.toNat < ns.length := by omega
      refine ⟨ns[i1.toNat], ?_⟩
      have := L2.atI_nat (xs := ns.map T.int) (j := i1.toNat) (v := T.int ns[i1.toNat]) (by simp [hn])
      rw [Int.toNat_of_nonneg n1] at this
      exact this
    walk_at "wgo"
    refine x_lst h1.c rfl ?_
    walk_at "wgo"
    refine x_lst h1.c rfl ?_
    walk_at "wgo"
    refine x_lst h1.s hz ?_
    walk_at "wgo"
    refine x_lst h1.c rfl ?_
    walk_at "wgo"
    refine x_lst h1.c rfl ?_
    walk_at "wgo"
    refine x_lst h1.s hz ?_
    walk_at "wgo"
    refine v_subL ?_
    walk_at "wgo"
    refine x_lst h1.c rfl ?_
    walk_at "wgo"
    refine ⟨_, _, _, 1, rfl, h1.c, rfl, rfl, ?_⟩
    have h2 := h1.put (l := [T.ref ap, .int i1, .int i2, .int (i3 + 1), .int i4].set 1 (.int (i1 + 1))) rfl (by omega) h1.n2 h1.n3
    have e2 : ExtC a μ (mset μ1 a (.lst ([T.ref ap, .int i1, .int i2, .int (i3 + 1), .int i4].set 1 (.int (i1 + 1))))) := e1.trans (ExtX.own rfl)
    generalize mset μ1 a (.lst ([T.ref ap, .int i1, .int i2, .int (i3 + 1), .int i4].set 1 (.int (i1 + 1)))) = μ2 at h2 e2
    walk_at "wgo"
    refine o_pow ⟨by decide, by decide, by decide⟩ ?_
    walk_at "wgo"
    refine ite_b (fun h => ?_) (fun h => ?_)
    · walk_at "wgo"
      have h3 := of_decide_eq_true h
      exact q _ _ (Int.le_trans (by decide) h3) ⟨ns, _, _, _, _, h2⟩ e2
    · walk_at "wgo"
      exact fill_tail h2 e2 _ post q
  · walk_at "wgo"
    exact fill_tail h1 e1 _ post q
/-- _law_take -/
def cTk (k : Nat) : TV.Con := ⟨fun ts μ => 2 ≤ k ∧ ∃ a ap m, ts = [.ref a, .int m] ∧ 0 < m ∧ m < 1073741824 ∧ Cur a ap μ, fun ts μ t μ' => ∀ a ap m, ts = [.ref a, .int m] → Cur a ap μ → ∃ d, t = .int d ∧ 0 ≤ d ∧ d < m ∧ Cur a ap μ' ∧ ExtC a μ μ'⟩
theorem v_law_take (h1 : ∃ k, 1 ≤ k ∧ Φ .law_fill = cFi k) (a ap : Addr) (m : Int) (m0 : 0 < m) (m1 : m < 1073741824) (μ : Mu) (hc : Cur a ap μ) (post : T → Mu → Prop) (q : ∀ d μ', 0 ≤ d → d < m → Cur a ap μ' → ExtC a μ μ' → post (.int d) μ') : wSs Φ b_law_take (endsOf post) (startT 3 [.ref a, .int m]) μ := by
  obtain ⟨k, hk, h1⟩ := h1
  have tail : ∀ {ns : List Int} {i1 i2 i3 i4 : Int} {μ' : Mu}, CurAt a ap ns i1 i2 i3 i4 μ' → ExtC a μ μ' → wSs Φ (Ss.drop 1 b_law_take) (endsOf post) [some (.ref a), some (.int m), none] μ' := by
    intro ns i1 i2 i3 i4 μ' hc ex
    dsimp only [b_law_take, Ss.drop]
    walk_at "wgo"
    refine x_lst hc.c rfl ?_
    walk_at "wgo"
    refine o_mod m0 ?_
    walk_at "wgo"
    refine v_subL ?_
    walk_at "wgo"
    refine x_lst hc.c rfl ?_
    walk_at "wgo"
    refine o_div m0 m1 ?_
    walk_at "wgo"
    refine ⟨_, _, _, 2, rfl, hc.c, rfl, rfl, ?_⟩
    have h2 := hc.put (l := [T.ref ap, .int i1, .int i2, .int i3, .int i4].set 2 (.int (i2 / m))) rfl hc.n1 (Int.ediv_nonneg hc.n2 (by omega)) hc.n3
    walk_at "wgo"
    exact q _ _ (Int.emod_nonneg _ (by omega)) (Int.emod_lt_of_pos _ m0) ⟨_, _, _, _, _, h2⟩ (ex.trans (ExtX.own rfl))
  obtain ⟨ns, i1, i2, i3, i4, hc⟩ := hc
  refine v_step rfl ?_
  walk_at "wgo"
  refine x_lst hc.c rfl ?_
  walk_at "wgo"
  refine ite_b (fun h => ?_) (fun h => ?_)
  · walk_at "wgo"
    refine v_subL ?_
    walk_at "wgo"
    refine call_of h1 ⟨hk, a, ap, rfl, ns, i1, i2, i3, i4, hc⟩ fun t μ' pp => ?_
    obtain ⟨n, rfl, n0, ⟨ns', j1, j2, j3, j4, hc'⟩, ex⟩ := pp a ap rfl ⟨ns, i1, i2, i3, i4, hc⟩
    walk_at "wgo"
    refine ⟨_, _, _, 2, rfl, hc'.c, rfl, rfl, ?_⟩
    exact tail (hc'.put (l := [T.ref ap, .int j1, .int j2, .int j3, .int j4].set 2 (.int n)) rfl hc'.n1 n0 hc'.n3) (ex.trans (ExtX.own rfl))
  · walk_at "wgo"
    exact tail hc ExtX.refl
theorem mem_cutL {l : List T} {lo hi : Option Int} {x : T} (h : x ∈ cutL l lo hi) : x ∈ l := by
  unfold cutL at h
  exact List.mem_of_mem_drop (List.mem_of_mem_take h)
theorem call_Tk (h : Φ .law_take = cTk k) (hk : 2 ≤ k) {a ap : Addr} {m : Int} {μ : Mu} {Q : PQ} (c : Cur a ap μ) (m0 : 0 < m) (m1 : m < 1073741824) (q : ∀ d μ', 0 ≤ d → d < m → Cur a ap μ' → ExtC a μ μ' → Q (.int d) μ') : callS Φ .law_take [.ref a, .int m] μ Q :=
  call_of h ⟨hk, a, ap, m, rfl, m0, m1, c⟩ fun t μ' p => by
    obtain ⟨d, rfl, d0, d1, c', e⟩ := p a ap m rfl c
    exact q d μ' d0 d1 c' e
theorem atI_ok {l : List T} {i : Int} (h0 : 0 ≤ i) (h1 : i < l.length) : ∃ t, atI l i = some t ∧ t ∈ l := ⟨_, atI_some h0 h1, getI_mem h0 h1⟩
end K07

namespace K07
open PySem PySem.Spec TV
open L2 (ixN atI Key)
variable {Φ : Fn → TV.Con} {k : Nat}
/-- a comprehension that draws -/
theorem lc_cur {tg : Tg} {elt : ME} {stays : Mu → Prop} {D : Addr} {τ : TV.Env} {Q : Mu → Prop} {a ap : Addr} (he : MonE elt) (P : T → T → Prop) {its : List T} {μ0 : Mu} (hc : Cur a ap μ0) (hD : μ0 D = none) (hst : ∀ μ, ExtC a μ0 μ → stays μ) (hlen : its.length ≤ sizeLine)
    (step : ∀ x ∈ its, ∀ μ, ExtC a μ0 μ → Cur a ap μ → wTg tg x τ fun τ' => elt τ' μ fun t μ2 => ExtC a μ μ2 ∧ Cur a ap μ2 ∧ P x t)
    (fin : ∀ ts μ, All2 P its ts → ExtC a μ0 μ → Cur a ap μ → μ D = some (.lst ts) → Q μ) : lcL tg (wEc (F := Fn) Φ .none) elt stays D τ Q its [] (mset μ0 D (.lst [])) := by
  have h1 : a ≠ D := fun z => by subst z; obtain ⟨o, e⟩ := hc.there; rw [hD] at e; cases e
  have h2 : ap ≠ D := fun z => by subst z; obtain ⟨o, e⟩ := hc.inner; rw [hD] at e; cases e
  rw [wEc_none]
  exact lc_map he (fun b => b = a) (Cur a ap) P hD (fun z => h1 z.symm) hc (fun μ o j => j.later h1 h2) (fun μ e _ => hst μ e) hlen step fin
/-- types -/
inductive Kd where
  | mk (a : List Kd) (s : Str)
mutual
def Kd.t : Kd → T
  | .mk a s => .tup [.tup (Kd.ts a), .str s]
def Kd.ts : List Kd → List T
  | [] => []
  | x :: xs => x.t :: Kd.ts xs
end
def Kd.args : Kd → List Kd
  | .mk a _ => a
def Kd.sort : Kd → Str
  | .mk _ s => s
theorem kts_map : ∀ l : List Kd, Kd.ts l = l.map Kd.t
  | [] => rfl
  | x :: xs => by unfold Kd.ts; rw [kts_map xs]; rfl
theorem kd_t (a : List Kd) (s : Str) : (Kd.mk a s).t = .tup [.tup (a.map Kd.t), .str s] := by unfold Kd.t; rw [kts_map]
def isAB (s : Str) : Prop := s = "a" ∨ s = "b"
/-- of sorts a and b, no higher than h, each def of at most three parts -/
def KOk : Nat → Kd → Prop
  | 0, .mk a s => isAB s ∧ a = []
  | h + 1, .mk a s => isAB s ∧ a.length ≤ 3 ∧ ∀ x ∈ a, KOk h x
theorem KOk.succ : ∀ {h : Nat} {x : Kd}, KOk h x → KOk (h + 1) x
  | 0, .mk a s, ⟨h1, h2⟩ => by subst h2; exact ⟨h1, by simp, by simp⟩
  | h + 1, .mk a s, ⟨h1, h2, h3⟩ => ⟨h1, h2, fun x hx => (h3 x hx).succ⟩
theorem KOk.mono {h h' : Nat} (e : h ≤ h') {x : Kd} (q : KOk h x) : KOk h' x := by
  induction e with
  | refl => exact q
  | step _ ih => exact ih.succ
theorem KOk.sort {h : Nat} {x : Kd} (q : KOk h x) : isAB x.sort := by
  cases h <;> cases x <;> exact q.1
/-- _law_kind -/
def cKi (k : Nat) : TV.Con := ⟨fun ts μ => ∃ a ap, ∃ h : Nat, ts = [.ref a, .int h] ∧ Cur a ap μ ∧ h + 3 ≤ k, fun ts μ t μ' => ∀ a ap, ∀ h : Nat, ts = [.ref a, .int h] → Cur a ap μ → Cur a ap μ' ∧ ExtC a μ μ' ∧ ∃ kd : Kd, t = kd.t ∧ KOk h kd⟩
theorem all2_kds {P : Kd → Prop} {α : Type} : ∀ {its : List α} {ts : List T}, All2 (fun _ t => ∃ kd : Kd, t = kd.t ∧ P kd) its ts → ∃ l : List Kd, ts = l.map Kd.t ∧ l.length = its.length ∧ ∀ x ∈ l, P x
  | _, _, .nil => ⟨[], rfl, rfl, by simp⟩
  | _, _, .cons ⟨kd, e, p⟩ h => by
    obtain ⟨l, e2, e3, q⟩ := all2_kds h
    refine ⟨kd :: l, by rw [e, e2]; rfl, by simp [e3], fun x hx => ?_⟩
    rcases List.mem_cons.mp hx with rfl | hx
    · exact p
    · exact q x hx
theorem v_law_kind (h1 : Φ .law_take = cTk k) (h2 : Φ .law_kind = cKi k) (a ap : Addr) (h : Nat) (μ : Mu) (hc : Cur a ap μ) (hk : h + 2 ≤ k) (post : T → Mu → Prop) (q : ∀ kd μ', Cur a ap μ' → ExtC a μ μ' → KOk h kd → post kd.t μ') : wSs Φ b_law_kind (endsOf post) (startT 5 [.ref a, .int h]) μ := by
  have ne : ∀ {μ' : Mu} {p : Addr}, Cur a ap μ' → μ' p = none → p ≠ a := fun c e z => by subst z; obtain ⟨o, e2⟩ := c.there; rw [e] at e2; cases e2
  refine v_step rfl ?_
  walk_at "wgo"
  refine ⟨by rw [line_eq]; simp, fun p hp => ?_⟩
  walk_at "wgo"
  refine call_Tk h1 (by omega) (hc.new hp) (by decide) (by decide) fun d μ2 d0 d1 c2 e2 => ?_
  have x2 : ExtC a μ μ2 := (ExtX.new hp).trans e2
  walk_at "wgo"
  obtain ⟨so, hso, mso⟩ := atI_ok (l := [T.str "a", .str "a", .str "b"]) d0 (by simpa using d1)
  refine x_lst (e2.at (ne hc hp) mset_same) hso ?_
  obtain ⟨s, rfl, ab⟩ : ∃ s, so = .str s ∧ isAB s := by
    simp only [List.mem_cons, List.not_mem_nil, or_false] at mso
    rcases mso with rfl | rfl | rfl
    · exact ⟨_, rfl, .inl rfl⟩
    · exact ⟨_, rfl, .inl rfl⟩
    · exact ⟨_, rfl, .inr rfl⟩
  refine v_step rfl ?_
  walk_at "wgo"
  by_cases h0 : h = 0
  · subst h0
    walk_at "wgo"
    refine ⟨Nat.zero_le _, ?_⟩
    walk_at "wgo"
    refine ⟨by rw [line_eq]; simp, ?_⟩
    exact q (.mk [] s) μ2 c2 x2 ⟨ab, rfl⟩
  · refine ite_ff (by simp; omega) ?_
    walk_at "wgo"
    refine v_step rfl ?_
    walk_at "wgo"
    refine ⟨by rw [line_eq]; simp, fun p3 hp3 => ?_⟩
    walk_at "wgo"
    refine call_Tk h1 (by omega) (c2.new hp3) (by decide) (by decide) fun d3 μ4 d30 d31 c4 e4 => ?_
    have x4 := (x2.trans (ExtX.new hp3)).trans e4
    walk_at "wgo"
    obtain ⟨mo, hmo, mmo⟩ := atI_ok (l := [T.int 0, .int 1, .int 1, .int 2, .int 3]) d30 (by simpa using d31)
    refine x_lst (e4.at (ne c2 hp3) mset_same) hmo ?_
    obtain ⟨n, rfl, n3⟩ : ∃ n : Nat, mo = .int n ∧ n ≤ 3 := by
      simp only [List.mem_cons, List.not_mem_nil, or_false] at mmo
      rcases mmo with rfl | rfl | rfl | rfl | rfl
      · exact ⟨0, rfl, by omega⟩
      · exact ⟨1, rfl, by omega⟩
      · exact ⟨1, rfl, by omega⟩
      · exact ⟨2, rfl, by omega⟩
      · exact ⟨3, rfl, by omega⟩
    refine v_step rfl ?_
    walk_at "wgo"
    refine ⟨⟨by omega, by omega⟩, ?_⟩
    intro D hD
    refine lc_cur (wE_mono _) (fun _ t => ∃ kd : Kd, t = kd.t ∧ KOk (h - 1) kd) c4 hD (fun _ _ => trivial) (by rw [line_eq, List.length_map, List.length_range]; omega) (fun x hx μ5 e5 c5 => ?_) fun ts μ5 all e5 c5 hlst => ?_
    · obtain ⟨j, _, rfl⟩ := List.mem_map.mp hx
      walk_at "wgo"
      refine ⟨by rw [line_eq]; simp, fun p6 hp6 => ?_⟩
      walk_at "wgo"
      refine call_Tk h1 (by omega) (c5.new hp6) (by decide) (by decide) fun d7 μ7 d70 d71 c7 e7 => ?_
      have x7 : ExtC a μ5 μ7 := (ExtX.new hp6).trans e7
      walk_at "wgo"
      refine b_intB ?_
      walk_at "wgo"
      obtain ⟨ho, hho, mho⟩ := atI_ok (l := [T.int ((h : Int) - 1), .int 0]) (i := if (!(d7 == 0)) = true then 1 else 0) (by split <;> decide) (by split <;> simp)
      refine x_lst (e7.at (ne c5 hp6) mset_same) hho ?_
      obtain ⟨hh, rfl, hle⟩ : ∃ hh : Nat, ho = .int hh ∧ hh ≤ h - 1 := by
        simp only [List.mem_cons, List.not_mem_nil, or_false] at mho
        rcases mho with rfl | rfl
        · exact ⟨h - 1, by congr 1; omega, Nat.le_refl _⟩
        · exact ⟨0, rfl, Nat.zero_le _⟩
      walk_at "wgo"
      refine call_of h2 ⟨a, ap, hh, rfl, c7, by omega⟩ fun t μ8 p8 => ?_
      obtain ⟨c8, e8, kd, rfl, ok⟩ := p8 a ap hh rfl c7
      exact ⟨x7.trans e8, c8, kd, rfl, ok.mono hle⟩
    · walk_at "wgo"
      refine b_tuple (items_lst hlst) ?_
      walk_at "wgo"
      refine ⟨by rw [line_eq]; simp, ?_⟩
      obtain ⟨l, rfl, ll, okl⟩ := all2_kds all
      rw [← kd_t]
      refine q (.mk l s) μ5 c5 (x4.trans e5) ?_
      obtain ⟨h', rfl⟩ : ∃ h', h = h' + 1 := ⟨h - 1, by omega⟩
      exact ⟨ab, by rw [ll, List.length_map, List.length_range]; omega, okl⟩
theorem cur_ne {a ap p : Addr} {μ : Mu} (c : Cur a ap μ) (e : μ p = none) : p ≠ a := fun z => by subst z; obtain ⟨o, e2⟩ := c.there; rw [e] at e2; cases e2
theorem call_Ki (h2 : Φ .law_kind = cKi k) {a ap : Addr} {h : Nat} {μ : Mu} {Q : PQ} (c : Cur a ap μ) (hk : h + 3 ≤ k) (q : ∀ (kd : Kd) μ', Cur a ap μ' → ExtC a μ μ' → KOk h kd → Q kd.t μ') : callS Φ .law_kind [.ref a, .int h] μ Q :=
  call_of h2 ⟨a, ap, h, rfl, c, hk⟩ fun t μ' p => by
    obtain ⟨c', e, kd, rfl, ok⟩ := p a ap h rfl c
    exact q kd μ' c' e ok
/-- a drawn whole number out of a few -/
theorem nat_of {l : List Int} {d : Int} (h0 : 0 ≤ d) (h1 : d < l.length) (n : Nat) (hl : ∀ x ∈ l, 0 ≤ x ∧ x ≤ n) : ∃ m : Nat, atI (l.map T.int) d = some (.int m) ∧ m ≤ n := by
  obtain ⟨t, e, m⟩ := atI_ok (l := l.map T.int) h0 (by simpa using h1)
  obtain ⟨x, hx, rfl⟩ := List.mem_map.mp m
  have := hl x hx
  exact ⟨x.toNat, by rw [e]; congr 2; omega, by omega⟩
abbrev Sig := List (Str × Kd)
def rowT (p : Str × Kd) : T := .tup [.str p.1, p.2.t]
def sigT (s : Sig) : T := .tup (s.map rowT)
structure SigOk (s : Sig) : Prop where
  nd : (s.map (·.1)).Nodup
  ha : ∃ x, (x, Kd.mk [] "a") ∈ s
  hb : ∃ x, (x, Kd.mk [] "b") ∈ s
  kd : ∀ p ∈ s, KOk 2 p.2
  no : ∀ p ∈ s, p.1 ≠ "o"
  ln : s.length ≤ 9
def kA : Kd := .mk [] "a"
def kB : Kd := .mk [] "b"
def kOne : Kd := .mk [kA] "a"
/-- the rows that a signature is made of -/
def base2 : Sig := [("c", kA), ("e", kB)]
def base7 : Sig := [("f", .mk [kA, kA] "a"), ("g", kOne), ("lam", .mk [kOne] "a"), ("k", .mk [kA, kB] "b"), ("d", kA), ("w", .mk [.mk [kA, kA] "a"] "b"), ("m", .mk [kOne, kB] "a")]
theorem ok_kA : KOk 2 kA := ⟨.inl rfl, by simp, by simp⟩
theorem ok_base : ∀ p ∈ base2 ++ base7, KOk 2 p.2 := by
  have a0 : KOk 0 kA := ⟨.inl rfl, rfl⟩
  have b0 : KOk 0 kB := ⟨.inr rfl, rfl⟩
  have a1 := a0.succ
  have b1 := b0.succ
  have one1 : KOk 1 kOne := ⟨.inl rfl, by simp, by simp; exact a0⟩
  have aa1 : KOk 1 (.mk [kA, kA] "a") := ⟨.inl rfl, by simp, by simp; exact a0⟩
  intro p hp
  simp only [base2, base7, List.cons_append, List.nil_append, List.mem_cons, List.not_mem_nil, or_false] at hp
  rcases hp with rfl | rfl | rfl | rfl | rfl | rfl | rfl | rfl | rfl
  · exact a1.succ
  · exact b1.succ
  · exact aa1.succ
  · exact one1.succ
  · exact ⟨.inl rfl, by simp, by simp; exact one1⟩
  · exact ⟨.inr rfl, by simp, by simp; exact ⟨a1, b1⟩⟩
  · exact a1.succ
  · exact ⟨.inr rfl, by simp, by simp; exact aa1⟩
  · exact ⟨.inl rfl, by simp, by simp; exact ⟨one1, b1⟩⟩
theorem str_app_toList (a b : Str) : (a ++ b).cps.toList = a.cps.toList ++ b.cps.toList := by
  show (a.cps ++ b.cps).toList = _
  rw [Array.toList_append]
theorem str_app_inj {f x y : Str} (h : f ++ x = f ++ y) : x = y := by
  have := congrArg (fun s : Str => s.cps.toList) h
  simp only [str_app_toList, List.append_cancel_left_eq] at this
  cases x; cases y
  simp only [Str.mk.injEq]
  exact Array.toList_inj.mp this
theorem names_ok : ∀ p ∈ base2 ++ base7, ∃ l c, p.1.cps.toList = l ++ [c] ∧ c ≠ 111 := by
  intro p hp
  simp only [base2, base7, List.cons_append, List.nil_append, List.mem_cons, List.not_mem_nil, or_false] at hp
  rcases hp with rfl | rfl | rfl | rfl | rfl | rfl | rfl | rfl | rfl
  · exact ⟨[], 99, by decide, by decide⟩
  · exact ⟨[], 101, by decide, by decide⟩
  · exact ⟨[], 102, by decide, by decide⟩
  · exact ⟨[], 103, by decide, by decide⟩
  · exact ⟨[108, 97], 109, by decide, by decide⟩
  · exact ⟨[], 107, by decide, by decide⟩
  · exact ⟨[], 100, by decide, by decide⟩
  · exact ⟨[], 119, by decide, by decide⟩
  · exact ⟨[], 109, by decide, by decide⟩
theorem not_o {f : Str} {p : Str × Kd} (h : p ∈ base2 ++ base7) : f ++ p.1 ≠ "o" := fun z => by
  obtain ⟨l, c, e, hc⟩ := names_ok p h
  have := congrArg (fun s : Str => s.cps.toList) z
  simp only [str_app_toList, e] at this
  have e2 : (("o" : Str)).cps.toList = [] ++ [111] := by decide
  rw [e2, ← List.append_assoc] at this
  have := List.append_inj_right' this rfl
  exact hc (by simpa using this)
/-- the signature by the rows that were kept and the front -/
theorem sig_ok {f : Str} {L : Sig} (hL : L.Sublist base7) : SigOk ((base2 ++ L).map fun p => (f ++ p.1, p.2)) := by
  have sub : (base2 ++ L).Sublist (base2 ++ base7) := List.Sublist.append (List.Sublist.refl _) hL
  have mem : ∀ p ∈ base2 ++ L, p ∈ base2 ++ base7 := fun p hp => sub.subset hp
  refine ⟨?_, ⟨f ++ "c", ?_⟩, ⟨f ++ "e", ?_⟩, ?_, ?_, ?_⟩
  · have nd0 : ((base2 ++ base7).map (·.1)).Nodup := by decide
    have nd1 : ((base2 ++ L).map (·.1)).Nodup := nd0.sublist (sub.map _)
    rw [List.map_map]
    have : (base2 ++ L).map ((fun x => x.1) ∘ fun p => (f ++ p.1, p.2)) = ((base2 ++ L).map (·.1)).map fun x => f ++ x := by rw [List.map_map]; rfl
    rw [this]
    exact nd1.map _ fun x y h e => h (str_app_inj e)
  · exact List.mem_map.mpr ⟨("c", kA), by simp [base2], rfl⟩
  · exact List.mem_map.mpr ⟨("e", kB), by simp [base2], rfl⟩
  · intro p hp
    obtain ⟨q, hq, rfl⟩ := List.mem_map.mp hp
    exact ok_base q (mem q hq)
  · intro p hp
    obtain ⟨q, hq, rfl⟩ := List.mem_map.mp hp
    exact not_o (mem q hq)
  · rw [List.length_map]
    have := sub.length_le
    exact this
end K07

namespace K07
open PySem PySem.Spec TV
open L2 (ixN atI Key)
variable {Φ : Fn → TV.Con} {k : Nat}
def r7 : Sig := [("c", kA), ("f", .mk [kA, kA] "a"), ("g", kOne), ("lam", .mk [kOne] "a"), ("e", kB), ("k", .mk [kA, kB] "b"), ("d", kA)]
def r2 : Sig := [("w", .mk [.mk [kA, kA] "a"] "b"), ("m", .mk [kOne, kB] "a")]
theorem all_strs {xs ts : List T} (h : All2 (fun (_ : T) t => ∃ c, t = T.str ⟨#[c]⟩) xs ts) : ∃ zs, strsOf ts = some zs ∧ (zs.map Str.length).sum = xs.length ∧ (catS zs).length = xs.length := by
  induction h with
  | nil => exact ⟨[], rfl, rfl, rfl⟩
  | cons p _ ih =>
    obtain ⟨c, rfl⟩ := p
    obtain ⟨zs, e, n, m⟩ := ih
    refine ⟨⟨#[c]⟩ :: zs, ?_, ?_, ?_⟩
    · show (strsOf _).map _ = _
      rw [e]; rfl
    · rw [List.map_cons, List.sum_cons, n, List.length_cons]
      show 1 + _ = _
      omega
    · show (#[c] ++ (catS zs).cps).size = _
      rw [Array.size_append, List.length_cons]
      have : (catS zs).cps.size = _ := m
      rw [this]
      show 1 + _ = _
      omega
theorem str_at {z : Str} {n : Nat} {i : Int} (hn : z.cps.toList.length = n) (h0 : 0 ≤ i) (h1 : i < n) : ∃ c, atI z.cps.toList i = some c := by
  cases h : atI z.cps.toList i with
  | some c => exact ⟨c, rfl⟩
  | none =>
    exfalso
    obtain ⟨m, rfl⟩ : ∃ m : Nat, i = m := ⟨i.toNat, by omega⟩
    have hm : m < z.cps.toList.length := by omega
    rw [L2.atI_nat (v := z.cps.toList[m]) (by rw [List.getElem?_eq_getElem hm])] at h
    cases h
theorem kept_sub {S : Sig} {rs : List (List T)} (h : All2 (fun (x : T) (r : List T) => r = [x] ∨ r = []) (S.map rowT) rs) : ∃ L : Sig, L.Sublist S ∧ rs.flatten = L.map rowT := by
  induction S generalizing rs with
  | nil => cases h; exact ⟨[], .slnil, rfl⟩
  | cons p S ih =>
    cases h with
    | cons hp ht =>
      obtain ⟨L, s, e⟩ := ih ht
      rcases hp with rfl | rfl
      · exact ⟨p :: L, s.cons₂ p, by simp [e]⟩
      · exact ⟨L, s.cons p, by simp [e]⟩
def frontT (f : Str) : T → T
  | .tup [.str n, kd] => .tup [.str (f ++ n), kd]
  | x => x
theorem all_front {f : Str} {S : Sig} {ts : List T} (h : All2 (fun x t => t = frontT f x) (S.map rowT) ts) : ts = (S.map fun p => (f ++ p.1, p.2)).map rowT := by
  induction S generalizing ts with
  | nil => cases h; rfl
  | cons p S ih =>
    cases h with
    | cons hp ht => rw [hp, ih ht]; rfl
theorem names_len : ∀ p ∈ base2 ++ base7, p.1.length ≤ 3 := by
  intro p hp
  simp only [base2, base7, List.cons_append, List.nil_append, List.mem_cons, List.not_mem_nil, or_false] at hp
  rcases hp with rfl | rfl | rfl | rfl | rfl | rfl | rfl | rfl | rfl <;> decide
def cSg (k : Nat) : TV.Con := ⟨fun ts μ => 4 ≤ k ∧ ∃ a ap, ts = [.ref a] ∧ Cur a ap μ, fun ts μ t μ' => ∀ a ap, ts = [.ref a] → Cur a ap μ → Cur a ap μ' ∧ ExtC a μ μ' ∧ ∃ s : Sig, t = sigT s ∧ SigOk s⟩
theorem v_law_signature (h1 : Φ .law_take = cTk k) (hk : 3 ≤ k) (a ap : Addr) (μ : Mu) (hc : Cur a ap μ) (post : T → Mu → Prop) (q : ∀ (s : Sig) μ', Cur a ap μ' → ExtC a μ μ' → SigOk s → post (sigT s) μ') : wSs Φ b_law_signature (endsOf post) (startT 11 [.ref a]) μ := by
  have ln : ∀ n : Nat, n ≤ 100 → n ≤ sizeLine := fun n hn => by rw [line_eq]; omega
  refine v_step rfl ?_
  repeat (first | (walk_at "w1"; try dsimp only [Bool.not_true, Bool.not_false]) | refine ⟨by rw [line_eq]; simp, ?_⟩)
  refine v_step rfl ?_
  repeat (first | (walk_at "w1"; try dsimp only [Bool.not_true, Bool.not_false]) | refine ⟨by rw [line_eq]; simp, ?_⟩)
  refine v_step rfl ?_
  repeat (first | (walk_at "w1"; try dsimp only [Bool.not_true, Bool.not_false]) | refine ⟨by rw [line_eq]; simp, ?_⟩)
  intro p0 hp0
  repeat (first | (walk_at "w1"; try dsimp only [Bool.not_true, Bool.not_false]))
  refine (show wSs _ _ _ _ (mset μ p0 (.lst (r7.map rowT))) from ?_)
  have c0 := hc.new (o := .lst (r7.map rowT)) hp0
  have x0 : ExtC a μ (mset μ p0 (.lst (r7.map rowT))) := ExtX.new hp0
  have m0 : (mset μ p0 (.lst (r7.map rowT))) p0 = some (.lst (r7.map rowT)) := mset_same
  generalize mset μ p0 (.lst (r7.map rowT)) = μ0 at c0 x0 m0 ⊢
  refine v_step rfl ?_
  repeat (first | (walk_at "w1"; try dsimp only [Bool.not_true, Bool.not_false]) | refine ⟨by rw [line_eq]; simp, ?_⟩)
  intro p1 hp1
  repeat (first | (walk_at "w1"; try dsimp only [Bool.not_true, Bool.not_false]))
  refine o_addL (ys := r2.map rowT) (by rw [mset_ne (ne_of_new hp1 m0)]; exact m0) mset_same (by rw [line_eq]; decide) fun p2 hp2 => ?_
  have c2 := (c0.new (o := .lst (r2.map rowT)) hp1).new (o := .lst (r7.map rowT ++ r2.map rowT)) hp2
  have x2 : ExtC a μ _ := (x0.trans (ExtX.new (o := .lst (r2.map rowT)) hp1)).trans (ExtX.new (o := .lst (r7.map rowT ++ r2.map rowT)) hp2)
  refine (show wSs _ _ _ _ (mset (mset μ0 p1 (.lst (r2.map rowT))) p2 (.lst (r7.map rowT ++ r2.map rowT))) from ?_)
  have m2 : (mset (mset μ0 p1 (.lst (r2.map rowT))) p2 (.lst (r7.map rowT ++ r2.map rowT))) p2 = some (.lst (r7.map rowT ++ r2.map rowT)) := mset_same
  generalize mset (mset μ0 p1 (.lst (r2.map rowT))) p2 (.lst (r7.map rowT ++ r2.map rowT)) = μ2 at c2 x2 m2 ⊢
  refine v_step rfl ?_
  walk_at "wgo"
  refine ⟨trivial, ?_⟩
  walk_at "wgo"
  refine call_Tk h1 (by omega) c2 (by decide) (by decide) fun d μ3 d0 d1 c3 x3 => ?_
  have m3 := x3.at (show ¬ (p2 = a) from fun z => by subst z; obtain ⟨ns, i1, i2, i3, i4, h⟩ := c2; have := h.c; rw [m2] at this; cases this; done) m2
  walk_at "wgo"
  refine ⟨⟨by omega, by omega⟩, ?_⟩
  intro D hD
  refine lc_cur (wE_mono _) (fun _ t => ∃ c, t = .str ⟨#[c]⟩) c3 hD (fun _ _ => trivial) (by rw [line_eq, List.length_map, List.length_range]; omega) (fun x hx μ5 e5 c5 => ?_) fun ts μ5 all e5 c5 hlst => ?_
  · obtain ⟨j, _, rfl⟩ := List.mem_map.mp hx
    walk_at "wgo"
    refine call_Tk h1 (by omega) c5 (by decide) (by decide) fun d7 μ7 d70 d71 c7 e7 => ?_
    walk_at "wgo"
    obtain ⟨c, e9⟩ := str_at (z := "abdeghjklmnpqrvwxy") (n := 18) (by decide) d70 d71
    refine x_str e9 ?_
    exact ⟨e7, c7, _, rfl⟩
  · walk_at "wgo"
    obtain ⟨zs, ez, n1, n2⟩ := all_strs all
    rw [List.length_map, List.length_range] at n1 n2
    refine ⟨ts, zs, hlst, ez, rfl, by rw [n1, line_eq]; omega, ?_⟩
    have x5 := (x2.trans x3).trans e5
    have m5 := e5.at (show ¬ (p2 = a) from fun z => by subst z; obtain ⟨ns, i1, i2, i3, i4, h⟩ := c2; have := h.c; rw [m2] at this; cases this; done) m3
    have n4 : (catS zs).length ≤ 4 := by omega
    generalize catS zs = f at n4 ⊢
    clear n1 n2 ez all hlst hD m3 m2 c2 x2 c3 x3 e5 hp2 hp1 m0 c0 x0 hp0
    refine v_step rfl ?_
    walk_at "wgo"
    refine x_lst (t := rowT ("c", kA)) m5 rfl ?_
    walk_at "wgo"
    refine x_lst (t := rowT ("e", kB)) m5 rfl ?_
    walk_at "wgo"
    refine ⟨by rw [line_eq]; simp, fun p6 hp6 => ?_⟩
    have c6 := c5.new (o := .lst (base2.map rowT)) hp6
    have x6 : ExtC a μ _ := x5.trans (ExtX.new (o := .lst (base2.map rowT)) hp6)
    have m6 : (mset μ5 p6 (.lst (base2.map rowT))) p2 = _ := (mset_ne (ne_of_new hp6 m5)).trans m5
    have m6b : (mset μ5 p6 (.lst (base2.map rowT))) p6 = _ := mset_same
    refine (show wE _ _ _ (mset μ5 p6 (.lst (base2.map rowT))) _ from ?_)
    generalize mset μ5 p6 (.lst (base2.map rowT)) = μ6 at c6 x6 m6 m6b ⊢
    clear hp6 m5 c5 x5
    walk_at "wgo"
    refine ⟨_, m6, fun p7 hp7 => ?_⟩
    walk_at "wgo"
    refine ⟨_, (mset_ne (ne_of_new hp7 m6)).trans m6, fun p8 hp8 => ?_⟩
    refine o_addL ((mset_ne (ne_of_new hp8 mset_same)).trans mset_same) mset_same (by rw [line_eq]; decide) fun p9 hp9 => ?_
    have m7 := (mset_ne (o := .lst (cutL (List.map rowT r7 ++ List.map rowT r2) (some 1) (some 4))) (ne_of_new hp7 m6b)).trans m6b
    have m8 := (mset_ne (o := .lst (cutL (List.map rowT r7 ++ List.map rowT r2) (some 5) none)) (ne_of_new hp8 m7)).trans m7
    have m9 := (mset_ne (o := .lst (cutL (List.map rowT r7 ++ List.map rowT r2) (some 1) (some 4) ++ cutL (List.map rowT r7 ++ List.map rowT r2) (some 5) none)) (ne_of_new hp9 m8)).trans m8
    have c9 := ((c6.new hp7).new hp8).new (o := .lst (cutL (List.map rowT r7 ++ List.map rowT r2) (some 1) (some 4) ++ cutL (List.map rowT r7 ++ List.map rowT r2) (some 5) none)) hp9
    have x9 := ((x6.trans (ExtX.new hp7)).trans (ExtX.new hp8)).trans (ExtX.new (o := .lst (cutL (List.map rowT r7 ++ List.map rowT r2) (some 1) (some 4) ++ cutL (List.map rowT r7 ++ List.map rowT r2) (some 5) none)) hp9)
    have b9 : cutL (List.map rowT r7 ++ List.map rowT r2) (some 1) (some 4) ++ cutL (List.map rowT r7 ++ List.map rowT r2) (some 5) none = base7.map rowT := by rfl
    rw [b9] at m9 c9 x9 ⊢
    refine ⟨_, mset_same, ?_⟩
    generalize hμ9 : mset (mset (mset μ6 p7 _) p8 _) p9 _ = μ9 at m9 c9 x9 ⊢
    have l9 : μ9 p9 = some (.lst (base7.map rowT)) := by rw [← hμ9]; exact mset_same
    clear hμ9 hp7 hp8 hp9 m6 m7 m8 c6 x6 m6b
    intro D2 hD2
    refine lc_rel (wEc_mono _) (wE_mono _) (fun b => b = a) (Cur a ap) (fun x r => r = [x] ∨ r = []) hD2 (cur_ne c9 hD2) c9 (fun μ o j => ?_) (fun μ e _ => ?_) (by rw [line_eq]; decide) (fun x hx μ11 e11 c11 => ?_) fun rs μ11 all2 e11 c11 hl => ?_
    · exact j.later (fun z => by subst z; obtain ⟨u, e⟩ := c9.there; rw [hD2] at e; cases e) (fun z => by subst z; obtain ⟨u, e⟩ := c9.inner; rw [hD2] at e; cases e)
    · exact e.at (fun z => by subst z; obtain ⟨ns, i1, i2, i3, i4, h⟩ := c9; have := h.c; rw [l9] at this; cases this; done) l9
    · walk_at "wgo"
      refine call_Tk h1 (by omega) c11 (by decide) (by decide) fun d7 μ12 d70 d71 c12 e12 => ?_
      walk_at "wgo"
      refine ite_b (fun z => ?_) fun z => ?_
      · walk_at "wgo"
        exact ⟨e12, c12, .inl rfl⟩
      · exact ⟨e12, c12, .inr rfl⟩
    · obtain ⟨L, hL, eL⟩ := kept_sub all2
      rw [eL] at hl
      have m11 := e11.at (show ¬ (p6 = a) from fun z => by subst z; obtain ⟨ns, i1, i2, i3, i4, h⟩ := c9; have := h.c; rw [m9] at this; cases this; done) m9
      have ll : L.length ≤ 7 := hL.length_le
      refine o_addL m11 hl (by rw [line_eq]; simp [base2]; omega) fun p12 hp12 => ?_
      have c12 := c11.new (o := .lst (base2.map rowT ++ L.map rowT)) hp12
      have x12 : ExtC a μ _ := (x9.trans e11).trans (ExtX.new (o := .lst (base2.map rowT ++ L.map rowT)) hp12)
      have l12 : (mset μ11 p12 (.lst (base2.map rowT ++ L.map rowT))) p12 = some (.lst ((base2 ++ L).map rowT)) := by rw [mset_same, List.map_append]
      generalize mset μ11 p12 (.lst (base2.map rowT ++ L.map rowT)) = μ12 at c12 x12 l12 ⊢
      refine v_step rfl ?_
      walk_at "wgo"
      refine ⟨_, l12, fun D3 hD3 => ?_⟩
      have sub : (base2 ++ L).Sublist (base2 ++ base7) := List.Sublist.append (List.Sublist.refl _) hL
      refine lc_cur (wE_mono _) (fun x t => t = frontT f x) c12 hD3 (fun μ e => e.at (show ¬ (p12 = a) from fun z => by subst z; obtain ⟨ns, i1, i2, i3, i4, h⟩ := c12; have := h.c; rw [l12] at this; cases this; done) l12) (by rw [line_eq, List.length_map, List.length_append]; simp [base2]; omega) (fun x hx μ13 e13 c13 => ?_) fun ts μ13 all3 e13 c13 hl3 => ?_
      · obtain ⟨p, hp, rfl⟩ := List.mem_map.mp hx
        have hn := names_len p (sub.subset hp)
        refine (show wTg _ (T.tup [.str p.1, p.2.t]) _ _ from ?_)
        walk_at "wgo"
        refine o_addS (by rw [line_eq]; omega) ?_
        walk_at "wgo"
        refine ⟨by rw [line_eq]; simp, ?_⟩
        exact ⟨ExtX.refl, c13, rfl⟩
      · walk_at "wgo"
        refine b_tuple (items_lst hl3) ?_
        rw [all_front all3]
        exact q _ μ13 c13 (x12.trans e13) (sig_ok hL)
end K07

namespace K07
open PySem PySem.Spec TV
open L2 (ixN atI Key)
variable {Φ : Fn → TV.Con} {k : Nat}
/-- heads and terms -/
inductive Hd where
  | b (i : Int)
  | c (n : Str)
  | h (i : Int)
def Hd.t : Hd → T
  | .b i => .tup [.str "b", .int i]
  | .c n => .tup [.str "c", .str n]
  | .h i => .tup [.str "h", .int i]
inductive Tm where
  | mk (n : Int) (h : Hd) (ps : List Tm)
mutual
def Tm.t : Tm → T
  | .mk n h ps => .tup [.int n, h.t, .tup (Tm.ts ps)]
def Tm.ts : List Tm → List T
  | [] => []
  | x :: xs => x.t :: Tm.ts xs
end
theorem tms_map : ∀ l : List Tm, Tm.ts l = l.map Tm.t
  | [] => rfl
  | x :: xs => by unfold Tm.ts; rw [tms_map xs]; rfl
theorem tm_t (n : Int) (h : Hd) (ps : List Tm) : (Tm.mk n h ps).t = .tup [.int n, h.t, .tup (ps.map Tm.t)] := by unfold Tm.t; rw [tms_map]
/-- no higher than the number, each node of few parts -/
def TLe : Nat → Tm → Prop
  | 0, .mk _ _ ps => ps = []
  | h + 1, .mk _ _ ps => ps.length ≤ 100 ∧ ∀ x ∈ ps, TLe h x
theorem TLe.ps {h : Nat} {n : Int} {hd : Hd} {ps : List Tm} (q : TLe h (.mk n hd ps)) : ps.length ≤ 100 ∧ ∀ x ∈ ps, TLe (h - 1) x ∧ 1 ≤ h := by
  cases h with
  | zero => have e : ps = [] := q; subst e; exact ⟨by simp, by simp⟩
  | succ h => exact ⟨q.1, fun x hx => ⟨q.2 x hx, by omega⟩⟩
/-- _law_lifted -/
def liftH (k d : Int) : Hd → Hd
  | .b i => if d ≤ i then .b (i + k) else .b i
  | x => x
mutual
def liftM (k : Int) : Int → Tm → Tm
  | d, .mk n h ps => .mk n (liftH k (d + n) h) (liftMs k (d + n) ps)
def liftMs (k : Int) : Int → List Tm → List Tm
  | _, [] => []
  | d, x :: xs => liftM k d x :: liftMs k d xs
end
theorem liftMs_map (k d : Int) : ∀ l : List Tm, liftMs k d l = l.map (liftM k d)
  | [] => by unfold liftMs; rfl
  | x :: xs => by unfold liftMs; rw [liftMs_map k d xs]; rfl
theorem lift_mk (k d n : Int) (h : Hd) (ps : List Tm) : liftM k d (.mk n h ps) = .mk n (liftH k (d + n) h) (ps.map (liftM k (d + n))) := by
  rw [liftM, liftMs_map]
theorem all2_tms {f : Tm → Tm} : ∀ {ps : List Tm} {ts : List T}, All2 (fun s t => ∀ x : Tm, x ∈ ps → s = x.t → t = (f x).t) (ps.map Tm.t) ts → ts = (ps.map f).map Tm.t := by
  have go : ∀ (P : Tm → Prop) (ps : List Tm) (ts : List T), (∀ x ∈ ps, P x) → All2 (fun s t => ∀ x : Tm, P x → s = x.t → t = (f x).t) (ps.map Tm.t) ts → ts = (ps.map f).map Tm.t := by
    intro P ps
    induction ps with
    | nil => intro ts _ h; cases h; rfl
    | cons x xs ih =>
      intro ts hp h
      cases h with
      | cons h1 h2 => rw [h1 x (hp x (List.mem_cons_self)) rfl, ih _ (fun y hy => hp y (List.mem_cons_of_mem _ hy)) h2]; rfl
  exact fun {ps ts} h => go (· ∈ ps) ps ts (fun _ h => h) h
/-- a term is told by its value -/
theorem Hd.inj : ∀ {x y : Hd}, x.t = y.t → x = y
  | .b i, .b j, e => by simp only [Hd.t, T.tup.injEq, List.cons.injEq, T.int.injEq, and_true, true_and] at e; rw [e]
  | .c i, .c j, e => by simp only [Hd.t, T.tup.injEq, List.cons.injEq, T.str.injEq, and_true, true_and] at e; rw [e]
  | .h i, .h j, e => by simp only [Hd.t, T.tup.injEq, List.cons.injEq, T.int.injEq, and_true, true_and] at e; rw [e]
  | .b i, .c j, e => by simp [Hd.t] at e
  | .b i, .h j, e => by simp only [Hd.t, T.tup.injEq, List.cons.injEq, T.str.injEq] at e; exact absurd e.1 (by decide)
  | .c i, .b j, e => by simp [Hd.t] at e
  | .c i, .h j, e => by simp [Hd.t] at e
  | .h i, .b j, e => by simp only [Hd.t, T.tup.injEq, List.cons.injEq, T.str.injEq] at e; exact absurd e.1 (by decide)
  | .h i, .c j, e => by simp [Hd.t] at e
mutual
theorem Tm.inj : ∀ {x y : Tm}, x.t = y.t → x = y
  | .mk n h ps, .mk n' h' ps', e => by
    unfold Tm.t at e
    simp only [T.tup.injEq, List.cons.injEq, T.int.injEq, and_true] at e
    obtain ⟨rfl, e2, e3⟩ := e
    rw [Hd.inj e2, Tm.injs e3]
theorem Tm.injs : ∀ {x y : List Tm}, Tm.ts x = Tm.ts y → x = y
  | [], [], _ => rfl
  | [], _ :: _, e => by simp [Tm.ts] at e
  | _ :: _, [], e => by simp [Tm.ts] at e
  | a :: xs, b :: ys, e => by
    simp only [Tm.ts, List.cons.injEq] at e
    rw [Tm.inj e.1, Tm.injs e.2]
end
def cLi (k : Nat) : TV.Con := ⟨fun ts _ => ∃ (h : Nat) (tm : Tm) (u d : Int), ts = [tm.t, .int u, .int d] ∧ TLe h tm ∧ h + 2 ≤ k, fun ts μ t μ' => Ext μ μ' ∧ ∀ (tm : Tm) (u d : Int), ts = [tm.t, .int u, .int d] → t = (liftM u d tm).t⟩
theorem hd_head (h : Hd) : ∃ z x, h.t = .tup [.str z, x] := by cases h <;> exact ⟨_, _, rfl⟩
theorem v_law_lifted (h2 : Φ .law_lifted = cLi k) (h : Nat) (n : Int) (hd : Hd) (ps : List Tm) (u d : Int) (μ : Mu) (tl : TLe h (.mk n hd ps)) (hk : h + 1 ≤ k) (post : T → Mu → Prop) (q : ∀ μ', Ext μ μ' → post (liftM u d (.mk n hd ps)).t μ') : wSs Φ b_law_lifted (endsOf post) (startT 8 [(Tm.mk n hd ps).t, .int u, .int d]) μ := by
  rw [tm_t]
  rw [lift_mk, tm_t] at q
  refine v_step rfl ?_
  walk_at "wgo"
  refine v_step rfl ?_
  walk_at "wgo"
  refine v_step rfl ?_
  have hd0 : ∀ hd' : Hd, hd' = liftH u (d + n) hd → wSs Φ (Ss.drop 1 (Ss.drop 1 (Ss.drop 1 b_law_lifted))) (endsOf post) (((((List.set (startT 8 [T.tup [T.int n, hd.t, T.tup (List.map Tm.t ps)], T.int u, T.int d]) 4 (some (T.int n))).set 5 (some hd.t)).set 6 (some (T.tup (List.map Tm.t ps)))).set 3 (some (T.int (d + n)))).set 5 (some hd'.t)) μ := by
    intro hd' e
    subst e
    refine v_step rfl ?_
    walk_at "wgo"
    intro D hD
    obtain ⟨pl, pok⟩ := tl.ps
    refine lc_map (wE_mono _) NoA (fun _ => True) (fun s t => ∀ x : Tm, x ∈ ps → s = x.t → t = (liftM u (d + n) x).t) hD (fun z => z) trivial (fun _ _ _ => trivial) (fun _ _ _ => trivial) (by rw [line_eq, List.length_map]; omega) (fun s hs μ' e _ => ?_) fun ts μ' all e _ hlst => ?_
    · obtain ⟨x, hx, rfl⟩ := List.mem_map.mp hs
      walk_at "wgo"
      refine call_of h2 ⟨h - 1, x, u, d + n, rfl, (pok x hx).1, by have := (pok x hx).2; omega⟩ fun t μ5 p => ?_
      refine ⟨p.1, trivial, fun y hy ey => ?_⟩
      rw [p.2 x u (d + n) rfl, Tm.inj ey]
    · walk_at "wgo"
      refine b_tuple (items_lst hlst) ?_
      walk_at "wgo"
      refine ⟨by rw [line_eq]; simp, ?_⟩
      rw [all2_tms all]
      exact q _ (e)
  cases hd with
  | c x =>
    walk_at "wgo"
    refine x_tup (l := [.str "c", .str x]) rfl ?_
    walk_at "wgo"
    exact hd0 (.c x) rfl
  | h x =>
    walk_at "wgo"
    refine x_tup (l := [.str "h", .int x]) rfl ?_
    walk_at "wgo"
    exact hd0 (.h x) rfl
  | b i =>
    walk_at "wgo"
    refine x_tup (l := [.str "b", .int i]) rfl ?_
    walk_at "wgo"
    refine x_tup (l := [.str "b", .int i]) rfl ?_
    walk_at "wgo"
    refine ite_b (fun z => ?_) fun z => ?_
    · have z1 : d + n ≤ i := by simpa using z
      walk_at "wgo"
      refine x_tup (l := [.str "b", .int i]) rfl ?_
      walk_at "wgo"
      refine ⟨by rw [line_eq]; simp, ?_⟩
      walk_at "wgo"
      exact hd0 (.b (i + u)) (by simp only [liftH]; rw [if_pos z1])
    · have z1 : ¬ d + n ≤ i := by simpa using z
      walk_at "wgo"
      exact hd0 (.b i) (by simp only [liftH]; rw [if_neg z1])
/-- _law_long: the head and the kind, by the kind's height -/
def bumpH (m : Int) : Hd → Hd
  | .b i => .b (i + m)
  | x => x
def longM : Nat → Hd → Kd → Tm
  | 0, hd, .mk a _ => .mk a.length (bumpH a.length hd) []
  | f + 1, hd, .mk a _ => .mk a.length (bumpH a.length hd) ((List.range a.length).map fun (j : Nat) => longM f (.b (a.length - 1 - j)) (a[j]?.getD (.mk [] "a")))
def cLo (k : Nat) : TV.Con := ⟨fun ts _ => ∃ (h : Nat) (hd : Hd) (kd : Kd), ts = [hd.t, kd.t] ∧ KOk h kd ∧ h + 2 ≤ k, fun ts μ t μ' => Ext μ μ' ∧ ∀ (h : Nat) (hd : Hd) (kd : Kd), ts = [hd.t, kd.t] → KOk h kd → t = (longM h hd kd).t⟩
theorem kok_args {h : Nat} {a : List Kd} {s : Str} (q : KOk h (.mk a s)) : a.length ≤ 3 ∧ ∀ x ∈ a, KOk (h - 1) x ∧ 1 ≤ h := by
  cases h with
  | zero => have e : a = [] := q.2; subst e; exact ⟨by simp, by simp⟩
  | succ h => exact ⟨q.2.1, fun x hx => ⟨q.2.2 x hx, by omega⟩⟩
theorem longM_eq {h : Nat} {a : List Kd} {s : Str} (hd : Hd) (q : KOk h (.mk a s)) : longM h hd (.mk a s) = .mk a.length (bumpH a.length hd) ((List.range a.length).map fun (j : Nat) => longM (h - 1) (.b (a.length - 1 - j)) (a[j]?.getD (.mk [] "a"))) := by
  cases h with
  | zero => have e : a = [] := q.2; subst e; rfl
  | succ h => rfl
theorem all2_rng {g : Nat → T} : ∀ {l : List Nat} {ts : List T}, All2 (fun s t => ∀ j : Nat, s = T.int j → t = g j) (l.map fun (j : Nat) => T.int j) ts → ts = l.map g := by
  intro l
  induction l with
  | nil => intro ts h; cases h; rfl
  | cons x xs ih =>
    intro ts h
    cases h with
    | cons h1 h2 => rw [h1 x rfl, ih h2]; rfl
theorem v_law_long (h2 : Φ .law_long = cLo k) (h : Nat) (hd : Hd) (a : List Kd) (s : Str) (μ : Mu) (ok : KOk h (.mk a s)) (hk : h + 1 ≤ k) (post : T → Mu → Prop) (q : ∀ μ', Ext μ μ' → post (longM h hd (.mk a s)).t μ') : wSs Φ b_law_long (endsOf post) (startT 4 [hd.t, (Kd.mk a s).t]) μ := by
  rw [kd_t]
  rw [longM_eq hd ok, tm_t] at q
  obtain ⟨al, aok⟩ := kok_args ok
  refine v_step rfl ?_
  walk_at "wgo"
  rw [List.length_map]
  refine v_step rfl ?_
  have hd0 : ∀ hd' : Hd, hd' = bumpH a.length hd → wSs Φ (Ss.drop 1 (Ss.drop 1 b_law_long)) (endsOf post) (((startT 4 [hd.t, T.tup [T.tup (a.map Kd.t), .str s]]).set 2 (some (T.int a.length))).set 0 (some hd'.t)) μ := by
    intro hd' e
    subst e
    refine v_step rfl ?_
    walk_at "wgo"
    refine ⟨⟨by omega, by omega⟩, ?_⟩
    intro D hD
    refine lc_map (wE_mono _) NoA (fun _ => True) (fun s t => ∀ j : Nat, s = T.int j → t = (longM (h - 1) (.b (a.length - 1 - j)) (a[j]?.getD (.mk [] "a"))).t) hD (fun z => z) trivial (fun _ _ _ => trivial) (fun _ _ _ => trivial) (by rw [line_eq, List.length_map, List.length_range]; omega) (fun s hs μ' e _ => ?_) fun ts μ' all e _ hlst => ?_
    · obtain ⟨j, hj, rfl⟩ := List.mem_map.mp hs
      have hj2 : j < a.length := by have := List.mem_range.mp hj; omega
      walk_at "wgo"
      refine ⟨by rw [line_eq]; simp, ?_⟩
      walk_at "wgo"
      refine x_tup (t := (a[j]).t) (L2.atI_nat (by simp [hj2])) ?_
      walk_at "wgo"
      have am := aok _ (List.getElem_mem hj2)
      refine call_of h2 ⟨h - 1, .b (a.length - 1 - j), a[j], rfl, am.1, by have := am.2; omega⟩ fun t μ5 p => ?_
      refine ⟨p.1, trivial, fun j' ej => ?_⟩
      obtain rfl : j = j' := by injection ej with ej; exact Int.ofNat.inj ej
      rw [p.2 (h - 1) (.b (a.length - 1 - j)) a[j] rfl am.1, List.getElem?_eq_getElem hj2]
      rfl
    · walk_at "wgo"
      refine b_tuple (items_lst hlst) ?_
      walk_at "wgo"
      refine ⟨by rw [line_eq]; simp, ?_⟩
      have e9 := all2_rng (g := fun j => (longM (h - 1) (.b (a.length - 1 - j)) (a[j]?.getD (.mk [] "a"))).t) all
      rw [e9]
      rw [List.map_map] at q
      exact q _ e
  cases hd with
  | c x =>
    walk_at "wgo"
    refine x_tup (l := [.str "c", .str x]) rfl ?_
    walk_at "wgo"
    exact hd0 (.c x) rfl
  | h x =>
    walk_at "wgo"
    refine x_tup (l := [.str "h", .int x]) rfl ?_
    walk_at "wgo"
    exact hd0 (.h x) rfl
  | b i =>
    walk_at "wgo"
    refine x_tup (l := [.str "b", .int i]) rfl ?_
    walk_at "wgo"
    refine x_tup (l := [.str "b", .int i]) rfl ?_
    walk_at "wgo"
    refine ⟨by rw [line_eq]; simp, ?_⟩
    walk_at "wgo"
    exact hd0 (.b (i + a.length)) rfl
mutual
theorem kd_pure : ∀ x : Kd, x.t.pure = true
  | .mk a s => by
    unfold Kd.t
    have := kds_pure a
    simp [T.pure, pures, this]
theorem kds_pure : ∀ x : List Kd, pures (Kd.ts x) = true
  | [] => rfl
  | x :: xs => by
    have h1 := kd_pure x
    have h2 := kds_pure xs
    simp [Kd.ts, pures, h1, h2]
end
theorem peq_bare {x : Kd} {z : Str} : peq x.t (.tup [.tup [], .str z]) = true ↔ x = .mk [] z := by
  obtain ⟨a, s⟩ := x
  cases a with
  | nil =>
    rw [kd_t]
    simp [peq, peqs]
  | cons y ys =>
    rw [kd_t]
    simp [peq, peqs]
theorem v_law_least (s : Sig) (a : List Kd) (z : Str) (μ : Mu) (hz : ∃ x, (x, Kd.mk [] z) ∈ s) (al : a.length ≤ 3) (post : T → Mu → Prop) (q : ∀ x μ', Ext μ μ' → (x, Kd.mk [] z) ∈ s → post (Tm.mk a.length (.c x) []).t μ') : wSs Φ b_law_least (endsOf post) (startT 4 [sigT s, (Kd.mk a z).t]) μ := by
  rw [kd_t]
  refine v_step rfl ?_
  refine (show wS Φ _ _ (startT 4 [.tup (s.map rowT), .tup [.tup (a.map Kd.t), .str z]]) μ from ?_)
  walk_at "wgo"
  refine for_inv (wSs_mono _) (fun rest τ μ' => ∃ s1 v2 v3, rest = s1.map rowT ∧ (∃ x, (x, Kd.mk [] z) ∈ s1) ∧ (∀ p ∈ s1, p ∈ s) ∧ τ = [some (.tup (s.map rowT)), some (.tup [.tup (a.map Kd.t), .str z]), v2, v3] ∧ Ext μ μ') (fun _ _ _ _ => trivial) ?_ ?_ _ _ μ ⟨s, none, none, rfl, hz, fun _ h => h, rfl, ExtX.refl⟩
  · rintro τ μ' ⟨s1, v2, v3, e, ⟨x, hx⟩, _⟩
    cases s1 with
    | nil => cases hx
    | cons => cases e
  · rintro x r τ μ' ⟨s1, v2, v3, e, ⟨y, hy⟩, sub, rfl, ex⟩
    cases s1 with
    | nil => cases e
    | cons p s1 =>
      obtain ⟨rfl, rfl⟩ : x = rowT p ∧ r = s1.map rowT := by injection e with e1 e2; exact ⟨e1, e2⟩
      refine (show wTg _ (T.tup [.str p.1, p.2.t]) _ _ from ?_)
      walk_at "wgo"
      refine ⟨by rw [line_eq]; simp, ?_⟩
      walk_at "wgo"
      refine ⟨by rw [line_eq]; simp, ?_⟩
      refine c_eq (eqok_right (kd_pure _) rfl (by simp [T.depth, depths])) ?_
      refine ⟨_, rfl, ?_⟩
      refine ite_b (fun w => ?_) fun w => ?_
      · have pe := peq_bare.mp w
        walk_at "wgo"
        refine ⟨by rw [line_eq]; simp, ?_⟩
        walk_at "wgo"
        refine ⟨by rw [line_eq]; simp, ?_⟩
        walk_at "wgo"
        refine ⟨by rw [line_eq]; simp, ?_⟩
        have := q p.1 μ' ex (by rw [← pe]; exact sub p List.mem_cons_self)
        rw [tm_t] at this
        rw [List.length_map]
        exact this
      · walk_at "wgo"
        refine ⟨s1, some (.str p.1), some p.2.t, rfl, ⟨y, ?_⟩, fun x hx => sub x (List.mem_cons_of_mem _ hx), rfl, ex⟩
        rcases List.mem_cons.mp hy with h | h
        · exfalso
          rw [peq_bare.mpr (by rw [← h])] at w
          cases w
        · exact h
end K07

namespace K07
open PySem PySem.Spec TV
open L2 (ixN atI Key)
/-! injectivity and comparison -/
mutual
theorem Kd.inj : ∀ {x y : Kd}, x.t = y.t → x = y
  | .mk a s, .mk a' s', e => by
    unfold Kd.t at e
    simp only [T.tup.injEq, List.cons.injEq, T.str.injEq, and_true] at e
    obtain ⟨e1, rfl⟩ := e
    rw [Kd.injs e1]
theorem Kd.injs : ∀ {x y : List Kd}, Kd.ts x = Kd.ts y → x = y
  | [], [], _ => rfl
  | [], _ :: _, e => by simp [Kd.ts] at e
  | _ :: _, [], e => by simp [Kd.ts] at e
  | a :: xs, b :: ys, e => by
    simp only [Kd.ts, List.cons.injEq] at e
    rw [Kd.inj e.1, Kd.injs e.2]
end
theorem kds_inj {x y : List Kd} (e : x.map Kd.t = y.map Kd.t) : x = y := map_inj' (fun _ _ h => Kd.inj h) e
theorem tms_inj {x y : List Tm} (e : x.map Tm.t = y.map Tm.t) : x = y := map_inj' (fun _ _ h => Tm.inj h) e
theorem rowT_inj {x y : Str × Kd} (e : rowT x = rowT y) : x = y := by
  obtain ⟨a, b⟩ := x
  obtain ⟨c, d⟩ := y
  unfold rowT at e
  simp only [T.tup.injEq, List.cons.injEq, T.str.injEq, and_true] at e
  rw [e.1, Kd.inj e.2]
theorem sigT_inj {x y : Sig} (e : sigT x = sigT y) : x = y := by
  unfold sigT at e
  exact map_inj' (fun _ _ h => rowT_inj h) (T.tup.inj e)
mutual
theorem peq_kd : ∀ x y : Kd, peq x.t y.t = true ↔ x = y
  | .mk a s, .mk a' s' => by
    unfold Kd.t
    have := peqs_kd a a'
    simp [peq, peqs, this]
theorem peqs_kd : ∀ x y : List Kd, peqs (Kd.ts x) (Kd.ts y) = true ↔ x = y
  | [], [] => by simp [Kd.ts, peqs]
  | [], _ :: _ => by simp [Kd.ts, peqs]
  | _ :: _, [] => by simp [Kd.ts, peqs]
  | a :: xs, b :: ys => by
    have h1 := peq_kd a b
    have h2 := peqs_kd xs ys
    simp [Kd.ts, peqs, h1, h2]
end
theorem peq_hd (x y : Hd) : peq x.t y.t = true ↔ x = y := by
  constructor
  · intro h
    refine Hd.inj ?_
    cases x <;> cases y <;> first | (simp [Hd.t, peq, peqs] at h; simp [Hd.t, h]; done) | (simp [Hd.t, peq, peqs] at h; exact absurd h (by decide)) | (simp [Hd.t, peq, peqs] at h)
  · rintro rfl
    cases x <;> simp [Hd.t, peq, peqs]
mutual
theorem peq_tm : ∀ x y : Tm, peq x.t y.t = true ↔ x = y
  | .mk n h ps, .mk n' h' ps' => by
    unfold Tm.t
    have h1 := peq_hd h h'
    have h2 := peqs_tm ps ps'
    simp [peq, peqs, h1, h2]
theorem peqs_tm : ∀ x y : List Tm, peqs (Tm.ts x) (Tm.ts y) = true ↔ x = y
  | [], [] => by simp [Tm.ts, peqs]
  | [], _ :: _ => by simp [Tm.ts, peqs]
  | _ :: _, [] => by simp [Tm.ts, peqs]
  | a :: xs, b :: ys => by
    have h1 := peq_tm a b
    have h2 := peqs_tm xs ys
    simp [Tm.ts, peqs, h1, h2]
end
theorem hd_pure (h : Hd) : h.t.pure = true := by cases h <;> rfl
theorem hd_depth (h : Hd) : h.t.depth = 1 := by cases h <;> rfl
mutual
theorem tm_pure : ∀ x : Tm, x.t.pure = true
  | .mk n h ps => by
    unfold Tm.t
    have h1 := hd_pure h
    have h2 := tms_pure ps
    simp [T.pure, pures, h1, h2]
theorem tms_pure : ∀ x : List Tm, pures (Tm.ts x) = true
  | [] => rfl
  | x :: xs => by
    have h1 := tm_pure x
    have h2 := tms_pure xs
    simp [Tm.ts, pures, h1, h2]
end
theorem kok_depth : ∀ {h : Nat} {x : Kd}, KOk h x → x.t.depth ≤ 2 * h + 2
  | 0, .mk a s, ⟨_, e⟩ => by subst e; rw [kd_t]; simp [T.depth, depths]
  | h + 1, .mk a s, ⟨_, _, h3⟩ => by
    rw [kd_t]
    refine depth_tup.mpr fun x hx => ?_
    simp only [List.mem_cons, List.not_mem_nil, or_false] at hx
    rcases hx with rfl | rfl
    · refine depth_tup.mpr fun y hy => ?_
      obtain ⟨z, hz, rfl⟩ := List.mem_map.mp hy
      have := kok_depth (h3 z hz)
      omega
    · exact Nat.zero_le _
/-! two lists by places -/
theorem all2_nth {α β : Type} {P : α → β → Prop} : ∀ {xs : List α} {ys : List β}, All2 P xs ys → ∀ {j : Nat} {x : α}, xs[j]? = some x → ∃ y, ys[j]? = some y ∧ P x y
  | _, _, .nil, _, _, e => by cases e
  | _, _, .cons p _, 0, _, e => by cases e; exact ⟨_, rfl, p⟩
  | _, _, .cons _ h, j + 1, _, e => all2_nth h (j := j) e
theorem all2_nth' {α β : Type} {P : α → β → Prop} : ∀ {xs : List α} {ys : List β}, All2 P xs ys → ∀ {j : Nat} {y : β}, ys[j]? = some y → ∃ x, xs[j]? = some x ∧ P x y
  | _, _, .nil, _, _, e => by cases e
  | _, _, .cons p _, 0, _, e => by cases e; exact ⟨_, rfl, p⟩
  | _, _, .cons _ h, j + 1, _, e => all2_nth' h (j := j) e
theorem all2_of_get {α β : Type} {P : α → β → Prop} : ∀ {xs : List α} {ys : List β}, xs.length = ys.length → (∀ (j : Nat) x y, xs[j]? = some x → ys[j]? = some y → P x y) → All2 P xs ys
  | [], [], _, _ => .nil
  | [], _ :: _, e, _ => by cases e
  | _ :: _, [], e, _ => by cases e
  | x :: xs, y :: ys, e, h => .cons (h 0 x y rfl rfl) (all2_of_get (by simpa using e) fun j a b ha hb => h (j + 1) a b ha hb)
theorem all2_mem {α β : Type} {P : α → β → Prop} {xs : List α} {ys : List β} (h : All2 P xs ys) {y : β} (m : y ∈ ys) : ∃ x ∈ xs, P x y := by
  induction h with
  | nil => cases m
  | cons p _ ih =>
    rcases List.mem_cons.mp m with rfl | m
    · exact ⟨_, List.mem_cons_self, p⟩
    · obtain ⟨x, hx, q⟩ := ih m; exact ⟨x, List.mem_cons_of_mem _ hx, q⟩
/-! the type of a head -/
def hdK (s : Sig) (hs own : List Kd) : Hd → Option Kd
  | .b i => if 0 ≤ i ∧ i < own.length then own[own.length - 1 - i.toNat]? else none
  | .c n => (s.find? (fun p => decide (p.1 = n))).map (·.2)
  | .h i => if 0 ≤ i ∧ i < hs.length then hs[i.toNat]? else none
theorem putT_new {k : Key} {v : T} : ∀ {kvs : List (Key × T)}, (∀ p ∈ kvs, p.1 ≠ k) → putT kvs k v = kvs ++ [(k, v)]
  | [], _ => rfl
  | (k', v') :: r, h => by
    unfold putT
    rw [if_neg (h (k', v') List.mem_cons_self), putT_new fun p hp => h p (List.mem_cons_of_mem _ hp)]
    rfl
theorem dictOf_nodup {ps : List (Key × T)} (h : (ps.map (·.1)).Nodup) : dictOf ps = ps := by
  unfold dictOf
  have go : ∀ (ps acc : List (Key × T)), ((acc ++ ps).map (·.1)).Nodup → ps.foldl (fun d p => putT d p.1 p.2) acc = acc ++ ps := by
    intro ps
    induction ps with
    | nil => intro acc _; simp
    | cons q ps ih =>
      intro acc nd
      rw [List.foldl_cons, putT_new, ih]
      · simp
      · simpa using nd
      · intro p hp e
        rw [List.map_append, List.nodup_append] at nd
        exact nd.2.2 p.1 (List.mem_map.mpr ⟨p, hp, rfl⟩) q.1 (by simp) e
  simpa using go ps [] (by simpa using h)
theorem pairs_sig : ∀ s : Sig, pairsOf (s.map rowT) = some (s.map fun p => ((Sum.inr p.1 : Key), p.2.t))
  | [] => rfl
  | p :: s => by
    rw [List.map_cons]
    show (match keyOf (.str p.1), pairsOf (s.map rowT) with | some k, some ps => some ((k, p.2.t) :: ps) | _, _ => none) = _
    rw [pairs_sig s]
    rfl
theorem sigD_sig {s : Sig} (ok : SigOk s) : sigD (sigT s) = s.map fun p => ((Sum.inr p.1 : Key), p.2.t) := by
  unfold sigD sigT
  simp only [pairs_sig, Option.getD_some]
  refine dictOf_nodup ?_
  rw [List.map_map]
  have : (s.map ((fun x => x.1) ∘ fun p : Str × Kd => ((Sum.inr p.1 : Key), p.2.t))) = (s.map (·.1)).map (fun n => (Sum.inr n : Key)) := by rw [List.map_map]; rfl
  rw [this]
  exact ok.nd.map _ fun x y h e => h (Sum.inr.inj e)
theorem look_sig : ∀ (s : Sig) (n : Str), lookT (s.map fun p => ((Sum.inr p.1 : Key), p.2.t)) (.inr n) = (s.find? (fun p => decide (p.1 = n))).map (·.2.t)
  | [], n => rfl
  | p :: s, n => by
    have ih := look_sig s n
    unfold lookT at ih ⊢
    rw [List.map_cons, List.find?_cons, List.find?_cons]
    by_cases e : p.1 = n
    · have e1 : decide ((Sum.inr p.1 : Key) = .inr n) = true := by simp [e]
      simp only [e1, e, decide_true]
      rfl
    · have e1 : decide ((Sum.inr p.1 : Key) = .inr n) = false := by simp [e]
      simp only [e1, e, decide_false]
      exact ih
theorem hdTy_hdK {s : Sig} {hs own : List Kd} {hd : Hd} {kd : Kd} (ok : SigOk s) (e : hdK s hs own hd = some kd) : hdTy (sigD (sigT s)) (hs.map Kd.t) (own.map Kd.t) hd.t = kd.t := by
  rw [sigD_sig ok]
  cases hd with
  | b i =>
    simp only [hdK] at e
    split at e
    · rename_i h
      unfold Hd.t hdTy
      simp only [List.length_map]
      rw [if_pos ⟨trivial, h.1, h.2⟩]
      unfold getI
      have : ((own.length : Int) - 1 - i) = ((own.length - 1 - i.toNat : Nat) : Int) := by omega
      rw [this, L2.atI_nat (v := kd.t) (by rw [List.getElem?_map, e]; rfl)]
      rfl
    · cases e
  | h i =>
    simp only [hdK] at e
    split at e
    · rename_i h
      unfold Hd.t hdTy
      simp only [List.length_map]
      rw [if_neg (fun z => absurd z.1 (by decide)), if_pos ⟨trivial, h.1, h.2⟩]
      unfold getI
      have : i = ((i.toNat : Nat) : Int) := by omega
      rw [this, L2.atI_nat (v := kd.t) (by rw [List.getElem?_map, e]; rfl)]
      rfl
    · cases e
  | c n =>
    simp only [hdK] at e
    show (if ("c" : Str) = "c" then (lookT _ (.inr n)).getD .non else .non) = _
    rw [if_pos rfl, look_sig]
    cases h : s.find? (fun p => decide (p.1 = n)) with
    | none => rw [h] at e; cases e
    | some p => rw [h] at e; cases e; rfl
theorem hdK_kok {s : Sig} {hs own : List Kd} {hd : Hd} {kd : Kd} {h : Nat} (a : ∀ p ∈ s, KOk h p.2) (b : ∀ x ∈ hs, KOk h x) (c : ∀ x ∈ own, KOk h x) (e : hdK s hs own hd = some kd) : KOk h kd := by
  cases hd with
  | b i =>
    simp only [hdK] at e
    split at e
    · exact c _ (List.mem_of_getElem? e)
    · cases e
  | h i =>
    simp only [hdK] at e
    split at e
    · exact b _ (List.mem_of_getElem? e)
    · cases e
  | c n =>
    simp only [hdK] at e
    cases h : s.find? (fun p => decide (p.1 = n)) with
    | none => rw [h] at e; cases e
    | some p => rw [h] at e; cases e; exact a p (List.mem_of_find?_eq_some h)
/-! terms of a type -/
abbrev NodeP := List Kd → Hd → List Kd → List Tm → Prop
def WG (P : NodeP) (s : Sig) (hs : List Kd) : Nat → List Kd → Kd → Tm → Prop
  | 0, _, _, _ => False
  | h + 1, own, .mk a z, .mk n hd ps => n = a.length ∧ ∃ a', hdK s hs (own ++ a) hd = some (.mk a' z) ∧ a'.length ≤ 3 ∧ P (own ++ a) hd a' ps ∧ All2 (fun k p => WG P s hs h (own ++ a) k p) a' ps
abbrev WT := WG (fun _ _ _ _ => True)
/-- the parts of a hole are long forms of binders -/
def VarP : NodeP := fun own hd a' ps => ∀ i, hd = .h i → All2 (fun k p => ∃ m : Nat, m < own.length ∧ own[own.length - 1 - m]? = some k ∧ p = longM 1 (.b m) k) a' ps
abbrev PT := WG VarP
theorem WG.mono {P : NodeP} {s : Sig} {hs : List Kd} : ∀ {h h' : Nat} {own : List Kd} {k : Kd} {t : Tm}, h ≤ h' → WG P s hs h own k t → WG P s hs h' own k t
  | 0, _, _, _, _, _, q => q.elim
  | h + 1, 0, _, _, _, e, _ => by omega
  | h + 1, h' + 1, own, .mk a z, .mk n hd ps, e, ⟨q1, a', q2, q3, q4, q5⟩ => ⟨q1, a', q2, q3, q4, q5.imp fun k p _ q => q.mono (by omega)⟩
theorem WG.weak {P Q : NodeP} {s : Sig} {hs : List Kd} (w : ∀ own hd a ps, P own hd a ps → Q own hd a ps) : ∀ {h : Nat} {own : List Kd} {k : Kd} {t : Tm}, WG P s hs h own k t → WG Q s hs h own k t
  | 0, _, _, _, q => q.elim
  | h + 1, own, .mk a z, .mk n hd ps, ⟨q1, a', q2, q3, q4, q5⟩ => ⟨q1, a', q2, q3, w _ _ _ _ q4, q5.imp fun k p _ q => q.weak w⟩
theorem WG.tle {P : NodeP} {s : Sig} {hs : List Kd} : ∀ {h : Nat} {own : List Kd} {k : Kd} {t : Tm}, WG P s hs (h + 1) own k t → TLe h t
  | 0, own, .mk a z, .mk n hd ps, ⟨q1, a', q2, q3, q4, q5⟩ => by
    cases q5 with
    | nil => rfl
    | cons p _ => exact p.elim
  | h + 1, own, .mk a z, .mk n hd ps, ⟨q1, a', q2, q3, q4, q5⟩ => ⟨by rw [← q5.length]; omega, fun x hx => by
      obtain ⟨k, _, q⟩ := all2_mem q5 hx
      exact q.tle⟩
theorem WG.depth {P : NodeP} {s : Sig} {hs : List Kd} : ∀ {h : Nat} {own : List Kd} {k : Kd} {t : Tm}, WG P s hs h own k t → t.t.depth ≤ 2 * h
  | 0, _, _, _, q => q.elim
  | h + 1, own, .mk a z, .mk n hd ps, ⟨q1, a', q2, q3, q4, q5⟩ => by
    rw [tm_t]
    refine depth_tup.mpr fun x hx => ?_
    simp only [List.mem_cons, List.not_mem_nil, or_false] at hx
    rcases hx with rfl | rfl | rfl
    · exact Nat.zero_le _
    · rw [hd_depth]; omega
    · refine depth_tup.mpr fun y hy => ?_
      obtain ⟨z, hz, rfl⟩ := List.mem_map.mp hy
      obtain ⟨k, _, q⟩ := all2_mem q5 hz
      exact q.depth
/-- the long form of a binder is a term of its type -/
theorem long1 {a : List Kd} {z : Str} (m : Int) : longM 1 (.b m) (.mk a z) = .mk a.length (.b (m + a.length)) ((List.range a.length).map fun (j : Nat) => longM 0 (.b (a.length - 1 - j)) (a[j]?.getD (.mk [] "a"))) := rfl
theorem long0 {z : Str} (m : Int) : longM 0 (.b m) (.mk [] z) = .mk 0 (.b m) [] := by simp [longM, bumpH]
theorem long1' {a : List Kd} {z : Str} (m : Int) (ok : KOk 1 (.mk a z)) : longM 1 (.b m) (.mk a z) = .mk a.length (.b (m + a.length)) ((List.range a.length).map fun (j : Nat) => Tm.mk 0 (.b ((a.length - 1 - j : Nat) : Int)) []) := by
  rw [long1]
  congr 1
  refine List.map_congr_left fun j hj => ?_
  have hj2 : j < a.length := List.mem_range.mp hj
  rw [List.getElem?_eq_getElem hj2]
  have k0 := ok.2.2 _ (List.getElem_mem hj2)
  generalize a[j] = x at k0 ⊢
  obtain ⟨a0, z0⟩ := x
  obtain ⟨_, rfl⟩ := k0
  show longM 0 (.b (a.length - 1 - j)) (.mk [] z0) = _
  rw [long0]
  congr 2
  omega
theorem WG.long {P : NodeP} {s : Sig} {hs own : List Kd} {k : Kd} {m : Nat} (hP : ∀ own i a ps, P own (.b i) a ps) (ok : KOk 1 k) (hm : m < own.length) (e : own[own.length - 1 - m]? = some k) : WG P s hs 2 own k (longM 1 (.b m) k) := by
  obtain ⟨a, z⟩ := k
  rw [long1' _ ok]
  refine ⟨rfl, a, ?_, ok.2.1, hP _ _ _ _, ?_⟩
  · have c1 : (0 : Int) ≤ (m : Int) + (a.length : Nat) ∧ (m : Int) + (a.length : Nat) < ((own ++ a).length : Nat) := by rw [List.length_append]; omega
    simp only [hdK]
    rw [if_pos c1, List.length_append]
    have : own.length + a.length - 1 - ((m : Int) + (a.length : Nat)).toNat = own.length - 1 - m := by omega
    rw [this, List.getElem?_append_left (by omega)]
    exact e
  · refine all2_of_get (by simp) fun j x y hx hy => ?_
    have hj : j < a.length := (List.getElem?_eq_some_iff.mp hx).1
    have k0 := ok.2.2 x (List.mem_of_getElem? hx)
    rw [List.getElem?_map, List.getElem?_range hj] at hy
    cases hy
    obtain ⟨a0, z0⟩ := x
    obtain ⟨_, rfl⟩ := k0
    refine ⟨rfl, [], ?_, by simp, hP _ _ _ _, .nil⟩
    simp only [hdK, List.append_nil]
    rw [if_pos (by rw [List.length_append]; omega), List.length_append]
    have : own.length + a.length - 1 - (((a.length - 1 - j : Nat) : Int)).toNat = own.length + j := by omega
    rw [this, List.getElem?_append_right (by omega)]
    have : own.length + j - own.length = j := by omega
    rw [this]
    exact hx
end K07

namespace K07
open PySem PySem.Spec TV
open L2 (ixN atI Key)
/-! _law_body and _law_within, and what they make of long forms of binders -/
def TLeB : Nat → Tm → Bool
  | 0, .mk _ _ ps => ps.isEmpty
  | h + 1, .mk _ _ ps => decide (ps.length ≤ 100) && ps.all (TLeB h)
theorem tleB : ∀ {h : Nat} {x : Tm}, TLeB h x = true ↔ TLe h x
  | 0, .mk _ _ ps => by show ps.isEmpty = true ↔ ps = []; exact List.isEmpty_iff
  | h + 1, .mk _ _ ps => by
    unfold TLeB TLe
    rw [Bool.and_eq_true, decide_eq_true_iff, List.all_eq_true]
    exact ⟨fun ⟨a, b⟩ => ⟨a, fun x hx => tleB.mp (b x hx)⟩, fun ⟨a, b⟩ => ⟨a, fun x hx => tleB.mpr (b x hx)⟩⟩
theorem TLe.succ : ∀ {h : Nat} {x : Tm}, TLe h x → TLe (h + 1) x
  | 0, .mk _ _ ps, e => by have e : ps = [] := e; subst e; exact ⟨by simp, by simp⟩
  | h + 1, .mk _ _ ps, ⟨a, b⟩ => ⟨a, fun x hx => (b x hx).succ⟩
theorem TLe.mono {h h' : Nat} (e : h ≤ h') {x : Tm} (q : TLe h x) : TLe h' x := by
  induction e with
  | refl => exact q
  | step _ ih => exact ih.succ
def optAll {α β : Type} (f : α → Option β) : List α → Option (List β)
  | [] => some []
  | x :: xs => match f x, optAll f xs with
    | some y, some ys => some (y :: ys)
    | _, _ => none
theorem optAll_all2 {α β : Type} {f : α → Option β} : ∀ {xs : List α} {ys : List β}, optAll f xs = some ys → All2 (fun x y => f x = some y) xs ys
  | [], _, e => by cases e; exact .nil
  | x :: xs, ys, e => by
    unfold optAll at e
    split at e
    · rename_i y ys' h1 h2
      cases e
      exact .cons h1 (optAll_all2 h2)
    · cases e
theorem all2_optAll {α β : Type} {f : α → Option β} {xs : List α} {ys : List β} (h : All2 (fun x y => f x = some y) xs ys) : optAll f xs = some ys := by
  induction h with
  | nil => rfl
  | cons p _ ih => unfold optAll; rw [p, ih]
def witG (g : Hd → List Tm → Int → Option (Hd × List Tm)) (d : Int) : Tm → Option Tm
  | .mk n h qs => match g h qs (d + n) with
    | some r => some (Tm.mk n r.1 r.2)
    | none => none
def bodM : Nat → Hd → List Tm → List Tm → Int → Option (Hd × List Tm)
  | 0, _, _, _, _ => none
  | f + 1, hd, ps, ts, d => if 100 < ps.length ∨ 100 < ts.length then none else match optAll (witG (fun h qs e => bodM f h qs ts e) d) ps with
    | none => none
    | some done => match hd with
      | .b i => if i < d then some (.b i, done) else if (ts.length : Int) ≤ i - d then some (.b (i - ts.length), done) else match ts[ts.length - 1 - (i - d).toNat]? with
        | some own => if TLeB 40 own then (match liftM d 0 own with | .mk _ h2 ps2 => bodM f h2 ps2 done 0) else none
        | none => none
      | hd => some (hd, done)
def witM (f : Nat) (p : Tm) (ts : List Tm) (d : Int) : Option Tm := witG (fun h qs e => bodM f h qs ts e) d p
theorem witM_eq (f : Nat) (n : Int) (h : Hd) (qs ts : List Tm) (d : Int) : witM f (.mk n h qs) ts d = match bodM f h qs ts (d + n) with
    | some r => some (Tm.mk n r.1 r.2)
    | none => none := rfl
theorem bodM_eq (f : Nat) (hd : Hd) (ps ts : List Tm) (d : Int) : bodM (f + 1) hd ps ts d = if 100 < ps.length ∨ 100 < ts.length then none else match optAll (fun p => witM f p ts d) ps with
    | none => none
    | some done => match hd with
      | .b i => if i < d then some (.b i, done) else if (ts.length : Int) ≤ i - d then some (.b (i - ts.length), done) else match ts[ts.length - 1 - (i - d).toNat]? with
        | some own => if TLeB 40 own then (match liftM d 0 own with | .mk _ h2 ps2 => bodM f h2 ps2 done 0) else none
        | none => none
      | hd => some (hd, done) := rfl
mutual
theorem lift_zero : ∀ (d : Int) (x : Tm), liftM 0 d x = x
  | d, .mk n h ps => by
    unfold liftM
    rw [lifts_zero (d + n) ps]
    cases h with
    | b i =>
      show Tm.mk n (if d + n ≤ i then .b (i + 0) else .b i) ps = _
      split <;> simp
    | _ => rfl
theorem lifts_zero : ∀ (d : Int) (x : List Tm), liftMs 0 d x = x
  | d, [] => by unfold liftMs; rfl
  | d, x :: xs => by unfold liftMs; rw [lift_zero d x, lifts_zero d xs]
end
/-- nothing put in -/
theorem bod_id {P : NodeP} {s : Sig} {hs : List Kd} : ∀ (h : Nat) {f : Nat} {own : List Kd} {k : Kd} {n : Int} {hd : Hd} {ps : List Tm} (d : Int), WG P s hs h own k (.mk n hd ps) → h ≤ f → bodM f hd ps [] d = some (hd, ps)
  | 0, _, _, _, _, _, _, _, q, _ => q.elim
  | h + 1, 0, _, _, _, _, _, _, _, e => by omega
  | h + 1, f + 1, own, .mk a z, n, hd, ps, d, ⟨q1, a', q2, q3, q4, q5⟩, e => by
    rw [bodM_eq]
    have l3 : ps.length ≤ 3 := by rw [← q5.length]; exact q3
    rw [if_neg (by simp; omega)]
    have e1 : optAll (fun p => witM f p [] d) ps = some ps := by
      refine all2_optAll (all2_of_get rfl fun j x y hx hy => ?_)
      rw [hx] at hy; cases hy
      obtain ⟨k, _, q⟩ := all2_nth' q5 hx
      obtain ⟨n', h', qs⟩ := x
      rw [witM_eq, bod_id (f := f) h (d + n') q (by omega)]
    rw [e1]
    cases hd with
    | b i =>
      simp only
      split
      · rfl
      · rw [if_pos (by simp; omega)]; simp
    | _ => rfl
/-- long forms of binders of own -/
def Vars (own : List Kd) (a : List Kd) (ts : List Tm) : Prop := All2 (fun k p => ∃ m : Nat, m < own.length ∧ own[own.length - 1 - m]? = some k ∧ p = longM 1 (.b m) k) a ts
/-- a binder of the outermost place, applied to what stands in sorts -/
theorem bod_var {P : NodeP} {s : Sig} {hs own : List Kd} {a' : List Kd} {done : List Tm} {h f : Nat} {m : Int} (n : Nat) (hn : n = a'.length) (k0 : ∀ x ∈ a', KOk 0 x) (l3 : a'.length ≤ 3) (w : All2 (fun k p => WG P s hs h own k p) a' done) (hf : h + 3 ≤ f) (h40 : h ≤ 40) (m0 : 0 ≤ m) :
    bodM f (.b (m + n)) ((List.range n).map fun (j : Nat) => Tm.mk 0 (.b ((n - 1 - j : Nat) : Int)) []) done 0 = some (.b m, done) := by
  subst hn
  obtain ⟨f, rfl⟩ : ∃ g, f = g + 2 := ⟨f - 2, by omega⟩
  have ld := w.length
  rw [bodM_eq]
  rw [if_neg (by simp; omega)]
  have e1 : optAll (fun p => witM (f + 1) p done 0) ((List.range a'.length).map fun (j : Nat) => Tm.mk 0 (.b ((a'.length - 1 - j : Nat) : Int)) []) = some done := by
    refine all2_optAll (all2_of_get (by simp [ld]) fun j x y hx hy => ?_)
    obtain ⟨k, hk, q⟩ := all2_nth' w hy
    have hj : j < a'.length := (List.getElem?_eq_some_iff.mp hk).1
    rw [List.getElem?_map, List.getElem?_range hj] at hx
    cases hx
    have kk := k0 k (List.mem_of_getElem? hk)
    obtain ⟨a0, z0⟩ := k
    obtain ⟨_, rfl⟩ := kk
    obtain ⟨n2, h2, ps2⟩ := y
    cases h with
    | zero => exact q.elim
    | succ h =>
    have n20 : n2 = 0 := q.1
    subst n20
    have t40 : TLeB 40 (.mk 0 h2 ps2) = true := tleB.mpr (q.tle.mono (by omega))
    rw [witM_eq]
    rw [bodM_eq, if_neg (by simp; omega)]
    simp only [optAll]
    rw [if_neg (by omega), if_neg (by omega)]
    have : done.length - 1 - ((a'.length - 1 - j : Nat) - (0 + 0) : Int).toNat = j := by omega
    rw [this, hy]
    simp only [t40, if_true]
    have lz : liftM (0 + 0) 0 (.mk 0 h2 ps2) = .mk 0 h2 ps2 := lift_zero 0 _
    rw [lz]
    simp only
    rw [bod_id (h + 1) 0 q (by omega)]
  rw [e1]
  simp only
  rw [if_neg (by omega), if_pos (by omega)]
  congr 3
  omega
/-- long forms of binders put in: the binders have other numbers, nothing else -/
theorem bod_ok {s : Sig} {hs own args : List Kd} {ts : List Tm} (so : ∀ p ∈ s, KOk 2 p.2) (ok : ∀ x ∈ args, KOk 1 x) (l3 : args.length ≤ 3) (vs : Vars own args ts) : ∀ (h : Nat) {f : Nat} {D : List Kd} {hd : Hd} {a' : List Kd} {z : Str} {ps : List Tm},
    (∀ x ∈ D, KOk 0 x) → hdK s [] (args ++ D) hd = some (.mk a' z) → a'.length ≤ 3 → All2 (fun k p => WT s [] h (args ++ D) k p) a' ps → h + 5 ≤ f → h ≤ 30 →
    ∃ hd' ps', bodM f hd ps ts D.length = some (hd', ps') ∧ hdK s hs (own ++ D) hd' = some (.mk a' z) ∧ All2 (fun k p => WT s hs h (own ++ D) k p) a' ps'
  | h, 0, _, _, _, _, _, _, _, _, _, e, _ => by omega
  | h, f + 1, D, hd, a', z, ps, hD, eh, la, w, e, h30 => by
    have lt := vs.length
    have kk : ∀ x ∈ a', KOk 1 x := by
      have : KOk 2 (.mk a' z) := hdK_kok (h := 2) so (by simp) (fun x hx => by
        rcases List.mem_append.mp hx with hx | hx
        · exact (ok x hx).succ
        · exact (hD x hx).succ.succ) eh
      exact this.2.2
    -- the parts
    have parts : ∃ done, optAll (fun p => witM f p ts D.length) ps = some done ∧ All2 (fun k p => WT s hs h (own ++ D) k p) a' done := by
      have go : ∀ {a' : List Kd} {ps : List Tm}, (∀ x ∈ a', KOk 1 x) → All2 (fun k p => WT s [] h (args ++ D) k p) a' ps → ∃ done, optAll (fun p => witM f p ts D.length) ps = some done ∧ All2 (fun k p => WT s hs h (own ++ D) k p) a' done := by
        intro a' ps kk w
        induction w with
        | nil => exact ⟨[], rfl, .nil⟩
        | @cons k p ks qs hp _ ih =>
          obtain ⟨done, e1, e2⟩ := ih fun x hx => kk x (List.mem_cons_of_mem _ hx)
          have k1 := kk k List.mem_cons_self
          obtain ⟨ak, zk⟩ := k
          obtain ⟨n, h2, p2⟩ := p
          cases h with
          | zero => exact hp.elim
          | succ h =>
          obtain ⟨rfl, b', q2, q3, _, q5⟩ := hp
          obtain ⟨hd', ps', e3, e4, e5⟩ := bod_ok so ok l3 vs h (f := f) (D := D ++ ak) (hd := h2) (a' := b') (z := zk) (ps := p2) (fun x hx => by
            rcases List.mem_append.mp hx with hx | hx
            · exact hD x hx
            · exact k1.2.2 x hx) (by rw [← List.append_assoc]; exact q2) q3 (by rw [← List.append_assoc]; exact q5) (by omega) (by omega)
          rw [← List.append_assoc] at e4 e5
          rw [List.length_append] at e3
          refine ⟨.mk ak.length hd' ps' :: done, ?_, .cons ⟨rfl, b', e4, q3, trivial, e5⟩ e2⟩
          unfold optAll
          rw [e1]
          rw [witM_eq]
          have : (D.length : Int) + (ak.length : Nat) = ((D.length + ak.length : Nat) : Int) := by omega
          rw [this, e3]
      exact go kk w
    obtain ⟨done, e1, e2⟩ := parts
    have ld := e2.length
    have lw := w.length
    rw [bodM_eq, if_neg (by omega), e1]
    cases hd with
    | c x => exact ⟨.c x, done, rfl, eh, e2⟩
    | h i =>
      simp only [hdK] at eh
      rw [if_neg (by first | (simp; done) | (simp; omega))] at eh
      cases eh
    | b i =>
      simp only [hdK] at eh
      split at eh
      · rename_i hi
        rw [List.length_append] at hi eh
        by_cases c1 : i < D.length
        · refine ⟨.b i, done, by simp only; rw [if_pos c1], ?_, e2⟩
          simp only [hdK]
          rw [if_pos (by rw [List.length_append]; omega), List.length_append]
          rw [List.getElem?_append_right (by omega)] at eh ⊢
          rw [← eh]
          congr 1
          omega
        · rw [List.getElem?_append_left (by omega)] at eh
          obtain ⟨y, hy, m, hm, em, rfl⟩ := all2_nth vs eh
          have k1 := ok _ (List.mem_of_getElem? eh)
          have t40 : TLeB 40 (longM 1 (.b m) (.mk a' z)) = true := tleB.mpr (WG.tle (h := 40) (WG.mono (by omega) (WG.long (P := fun _ _ _ _ => True) (s := s) (hs := hs) (fun _ _ _ _ => trivial) k1 hm em)))
          refine ⟨.b (m + D.length : Nat), done, ?_, ?_, e2⟩
          · simp only
            rw [if_neg c1, if_neg (by omega)]
            have : ts.length - 1 - (i - (D.length : Nat)).toNat = args.length + D.length - 1 - i.toNat := by omega
            rw [this, hy]
            simp only [t40, if_true]
            rw [long1' _ k1, lift_mk]
            have hm1 : liftH (D.length : Int) (0 + (a'.length : Nat)) (.b ((m : Int) + (a'.length : Nat))) = .b (((m + D.length : Nat) : Int) + (a'.length : Nat)) := by
              simp only [liftH]
              rw [if_pos (by omega)]
              congr 1; omega
            have hm2 : ((List.range a'.length).map fun (j : Nat) => Tm.mk 0 (.b ((a'.length - 1 - j : Nat) : Int)) []).map (liftM (D.length : Int) (0 + (a'.length : Nat))) = ((List.range a'.length).map fun (j : Nat) => Tm.mk 0 (.b ((a'.length - 1 - j : Nat) : Int)) []) := by
              rw [List.map_map]
              refine List.map_congr_left fun j hj => ?_
              have hj2 : j < a'.length := List.mem_range.mp hj
              show liftM _ _ _ = _
              rw [lift_mk]
              simp only [liftH]
              rw [if_neg (by omega)]
              rfl
            rw [hm1, hm2]
            exact bod_var a'.length rfl (fun x hx => k1.2.2 x hx) la e2 (by omega) (by omega) (by omega)
          · simp only [hdK]
            rw [if_pos (by rw [List.length_append]; omega), List.length_append]
            rw [List.getElem?_append_left (by omega), ← em]
            congr 1
            omega
      · cases eh
end K07

namespace K07
open PySem PySem.Spec TV
open L2 (ixN atI Key)
variable {Φ : Fn → TV.Con} {k : Nat}
/-! _law_heads -/
def rowsH (s : Sig) (hs own : List Kd) : List (Hd × Kd) :=
  ((List.range own.length).map fun (j : Nat) => (Hd.b j, own[own.length - 1 - j]?.getD kA)) ++ (s.map fun p => (Hd.c p.1, p.2)) ++ ((List.range hs.length).map fun (j : Nat) => (Hd.h j, hs[j]?.getD kA))
def headsM (s : Sig) (hs own : List Kd) (z : Str) : List (Hd × Kd) := (rowsH s hs own).filter fun r => r.2.sort == z
def hrT (r : Hd × Kd) : T := .tup [r.1.t, r.2.t]
structure HsX where
  s : Sig
  hs : List Kd
  own : List Kd
  z : Str
def inHs (x : HsX) : List T := [sigT x.s, .tup (x.hs.map Kd.t), .tup (x.own.map Kd.t), .str x.z]
theorem inHs_inj (x y : HsX) (e : inHs x = inHs y) : x = y := by
  obtain ⟨a, b, c, d⟩ := x
  obtain ⟨a', b', c', d'⟩ := y
  simp only [inHs, List.cons.injEq, T.tup.injEq, T.str.injEq, and_true] at e
  obtain ⟨e1, e2, e3, rfl⟩ := e
  rw [sigT_inj e1, kds_inj e2, kds_inj e3]
def cHs (k : Nat) : TV.Con := mkC inHs (fun x _ => 1 ≤ k ∧ x.s.length ≤ 9 ∧ x.hs.length ≤ 3 ∧ x.own.length ≤ 1000) (fun x μ t μ' => Ext μ μ' ∧ ∃ p, t = .ref p ∧ μ p = none ∧ μ' p = some (.lst ((headsM x.s x.hs x.own x.z).map hrT)))
theorem none_of_ext {μ μ' : Mu} {p : Addr} (e : Ext μ μ') (h : μ' p = none) : μ p = none := by
  cases hh : μ p with
  | none => rfl
  | some o => rw [Ext.at e hh] at h; cases h
theorem own_at {own : List Kd} {j : Nat} (hj : j < own.length) : atI (own.map Kd.t) ((((own.map Kd.t).length : Nat) : Int) - 1 - (j : Int)) = some (own[own.length - 1 - j]?.getD kA).t := by
  rw [List.length_map]
  have : ((own.length : Nat) : Int) - 1 - (j : Int) = ((own.length - 1 - j : Nat) : Int) := by omega
  rw [this]
  refine L2.atI_nat ?_
  rw [List.getElem?_map, List.getElem?_eq_getElem (by omega)]
  rfl
theorem hs_at {own : List Kd} {j : Nat} (hj : j < own.length) : atI (own.map Kd.t) (j : Int) = some (own[j]?.getD kA).t := by
  refine L2.atI_nat ?_
  rw [List.getElem?_map, List.getElem?_eq_getElem (by omega)]
  rfl
theorem v_law_heads (s : Sig) (hs own : List Kd) (z : Str) (μ : Mu) (ls : s.length ≤ 9) (lh : hs.length ≤ 3) (lo : own.length ≤ 1000) (post : T → Mu → Prop)
    (q : ∀ p μ', Ext μ μ' → μ p = none → μ' p = some (.lst ((headsM s hs own z).map hrT)) → post (.ref p) μ') : wSs Φ b_law_heads (endsOf post) (startT 9 [sigT s, .tup (hs.map Kd.t), .tup (own.map Kd.t), .str z]) μ := by
  refine v_step rfl ?_
  walk_at "wgo"
  refine ⟨⟨by simp <;> omega, by simp <;> omega⟩, ?_⟩
  intro D hD
  refine lcT_pure (wE_mono _) (fun (j : Nat) => hrT (.b j, own[own.length - 1 - j]?.getD kA)) hD (fun _ _ => trivial) (by rw [line_eq]; simp; omega) (fun j hj μ1 e1 => ?_) fun μ1 e1 hl1 => ?_
  · have hj2 : j < own.length := by have := List.mem_range.mp hj; simp at this; omega
    walk_at "wgo"
    refine ⟨by rw [line_eq]; simp, ?_⟩
    walk_at "wgo"
    refine x_tup (own_at hj2) ?_
    walk_at "wgo"
    refine ⟨by rw [line_eq]; simp, ?_⟩
    exact ⟨ExtX.refl, rfl⟩
  have hl1 : μ1 D = some (.lst (((List.range own.length).map fun (j : Nat) => (Hd.b j, own[own.length - 1 - j]?.getD kA)).map hrT)) := by
    rw [hl1, List.map_map]
    have : (((own.map Kd.t).length : Nat) : Int).toNat = own.length := by simp
    rw [this]
    rfl
  generalize hA : ((List.range own.length).map fun (j : Nat) => (Hd.b j, own[own.length - 1 - j]?.getD kA)) = A at hl1
  have lA : A.length ≤ 1000 := by rw [← hA]; simp; omega
  refine v_step rfl ?_
  walk_at "wgo"
  intro D2 hD2
  refine lcT_pure (f := rowT) (l := s) (wE_mono _) (fun p => hrT (.c p.1, p.2)) hD2 (fun _ _ => trivial) (by rw [line_eq]; omega) (fun p hp μ2 e2 => ?_) fun μ2 e2 hl2 => ?_
  · refine (show wTg _ (T.tup [.str p.1, p.2.t]) _ _ from ?_)
    walk_at "wgo"
    refine ⟨by rw [line_eq]; simp, ?_⟩
    walk_at "wgo"
    refine ⟨by rw [line_eq]; simp, ?_⟩
    exact ⟨ExtX.refl, rfl⟩
  refine o_addL (e2.at hl1) hl2 (by rw [line_eq]; simp; omega) fun p3 hp3 => ?_
  have hl3 : (mset μ2 p3 (.lst (A.map hrT ++ s.map fun p => hrT (.c p.1, p.2)))) p3 = some (.lst ((A ++ s.map fun p => (Hd.c p.1, p.2)).map hrT)) := by rw [mset_same, List.map_append, List.map_map]; rfl
  have e3 : Ext μ (mset μ2 p3 (.lst (A.map hrT ++ s.map fun p => hrT (.c p.1, p.2)))) := (e1.trans e2).trans (ExtX.new hp3)
  generalize mset μ2 p3 (.lst (A.map hrT ++ s.map fun p => hrT (.c p.1, p.2))) = μ3 at hl3 e3 ⊢
  generalize hB : A ++ (s.map fun p => (Hd.c p.1, p.2)) = B at hl3
  have lB : B.length ≤ 1009 := by rw [← hB]; simp; omega
  clear hD hD2 hp3 hl1 hl2 e1 e2
  refine v_step rfl ?_
  walk_at "wgo"
  refine ⟨⟨by simp <;> omega, by simp <;> omega⟩, ?_⟩
  intro D4 hD4
  refine lcT_pure (wE_mono _) (fun (j : Nat) => hrT (.h j, hs[j]?.getD kA)) hD4 (fun _ _ => trivial) (by rw [line_eq]; simp; omega) (fun j hj μ4 e4 => ?_) fun μ4 e4 hl4 => ?_
  · have hj2 : j < hs.length := by have := List.mem_range.mp hj; simp at this; omega
    walk_at "wgo"
    refine ⟨by rw [line_eq]; simp, ?_⟩
    walk_at "wgo"
    refine x_tup (hs_at hj2) ?_
    walk_at "wgo"
    refine ⟨by rw [line_eq]; simp, ?_⟩
    exact ⟨ExtX.refl, rfl⟩
  have hl4 : μ4 D4 = some (.lst (((List.range hs.length).map fun (j : Nat) => (Hd.h j, hs[j]?.getD kA)).map hrT)) := by
    rw [hl4, List.map_map]
    have : (((hs.map Kd.t).length : Nat) : Int).toNat = hs.length := by simp
    rw [this]
    rfl
  generalize hC : ((List.range hs.length).map fun (j : Nat) => (Hd.h j, hs[j]?.getD kA)) = C at hl4
  have lC : C.length ≤ 3 := by rw [← hC]; simp; omega
  refine o_addL (e4.at hl3) hl4 (by rw [line_eq]; simp; omega) fun p5 hp5 => ?_
  have hl5 : (mset μ4 p5 (.lst (B.map hrT ++ C.map hrT))) p5 = some (.lst ((rowsH s hs own).map hrT)) := by rw [mset_same, ← List.map_append, ← hB, ← hA, ← hC]; rfl
  have e5 : Ext μ (mset μ4 p5 (.lst (B.map hrT ++ C.map hrT))) := (e3.trans e4).trans (ExtX.new hp5)
  have lR : (rowsH s hs own).length ≤ 1100 := by rw [rowsH, hA, hB, hC, List.length_append]; omega
  generalize mset μ4 p5 (.lst (B.map hrT ++ C.map hrT)) = μ5 at hl5 e5 ⊢
  refine v_step rfl ?_
  walk_at "wgo"
  refine ⟨_, hl5, fun D6 hD6 => ?_⟩
  refine lcT_filt (f := hrT) (wEc_mono _) (wE_mono _) hrT (fun r => r.2.sort == z) hD6 (fun μ e => e.at hl5) (by rw [line_eq]; omega) (fun r hr μ6 e6 => ?_) fun μ6 e6 hl6 => ?_
  · obtain ⟨hd, kd⟩ := r
    obtain ⟨a, y⟩ := kd
    walk_at "wgo"
    refine x_tup (l := [hd.t, (Kd.mk a y).t]) rfl ?_
    walk_at "wgo"
    rw [kd_t]
    refine x_tup (l := [.tup (a.map Kd.t), .str y]) rfl ?_
    walk_at "wgo"
    exact ⟨rfl, ExtX.refl, fun _ => by walk_at "wgo"; exact ⟨ExtX.refl, rfl⟩⟩
  · exact q D6 μ6 (e5.trans e6) (none_of_ext e5 hD6) hl6
/-! _law_body and _law_within, walked -/
theorem optAll_mono {α β : Type} {f g : α → Option β} (h : ∀ x y, f x = some y → g x = some y) {xs : List α} {ys : List β} (e : optAll f xs = some ys) : optAll g xs = some ys :=
  all2_optAll ((optAll_all2 e).imp fun x y _ p => h x y p)
theorem bodM_succ : ∀ (f : Nat) (hd : Hd) (ps ts : List Tm) (d : Int) (r : Hd × List Tm), bodM f hd ps ts d = some r → bodM (f + 1) hd ps ts d = some r
  | 0, _, _, _, _, _, h => by cases h
  | f + 1, hd, ps, ts, d, r, h => by
    rw [bodM_eq] at h ⊢
    split at h
    · cases h
    rename_i hl
    rw [if_neg hl]
    split at h
    · cases h
    rename_i done e1
    have wm : ∀ p y, witM f p ts d = some y → witM (f + 1) p ts d = some y := by
      rintro ⟨n, h2, qs⟩ y e
      rw [witM_eq] at e ⊢
      split at e
      · rename_i r2 e2
        rw [bodM_succ f _ _ _ _ _ e2]
        exact e
      · cases e
    rw [optAll_mono wm e1]
    cases hd with
    | c x => exact h
    | h x => exact h
    | b i =>
      simp only at h ⊢
      split at h
      · rename_i c; rw [if_pos c]; exact h
      · rename_i c; rw [if_neg c]
        split at h
        · rename_i c2; rw [if_pos c2]; exact h
        · rename_i c2; rw [if_neg c2]
          split at h
          · rename_i own eo
            split at h
            · rename_i t40
              rw [if_pos t40]
              generalize liftM d 0 own = lo at h ⊢
              obtain ⟨n2, h2, ps2⟩ := lo
              exact bodM_succ f _ _ _ _ _ h
            · cases h
          · cases h
theorem bodM_le {f g : Nat} (e : f ≤ g) {hd : Hd} {ps ts : List Tm} {d : Int} {r : Hd × List Tm} (h : bodM f hd ps ts d = some r) : bodM g hd ps ts d = some r := by
  induction e with
  | refl => exact h
  | step _ ih => exact bodM_succ _ _ _ _ _ _ ih
theorem bodM_one {f g : Nat} {hd : Hd} {ps ts : List Tm} {d : Int} {r r' : Hd × List Tm} (h : bodM f hd ps ts d = some r) (h' : bodM g hd ps ts d = some r') : r = r' := by
  have a := bodM_le (Nat.le_max_left f g) h
  have b := bodM_le (Nat.le_max_right f g) h'
  rw [a] at b
  exact Option.some.inj b
structure BoX where
  hd : Hd
  ps : List Tm
  ts : List Tm
  d : Int
def inBo (x : BoX) : List T := [x.hd.t, .tup (x.ps.map Tm.t), .tup (x.ts.map Tm.t), .int x.d]
theorem inBo_inj (x y : BoX) (e : inBo x = inBo y) : x = y := by
  obtain ⟨a, b, c, d⟩ := x
  obtain ⟨a', b', c', d'⟩ := y
  simp only [inBo, List.cons.injEq, T.tup.injEq, T.int.injEq, and_true] at e
  obtain ⟨e1, e2, e3, rfl⟩ := e
  rw [Hd.inj e1, tms_inj e2, tms_inj e3]
def cBo (k : Nat) : TV.Con := mkC inBo (fun x _ => ∃ f r, bodM f x.hd x.ps x.ts x.d = some r ∧ 2 * f + 44 ≤ k) (fun x μ t μ' => Ext μ μ' ∧ ∃ p, t = .ref p ∧ ∃ f r, bodM f x.hd x.ps x.ts x.d = some r ∧ μ p = none ∧ μ' p = some (.lst [r.1.t, .tup (r.2.map Tm.t)]))
theorem call_Bo (h : Φ .law_body = cBo k) {hd : Hd} {ps ts : List Tm} {d : Int} {f : Nat} {r : Hd × List Tm} (e : bodM f hd ps ts d = some r) (hk : 2 * f + 44 ≤ k) {μ : Mu} {Q : PQ} (q : ∀ p μ', Ext μ μ' → μ p = none → μ' p = some (.lst [r.1.t, .tup (r.2.map Tm.t)]) → Q (.ref p) μ') : callS Φ .law_body [hd.t, .tup (ps.map Tm.t), .tup (ts.map Tm.t), .int d] μ Q :=
  call_mk h ⟨hd, ps, ts, d⟩ rfl ⟨f, r, e, hk⟩ fun t μ' ⟨e1, p, et, f', r', e2, e3, e4⟩ => by
    obtain rfl : r' = r := bodM_one e2 e
    rw [et]
    exact q p μ' e1 e3 e4
structure WiX where
  p : Tm
  ts : List Tm
  d : Int
def inWi (x : WiX) : List T := [x.p.t, .tup (x.ts.map Tm.t), .int x.d]
theorem inWi_inj (x y : WiX) (e : inWi x = inWi y) : x = y := by
  obtain ⟨a, b, c⟩ := x
  obtain ⟨a', b', c'⟩ := y
  simp only [inWi, List.cons.injEq, T.tup.injEq, T.int.injEq, and_true] at e
  obtain ⟨e1, e2, rfl⟩ := e
  rw [Tm.inj e1, tms_inj e2]
def cWi (k : Nat) : TV.Con := mkC inWi (fun x _ => ∃ f r, witM f x.p x.ts x.d = some r ∧ 2 * f + 45 ≤ k) (fun x μ t μ' => Ext μ μ' ∧ ∃ f r, witM f x.p x.ts x.d = some r ∧ t = r.t)
theorem witM_one {f g : Nat} {p : Tm} {ts : List Tm} {d : Int} {r r' : Tm} (h : witM f p ts d = some r) (h' : witM g p ts d = some r') : r = r' := by
  obtain ⟨n, hd, qs⟩ := p
  rw [witM_eq] at h h'
  split at h
  · split at h'
    · rename_i e1 _ _ e2
      rw [bodM_one e1 e2] at h
      rw [h] at h'
      exact Option.some.inj h'
    · cases h'
  · cases h
theorem call_Wi (h : Φ .law_within = cWi k) {p : Tm} {ts : List Tm} {d : Int} {f : Nat} {r : Tm} (e : witM f p ts d = some r) (hk : 2 * f + 45 ≤ k) {μ : Mu} {Q : PQ} (q : ∀ μ', Ext μ μ' → Q r.t μ') : callS Φ .law_within [p.t, .tup (ts.map Tm.t), .int d] μ Q :=
  call_mk h ⟨p, ts, d⟩ rfl ⟨f, r, e, hk⟩ fun t μ' ⟨e1, f', r', e2, et⟩ => by
    obtain rfl : r' = r := witM_one e2 e
    rw [et]
    exact q μ' e1
theorem v_law_within (h1 : Φ .law_body = cBo k) (p : Tm) (ts : List Tm) (d : Int) (f : Nat) (r : Tm) (μ : Mu) (e : witM f p ts d = some r) (hk : 2 * f + 44 ≤ k) (post : T → Mu → Prop) (q : ∀ μ', Ext μ μ' → post r.t μ') : wSs Φ b_law_within (endsOf post) (startT 4 [p.t, .tup (ts.map Tm.t), .int d]) μ := by
  obtain ⟨n, hd, ps⟩ := p
  rw [witM_eq] at e
  split at e
  · rename_i r2 e2
    cases e
    rw [tm_t]
    refine v_step rfl ?_
    walk_at "wgo"
    refine call_Bo h1 e2 hk fun p μ' ex hp hl => ?_
    refine v_step rfl ?_
    walk_at "wgo"
    refine x_lst hl rfl ?_
    walk_at "wgo"
    refine x_lst hl rfl ?_
    walk_at "wgo"
    refine ⟨by rw [line_eq]; simp, ?_⟩
    have := q μ' ex
    rw [tm_t] at this
    exact this
  · cases e
theorem optAll_map {g : Tm → Option Tm} {ps done : List Tm} (e : optAll g ps = some done) : ps.map (fun p => ((g p).getD p).t) = done.map Tm.t := by
  have := optAll_all2 e
  clear e
  induction this with
  | nil => rfl
  | cons p _ ih => rw [List.map_cons, ih, p]; rfl
theorem v_law_body (h1 : Φ .law_body = cBo k) (h2 : Φ .law_within = cWi k) (h3 : Φ .law_lifted = cLi k) (hd : Hd) (ps ts : List Tm) (d : Int) (f : Nat) (r : Hd × List Tm) (μ : Mu) (e : bodM f hd ps ts d = some r) (hk : 2 * f + 43 ≤ k) (post : T → Mu → Prop) (q : ∀ p μ', Ext μ μ' → μ p = none → μ' p = some (.lst [r.1.t, .tup (r.2.map Tm.t)]) → post (.ref p) μ') :
    wSs Φ b_law_body (endsOf post) (startT 8 [hd.t, .tup (ps.map Tm.t), .tup (ts.map Tm.t), .int d]) μ := by
  cases f with
  | zero => cases e
  | succ f =>
  rw [bodM_eq] at e
  split at e
  · cases e
  rename_i hl
  split at e
  · cases e
  rename_i done e1
  have lp : ps.length ≤ 100 := by omega
  have ldone : ps.length = done.length := (optAll_all2 e1).length
  refine v_step rfl ?_
  walk_at "wgo"
  intro D hD
  refine lcT_pure (f := Tm.t) (wE_mono _) (fun p => ((witM f p ts d).getD p).t) hD (fun _ _ => trivial) (by rw [line_eq]; omega) (fun p hp μ1 ex1 => ?_) fun μ1 ex1 hl1 => ?_
  · walk_at "wgo"
    obtain ⟨j, hj⟩ := List.getElem?_of_mem hp
    obtain ⟨y, _, hy⟩ := all2_nth (optAll_all2 e1) hj
    refine call_Wi h2 hy (by omega) fun μ2 ex2 => ?_
    exact ⟨ex2, by rw [hy]; rfl⟩
  rw [optAll_map e1] at hl1
  walk_at "wgo"
  refine b_tuple (items_lst hl1) ?_
  clear hl1 hD
  refine v_step rfl ?_
  have ret : ∀ (hd' : Hd) (p : Addr) (μ2 : Mu), r = (hd', done) → Ext μ μ2 → μ2 p = none → post (.ref p) (mset μ2 p (.lst [hd'.t, .tup (done.map Tm.t)])) := fun hd' p μ2 er ex hp => by
    refine q p _ (ex.trans (ExtX.new hp)) (none_of_ext ex hp) ?_
    rw [er, mset_same]
  cases hd with
  | c x =>
    walk_at "wgo"
    refine x_tup (l := [.str "c", .str x]) rfl ?_
    walk_at "wgo"
    refine ⟨by rw [line_eq]; simp, fun p hp => ?_⟩
    exact ret (.c x) p _ (Option.some.inj e).symm ex1 hp
  | h x =>
    walk_at "wgo"
    refine x_tup (l := [.str "h", .int x]) rfl ?_
    walk_at "wgo"
    refine ⟨by rw [line_eq]; simp, fun p hp => ?_⟩
    exact ret (.h x) p _ (Option.some.inj e).symm ex1 hp
  | b i =>
    simp only at e
    walk_at "wgo"
    refine x_tup (l := [.str "b", .int i]) rfl ?_
    walk_at "wgo"
    refine x_tup (l := [.str "b", .int i]) rfl ?_
    walk_at "wgo"
    refine ite_b (fun z => ?_) fun z => ?_
    · have z1 : i < d := of_decide_eq_true z
      rw [if_pos z1] at e
      walk_at "wgo"
      refine ⟨by rw [line_eq]; simp, fun p hp => ?_⟩
      exact ret (.b i) p _ (Option.some.inj e).symm ex1 hp
    · have z1 : ¬ i < d := of_decide_eq_false z
      rw [if_neg z1] at e
      walk_at "wgo"
      refine v_step rfl ?_
      walk_at "wgo"
      refine x_tup (l := [.str "b", .int i]) rfl ?_
      walk_at "wgo"
      refine v_step rfl ?_
      walk_at "wgo"
      rw [List.length_map]
      refine ite_b (fun w => ?_) fun w => ?_
      · have w1 : (ts.length : Int) ≤ i - d := of_decide_eq_true w
        rw [if_pos w1] at e
        walk_at "wgo"
        refine x_tup (l := [.str "b", .int i]) rfl ?_
        walk_at "wgo"
        refine ⟨by rw [line_eq]; simp, ?_⟩
        walk_at "wgo"
        refine ⟨by rw [line_eq]; simp, fun p hp => ?_⟩
        rw [List.length_map]
        exact ret (.b (i - ts.length)) p _ (Option.some.inj e).symm ex1 hp
      · have w1 : ¬ (ts.length : Int) ≤ i - d := of_decide_eq_false w
        rw [if_neg w1] at e
        split at e
        · rename_i own eo
          split at e
          · rename_i t40
            walk_at "wgo"
            refine v_step rfl ?_
            walk_at "wgo"
            refine x_tup (t := own.t) ?_ ?_
            · rw [List.length_map]
              have : ((ts.length : Nat) : Int) - 1 - (i - d) = ((ts.length - 1 - (i - d).toNat : Nat) : Int) := by omega
              rw [this]
              refine L2.atI_nat ?_
              rw [List.getElem?_map, eo]; rfl
            walk_at "wgo"
            refine call_of h3 ⟨40, own, d, 0, rfl, tleB.mp t40, by omega⟩ fun t μ3 p3 => ?_
            obtain ⟨ex3, p3⟩ := p3
            rw [p3 own d 0 rfl]
            generalize liftM d 0 own = lo at e ⊢
            obtain ⟨n2, h2', ps2⟩ := lo
            rw [tm_t]
            refine v_step rfl ?_
            walk_at "wgo"
            refine call_Bo h1 e (by omega) fun p μ4 ex4 hp4 hl4 => ?_
            have ex34 := (ex1.trans ex3)
            exact q p μ4 (ex34.trans ex4) (none_of_ext ex34 hp4) hl4
          · cases e
        · cases e
end K07

namespace K07
open PySem PySem.Spec TV
open L2 (ixN atI Key)
variable {Φ : Fn → TV.Con} {k : Nat}
/-! _law_choice, _law_least, _law_term -/
theorem Cur.one {a ap ap' : Addr} {μ : Mu} (h : Cur a ap μ) (h' : Cur a ap' μ) : ap = ap' := by
  obtain ⟨ns, i1, i2, i3, i4, h⟩ := h
  obtain ⟨ms, j1, j2, j3, j4, h'⟩ := h'
  have e := h.c
  rw [h'.c] at e
  injection e with e
  injection e with e
  injection e with e _
  injection e with e
  exact e.symm
theorem Cur.no {a ap p : Addr} {μ : Mu} (c : Cur a ap μ) (h : μ p = none) : p ≠ a ∧ p ≠ ap := ⟨cur_ne c h, fun z => by subst z; obtain ⟨o, e⟩ := c.inner; rw [h] at e; cases e⟩
/-- a list of things that are no references is not the cursor -/
theorem find_nodup : ∀ {s : Sig} {p : Str × Kd}, (s.map (·.1)).Nodup → p ∈ s → s.find? (fun q => decide (q.1 = p.1)) = some p
  | q :: s, p, nd, h => by
    rw [List.map_cons, List.nodup_cons] at nd
    rw [List.find?_cons]
    rcases List.mem_cons.mp h with rfl | h
    · simp
    · have : q.1 ≠ p.1 := fun z => nd.1 (by rw [z]; exact List.mem_map.mpr ⟨p, h, rfl⟩)
      simp only [this, decide_false]
      exact find_nodup nd.2 h
theorem heads_ok {s : Sig} {hs own : List Kd} {z : Str} (so : SigOk s) {r : Hd × Kd} (h : r ∈ headsM s hs own z) : hdK s hs own r.1 = some r.2 ∧ r.2.sort = z := by
  unfold headsM at h
  rw [List.mem_filter] at h
  obtain ⟨h, e⟩ := h
  refine ⟨?_, by simpa using e⟩
  unfold rowsH at h
  rw [List.mem_append, List.mem_append] at h
  rcases h with (h | h) | h
  · obtain ⟨j, hj, rfl⟩ := List.mem_map.mp h
    have hj2 : j < own.length := List.mem_range.mp hj
    simp only [hdK]
    rw [if_pos (by omega)]
    have : own.length - 1 - (j : Int).toNat = own.length - 1 - j := by omega
    rw [this, List.getElem?_eq_getElem (by omega)]
    rfl
  · obtain ⟨p, hp, rfl⟩ := List.mem_map.mp h
    simp only [hdK]
    rw [find_nodup so.nd hp]
    rfl
  · obtain ⟨j, hj, rfl⟩ := List.mem_map.mp h
    have hj2 : j < hs.length := List.mem_range.mp hj
    simp only [hdK]
    rw [if_pos (by omega)]
    have : (j : Int).toNat = j := by omega
    rw [this, List.getElem?_eq_getElem (by omega)]
    rfl
theorem heads_null {s : Sig} {hs own : List Kd} {z : Str} (so : SigOk s) (ab : isAB z) : ∃ x, (Hd.c x, Kd.mk [] z) ∈ headsM s hs own z := by
  have : ∃ x, (x, Kd.mk [] z) ∈ s := by
    rcases ab with rfl | rfl
    · exact so.ha
    · exact so.hb
  obtain ⟨x, hx⟩ := this
  refine ⟨x, ?_⟩
  unfold headsM rowsH
  rw [List.mem_filter]
  exact ⟨List.mem_append.mpr (.inl (List.mem_append.mpr (.inr (List.mem_map.mpr ⟨_, hx, rfl⟩)))), by simp [Kd.sort]⟩
theorem heads_len {s : Sig} {hs own : List Kd} {z : Str} (ls : s.length ≤ 9) (lh : hs.length ≤ 3) (lo : own.length ≤ 1000) : (headsM s hs own z).length ≤ 1012 := by
  have h1 : (rowsH s hs own).length ≤ 1012 := by unfold rowsH; simp; omega
  exact Nat.le_trans (List.length_filter_le _ _) h1
theorem call_Hs (h : Φ .law_heads = cHs k) (hk : 1 ≤ k) {s : Sig} {hs own : List Kd} {z : Str} (ls : s.length ≤ 9) (lh : hs.length ≤ 3) (lo : own.length ≤ 1000) {μ : Mu} {Q : PQ} (q : ∀ p μ', Ext μ μ' → μ p = none → μ' p = some (.lst ((headsM s hs own z).map hrT)) → Q (.ref p) μ') : callS Φ .law_heads [sigT s, .tup (hs.map Kd.t), .tup (own.map Kd.t), .str z] μ Q :=
  call_mk h ⟨s, hs, own, z⟩ rfl ⟨hk, ls, lh, lo⟩ fun t μ' ⟨e1, p, et, e2, e3⟩ => by rw [et]; exact q p μ' e1 e2 e3
/-- _law_least -/
structure LeX where
  s : Sig
  a : List Kd
  z : Str
def inLe (x : LeX) : List T := [sigT x.s, (Kd.mk x.a x.z).t]
theorem inLe_inj (x y : LeX) (e : inLe x = inLe y) : x = y := by
  obtain ⟨a, b, c⟩ := x
  obtain ⟨a', b', c'⟩ := y
  simp only [inLe, List.cons.injEq, and_true] at e
  have := Kd.inj e.2
  injection this with e1 e2
  rw [sigT_inj e.1, e1, e2]
def cLe (k : Nat) : TV.Con := mkC inLe (fun x _ => 1 ≤ k ∧ SigOk x.s ∧ x.a.length ≤ 3 ∧ isAB x.z) (fun x μ t μ' => Ext μ μ' ∧ ∃ n, t = (Tm.mk x.a.length (.c n) []).t ∧ (n, Kd.mk [] x.z) ∈ x.s)
/-- _law_choice -/
structure ChX where
  a : Addr
  ap : Addr
  own : List Kd
  kinds : List Kd
def inCh (x : ChX) : List T := [.ref x.a, .tup (x.own.map Kd.t), .tup (x.kinds.map Kd.t)]
abbrev NumOk (own : List Kd) (kd : Kd) (m : Nat) : Prop := m < own.length ∧ own[own.length - 1 - m]? = some kd
def natT (m : Nat) : T := .int m
def cCo (k : Nat) : TV.Con := mkC inCh (fun x μ => 3 ≤ k ∧ Cur x.a x.ap μ ∧ (∀ y ∈ x.own, KOk 2 y) ∧ x.own.length ≤ 1000 ∧ x.kinds.length ≤ 3) (fun x μ t μ' => Cur x.a x.ap μ' ∧ ExtC x.a μ μ' ∧ (t = .non ∨ ∃ p nums, t = .ref p ∧ μ' p = some (.lst (nums.map natT)) ∧ μ p = none ∧ All2 (NumOk x.own) x.kinds nums ∧ nums.Nodup))
theorem inCh_inj {k : Nat} (x y : ChX) (μ : Mu) (e : inCh x = inCh y) (p : 3 ≤ k ∧ Cur x.a x.ap μ ∧ (∀ y ∈ x.own, KOk 2 y) ∧ x.own.length ≤ 1000 ∧ x.kinds.length ≤ 3) (p' : 3 ≤ k ∧ Cur y.a y.ap μ ∧ (∀ z ∈ y.own, KOk 2 z) ∧ y.own.length ≤ 1000 ∧ y.kinds.length ≤ 3) : x = y := by
  obtain ⟨a, b, c, d⟩ := x
  obtain ⟨a', b', c', d'⟩ := y
  simp only [inCh, List.cons.injEq, T.tup.injEq, T.ref.injEq, and_true] at e
  obtain ⟨rfl, e2, e3⟩ := e
  obtain rfl := p.2.1.one p'.2.1
  rw [kds_inj e2, kds_inj e3]
theorem flat_nat {l : List Nat} : (l.map natT).all flatT = true := by
  rw [List.all_eq_true]; intro x hx; obtain ⟨m, _, rfl⟩ := List.mem_map.mp hx; rfl
theorem v_law_choice (h1 : Φ .law_take = cTk k) (hk : 2 ≤ k) (a ap : Addr) (own kinds : List Kd) (μ : Mu) (hc : Cur a ap μ) (ok : ∀ y ∈ own, KOk 2 y) (lo : own.length ≤ 1000) (lk : kinds.length ≤ 3) (post : T → Mu → Prop)
    (q0 : ∀ μ', Cur a ap μ' → ExtC a μ μ' → post .non μ') (q : ∀ p nums μ', Cur a ap μ' → ExtC a μ μ' → μ' p = some (.lst (nums.map natT)) → μ p = none → All2 (NumOk own) kinds nums → nums.Nodup → post (.ref p) μ') :
    wSs Φ b_law_choice (endsOf post) (startT 7 [.ref a, .tup (own.map Kd.t), .tup (kinds.map Kd.t)]) μ := by
  refine v_step rfl ?_
  walk_at "wgo"
  refine ⟨by rw [line_eq]; simp, fun p3 hp3 => ?_⟩
  have p3a := (hc.no hp3)
  refine v_step rfl ?_
  walk_at "wgo"
  refine forT_inv (f := Kd.t) (wSs_mono _) (fun rest τ μ' => ∃ done nums v4 v5 v6, kinds = done ++ rest ∧ τ = [some (.ref a), some (.tup (own.map Kd.t)), some (.tup (kinds.map Kd.t)), some (.ref p3), v4, v5, v6] ∧ Cur a ap μ' ∧ ExtC a μ μ' ∧ μ' p3 = some (.lst (nums.map natT)) ∧ All2 (NumOk own) done nums ∧ nums.Nodup) (fun _ _ _ _ => trivial) ?_ ?_ kinds _ _ ⟨[], [], none, none, none, rfl, rfl, hc.new hp3, ExtX.new hp3, mset_same, .nil, List.nodup_nil⟩
  · rintro τ μ' ⟨done, nums, v4, v5, v6, e0, rfl, c1, x1, l1, all, ndp⟩
    rw [List.append_nil] at e0
    subst e0
    refine v_step rfl ?_
    walk_at "wgo"
    exact q p3 nums μ' c1 x1 l1 hp3 all ndp
  · rintro kd rest τ μ' ⟨done, nums, v4, v5, v6, e0, rfl, c1, x1, l1, all, ndp⟩
    walk_at "wgo"
    refine ⟨⟨by simp <;> omega, by simp <;> omega⟩, ?_⟩
    intro D hD
    have Da := c1.no hD
    refine lcT_rel (wEc_mono _) (wE_mono _) NoA (fun _ => True) (fun (j : Nat) r => r = [] ∨ (r = [natT j] ∧ NumOk own kd j ∧ j ∉ nums)) hD (fun z => z) trivial (fun _ _ _ => trivial) (fun _ _ _ => trivial) (by rw [line_eq]; simp; omega) (fun j hj μ2 e2 _ => ?_) fun rs μ2 all2 e2 _ hl2 => ?_
    · have hj2 : j < own.length := by have := List.mem_range.mp hj; simp at this; omega
      walk_at "wgo"
      refine x_tup (own_at hj2) ?_
      walk_at "wgo"
      have kj : KOk 2 (own[own.length - 1 - j]?.getD kA) := by rw [List.getElem?_eq_getElem (by omega)]; exact ok _ (List.getElem_mem _)
      refine c_eq (eqok_left (kd_pure _) (kd_pure _) (by have := kok_depth kj; omega)) ?_
      refine ⟨_, rfl, ?_⟩
      refine ite_b (fun z => ?_) fun z => ?_
      · have ek : own[own.length - 1 - j]? = some kd := by
          have := (peq_kd _ _).mp z
          rw [List.getElem?_eq_getElem (by omega)] at this ⊢
          exact congrArg some this
        walk_at "wgo"
        refine .inr (.inl ⟨nums.map natT, items_lst (Ext.at e2 l1), rfl, flat_nat, ?_⟩)
        refine ⟨_, rfl, ?_⟩
        refine ite_b (fun w => ?_) fun w => ?_
        · walk_at "wgo"
          exact ⟨ExtX.refl, trivial, .inr ⟨rfl, ⟨hj2, ek⟩, fun hm => by
            have : (nums.map natT).any (fun z => peq z (natT j)) = true := List.any_eq_true.mpr ⟨natT j, List.mem_map.mpr ⟨j, hm, rfl⟩, by simp [natT, peq]⟩
            rw [show (T.int (j : Int)) = natT j from rfl, this] at w
            cases w⟩⟩
        · exact ⟨ExtX.refl, trivial, .inl rfl⟩
      · exact ite_f ⟨ExtX.refl, trivial, .inl rfl⟩
    · have flat : ∃ fits : List Nat, rs.flatten = fits.map natT ∧ fits.length ≤ 1000 ∧ ∀ m ∈ fits, NumOk own kd m ∧ m ∉ nums := by
        have : ∀ {l : List Nat} {rs : List (List T)}, All2 (fun (j : Nat) r => r = [] ∨ (r = [natT j] ∧ NumOk own kd j ∧ j ∉ nums)) l rs → ∃ fits : List Nat, rs.flatten = fits.map natT ∧ fits.length ≤ l.length ∧ ∀ m ∈ fits, NumOk own kd m ∧ m ∉ nums := by
          intro l rs h
          induction h with
          | nil => exact ⟨[], rfl, by simp, by simp⟩
          | @cons j r js rs p _ ih =>
            obtain ⟨fits, e1, e2, e3⟩ := ih
            rcases p with rfl | ⟨rfl, n⟩
            · exact ⟨fits, by simpa using e1, by simp; omega, e3⟩
            · refine ⟨j :: fits, by simp [e1], by simp; omega, fun m hm => ?_⟩
              rcases List.mem_cons.mp hm with rfl | hm
              · exact n
              · exact e3 m hm
        obtain ⟨fits, e1, e2, e3⟩ := this all2
        exact ⟨fits, e1, by simp at e2; omega, e3⟩
      obtain ⟨fits, ef, lf, okf⟩ := flat
      rw [ef] at hl2
      have c2 := c1.ext e2
      have x2 := x1.trans (Ext.any e2)
      have l2 := Ext.at e2 l1
      walk_at "wgo"
      refine ⟨_, tru_lst hl2, ?_⟩
      cases fits with
      | nil =>
        walk_at "wgo"
        exact q0 μ2 c2 x2
      | cons f0 fs =>
        walk_at "wgo"
        refine ⟨⟨_, l2⟩, ?_⟩
        walk_at "wgo"
        refine b_len (len_lst hl2) ?_
        walk_at "wgo"
        have lnn : ((f0 :: fs).map natT).length = (f0 :: fs).length := List.length_map ..
        rw [lnn]
        refine call_Tk h1 hk c2 (by simp <;> omega) (by omega) fun d μ3 d0 d1 c3 x3 => ?_
        obtain ⟨m, hm⟩ : ∃ m, (f0 :: fs)[d.toNat]? = some m := ⟨_, List.getElem?_eq_getElem (by omega)⟩
        have hD3 := x3.at Da.1 hl2
        refine x_lst (t := natT m) hD3 ?_ ?_
        · have : d = ((d.toNat : Nat) : Int) := by omega
          rw [this]
          exact L2.atI_nat (by rw [List.getElem?_map, hm]; rfl)
        walk_at "wgo"
        have l3 := x3.at p3a.1 l2
        have len3 := all.length
        refine m_append l3 (by rw [line_eq, List.length_map]; have : done.length ≤ kinds.length := by { rw [e0]; simp }; omega) ?_
        walk_at "wgo"
        refine ⟨done ++ [kd], nums ++ [m], _, _, _, by rw [e0]; simp, rfl, c3.later p3a.1.symm p3a.2.symm, (x2.trans x3).later hp3, ?_, all.snoc (okf m (List.mem_of_getElem? hm)).1, by
          rw [List.nodup_append]
          refine ⟨ndp, by simp, fun a ha b hb => ?_⟩
          rw [List.mem_singleton] at hb
          subst hb
          intro z; subst z
          exact (okf a (List.mem_of_getElem? hm)).2 ha⟩
        rw [mset_same, List.map_append]
        rfl
end K07

namespace K07
open PySem PySem.Spec TV
open L2 (ixN atI Key)
variable {Φ : Fn → TV.Con} {k : Nat}
/-! _law_term -/
theorem lcT_cur {α : Type} {f : α → T} {l : List α} {tg : Tg} {elt : ME} {stays : Mu → Prop} {D : Addr} {τ : TV.Env} {Q : Mu → Prop} {a ap : Addr} (he : MonE elt) (P : α → T → Prop) {μ0 : Mu} (hc : Cur a ap μ0) (hD : μ0 D = none) (hst : ∀ μ, ExtC a μ0 μ → stays μ) (hlen : l.length ≤ sizeLine)
    (step : ∀ x ∈ l, ∀ μ, ExtC a μ0 μ → Cur a ap μ → wTg tg (f x) τ fun τ' => elt τ' μ fun t μ2 => ExtC a μ μ2 ∧ Cur a ap μ2 ∧ P x t)
    (fin : ∀ ts μ, All2 P l ts → ExtC a μ0 μ → Cur a ap μ → μ D = some (.lst ts) → Q μ) : lcL tg (wEc (F := Fn) Φ .none) elt stays D τ Q (l.map f) [] (mset μ0 D (.lst [])) := by
  have h1 := hc.no hD
  rw [wEc_none]
  exact lcT_map he (fun b => b = a) (Cur a ap) P hD h1.1 hc (fun μ o j => j.later h1.1.symm h1.2.symm) (fun μ e _ => hst μ e) hlen step fin
theorem all2_ex {α β γ : Type} {f : β → γ} {P : α → β → Prop} : ∀ {xs : List α} {ts : List γ}, All2 (fun x t => ∃ y, t = f y ∧ P x y) xs ts → ∃ ys, ts = ys.map f ∧ All2 P xs ys
  | _, _, .nil => ⟨[], rfl, .nil⟩
  | _, _, .cons ⟨y, e, p⟩ h => by
    obtain ⟨ys, e2, q⟩ := all2_ex h
    exact ⟨y :: ys, by rw [e, e2]; rfl, .cons p q⟩
/-- the parts of a hole: long forms of different binders -/
def longs (a : List Kd) (ms : List Nat) : List Tm := List.zipWith (fun k (m : Nat) => longM 1 (.b m) k) a ms
abbrev VarD : NodeP := fun own hd a' ps => ∀ i, hd = .h i → ∃ ms : List Nat, ms.Nodup ∧ All2 (NumOk own) a' ms ∧ ps = longs a' ms
abbrev DT := WG VarD
theorem range_longs {a : List Kd} {nums : List Nat} (e : a.length = nums.length) : ((List.range nums.length).map fun (j : Nat) => longM 1 (.b ((nums[j]?.getD 0 : Nat) : Int)) (a[j]?.getD kA)) = longs a nums := by
  refine List.ext_getElem? fun j => ?_
  unfold longs
  rw [List.getElem?_map, List.getElem?_zipWith]
  by_cases h : j < nums.length
  · have h2 : j < a.length := by omega
    rw [List.getElem?_range h, List.getElem?_eq_getElem h, List.getElem?_eq_getElem h2]
    simp [h, h2]
  · rw [List.getElem?_eq_none (by simp; omega), List.getElem?_eq_none (l := nums) (by omega)]
    cases a[j]? <;> rfl
structure DrX where
  a : Addr
  ap : Addr
  s : Sig
  hs : List Kd
  pre : List Kd
  kd : Kd
  n : Nat
def inDr (x : DrX) : List T := [.ref x.a, sigT x.s, .tup (x.hs.map Kd.t), .tup (x.pre.map Kd.t), x.kd.t, .int x.n]
structure DrP (k c : Nat) (x : DrX) (μ : Mu) : Prop where
  hc : Cur x.a x.ap μ
  so : SigOk x.s
  ho : ∀ y ∈ x.hs, KOk 2 y
  lh : x.hs.length ≤ 3
  po : ∀ y ∈ x.pre, KOk 2 y
  lp : x.pre.length + 3 * x.n ≤ 900
  ko : KOk 2 x.kd
  hk : x.n + c ≤ k
theorem inDr_inj {k c : Nat} (x y : DrX) (μ : Mu) (e : inDr x = inDr y) (p : DrP k c x μ) (p' : DrP k c y μ) : x = y := by
  obtain ⟨a, b, c, d, f, g, h⟩ := x
  obtain ⟨a', b', c', d', f', g', h'⟩ := y
  simp only [inDr, List.cons.injEq, T.tup.injEq, T.ref.injEq, T.int.injEq, and_true] at e
  obtain ⟨rfl, e2, e3, e4, e5, e6⟩ := e
  obtain rfl := p.hc.one p'.hc
  have e6 : h = h' := Int.ofNat.inj e6
  rw [sigT_inj e2, kds_inj e3, kds_inj e4, Kd.inj e5, e6]
def cTe (k : Nat) : TV.Con := mkC inDr (DrP k 5) (fun x μ t μ' => Cur x.a x.ap μ' ∧ ExtC x.a μ μ' ∧ ∃ tm, t = tm.t ∧ WT x.s x.hs (x.n + 1) x.pre x.kd tm)
def cDr (k : Nat) : TV.Con := mkC inDr (DrP k 6) (fun x μ t μ' => Cur x.a x.ap μ' ∧ ExtC x.a μ μ' ∧ ∃ tm, t = tm.t ∧ DT x.s x.hs (x.n + 3) x.pre x.kd tm)
theorem peq_nil {x : List T} : peq (.tup x) (.tup []) = x.isEmpty := by cases x <;> simp [peq, peqs]
theorem v_law_term (h1 : Φ .law_take = cTk k) (h2 : Φ .law_heads = cHs k) (h3 : Φ .law_term = cTe k) (x : DrX) (μ : Mu) (pp : DrP k 4 x μ) (post : T → Mu → Prop) (q : ∀ tm μ', Cur x.a x.ap μ' → ExtC x.a μ μ' → WT x.s x.hs (x.n + 1) x.pre x.kd tm → post tm.t μ') :
    wSs Φ b_law_term (endsOf post) (startT 13 (inDr x)) μ := by
  obtain ⟨a, ap, s, hs, pre, kd, n⟩ := x
  obtain ⟨hc, so, ho, lh, po, lp, ko, hk⟩ := pp
  obtain ⟨ka, z⟩ := kd
  dsimp only at *
  have lka : ka.length ≤ 3 := ko.2.1
  have oo : ∀ y ∈ pre ++ ka, KOk 2 y := fun y hy => by
    rcases List.mem_append.mp hy with hy | hy
    · exact po y hy
    · exact (ko.2.2 y hy).succ
  refine (show wSs Φ _ _ (startT 13 [.ref a, sigT s, .tup (hs.map Kd.t), .tup (pre.map Kd.t), (Kd.mk ka z).t, .int n]) μ from ?_)
  rw [kd_t]
  have pick : ∀ (F : List (Hd × Kd)) (p : Addr) (μ' : Mu), Cur a ap μ' → ExtC a μ μ' → μ' p = some (.lst (F.map hrT)) → p ≠ a → F ≠ [] → (∀ r ∈ F, r ∈ headsM s hs (pre ++ ka) z ∧ (n = 0 → r.2.args = [])) → F.length ≤ 1012 →
      wSs Φ (Ss.drop 4 b_law_term) (endsOf post) [some (.ref a), some (sigT s), some (.tup (hs.map Kd.t)), some (.tup (pre.map Kd.t)), some (.tup [.tup (ka.map Kd.t), .str z]), some (.int n), some (.tup ((pre ++ ka).map Kd.t)), some (.ref p), none, none, none, none, none] μ' := by
    intro F p μ1 c1 x1 l1 pa ne ok lF
    have pos : 0 < F.length := List.length_pos_iff.mpr ne
    refine v_step rfl ?_
    walk_at "wgo"
    refine b_len (len_lst l1) ?_
    walk_at "wgo"
    have lnn : (F.map hrT).length = F.length := List.length_map ..
    rw [lnn]
    refine call_Tk h1 (by omega) c1 (by omega) (by omega) fun d μ2 d0 d1 c2 x2 => ?_
    obtain ⟨r, hr⟩ : ∃ r, F[d.toNat]? = some r := ⟨_, List.getElem?_eq_getElem (by omega)⟩
    refine x_lst (t := hrT r) (x2.at pa l1) ?_ ?_
    · have : d = ((d.toNat : Nat) : Int) := by omega
      rw [this]
      exact L2.atI_nat (by rw [List.getElem?_map, hr]; rfl)
    obtain ⟨hm, hz⟩ := ok r (List.mem_of_getElem? hr)
    obtain ⟨hd, kd'⟩ := r
    obtain ⟨a', z'⟩ := kd'
    obtain ⟨eh, ez⟩ := heads_ok so hm
    dsimp only [Kd.sort, Kd.args] at eh ez hz
    subst ez
    have k2 : KOk 2 (.mk a' z') := hdK_kok so.kd ho oo eh
    refine (show wTg _ (T.tup [hd.t, (Kd.mk a' z').t]) _ _ from ?_)
    rw [kd_t]
    walk_at "wgo"
    refine v_step rfl ?_
    walk_at "wgo"
    intro D hD
    refine lcT_cur (f := Kd.t) (wE_mono _) (fun k' t => ∃ tm, t = tm.t ∧ WT s hs n (pre ++ ka) k' tm) c2 hD (fun _ _ => trivial) (by rw [line_eq]; have := k2.2.1; omega) (fun k' hk' μ3 x3 c3 => ?_) fun ts μ3 all x3 c3 hl3 => ?_
    · walk_at "wgo"
      have n1 : n ≠ 0 := fun e => by have := hz e; rw [this] at hk'; cases hk'
      have en : ((n : Int) - 1) = ((n - 1 : Nat) : Int) := by omega
      rw [en]
      refine call_mk h3 ⟨a, ap, s, hs, pre ++ ka, k', n - 1⟩ rfl ⟨c3, so, ho, lh, oo, by simp; omega, (k2.2.2 k' hk').succ, by dsimp only; omega⟩ fun t μ4 ⟨c4, x4, tm, et, w⟩ => ?_
      dsimp only at w
      have : n - 1 + 1 = n := by omega
      rw [this] at w
      exact ⟨x4, c4, tm, et, w⟩
    · obtain ⟨ps, rfl, w⟩ := all2_ex all
      walk_at "wgo"
      refine b_tuple (items_lst hl3) ?_
      refine v_step rfl ?_
      walk_at "wgo"
      refine ⟨by rw [line_eq]; simp, ?_⟩
      rw [List.length_map]
      have := q (.mk ka.length hd ps) μ3 c3 ((x1.trans x2).trans x3) ⟨rfl, a', eh, k2.2.1, trivial, w⟩
      rw [tm_t] at this
      exact this
  obtain ⟨ns, i1, i2, i3, i4, hc⟩ := hc
  refine v_step rfl ?_
  refine v_subL ?_
  walk_at "wgo"
  refine x_lst hc.c rfl ?_
  walk_at "wgo"
  refine ⟨_, _, _, 4, rfl, hc.c, rfl, rfl, ?_⟩
  have h4 := hc.put (l := [T.ref ap, .int i1, .int i2, .int i3, .int i4].set 4 (.int (i4 - 1))) rfl hc.n1 hc.n2 hc.n3
  have e4 : ExtC a μ (mset μ a (.lst ([T.ref ap, .int i1, .int i2, .int i3, .int i4].set 4 (.int (i4 - 1))))) := ExtX.own rfl
  generalize mset μ a (.lst ([T.ref ap, .int i1, .int i2, .int i3, .int i4].set 4 (.int (i4 - 1)))) = μ1 at h4 e4
  refine v_step rfl ?_
  walk_at "wgo"
  refine o_addT (by rw [line_eq]; simp; omega) ?_
  rw [← List.map_append]
  refine v_step rfl ?_
  walk_at "wgo"
  refine call_Hs h2 (by omega) so.ln lh (by simp; omega) fun p μ2 e2 hp hl2 => ?_
  have c2 : CurAt a ap ns i1 i2 i3 (i4 - 1) μ2 := ⟨Ext.at e2 h4.c, Ext.at e2 h4.s, h4.ne, h4.n1, h4.n2, h4.n3⟩
  have C2 : Cur a ap μ2 := ⟨_, _, _, _, _, c2⟩
  have x2 := e4.trans (Ext.any e2)
  have pa := Cur.no (a := a) (ap := ap) ⟨_, _, _, _, _, h4⟩ hp
  have abz : isAB z := ko.1
  have lH := heads_len (z := z) (own := pre ++ ka) so.ln lh (by simp; omega)
  refine v_step rfl ?_
  have filt : ∀ (τ : TV.Env), τ = [some (.ref a), some (sigT s), some (.tup (hs.map Kd.t)), some (.tup (pre.map Kd.t)), some (.tup [.tup (ka.map Kd.t), .str z]), some (.int n), some (.tup ((pre ++ ka).map Kd.t)), some (.ref p), none, none, none, none, none] → wSs Φ (.cons (.set 7 (.lc (.var 11) (.nm 11) (.val (.var 7)) (.some (.cmp .Eq (.ix (.ix (.var 11) (.int 1)) (.int 0)) (.tup .nil))) [11])) .nil) { endsOf post with nx := wSs Φ (Ss.drop 4 b_law_term) (endsOf post) } τ μ2 := by
    rintro τ rfl
    walk_at "wgo"
    refine ⟨_, hl2, fun D hD => ?_⟩
    refine lcT_filt (f := hrT) (wEc_mono _) (wE_mono _) hrT (fun r => r.2.args.isEmpty) hD (fun μ e => Ext.at e hl2) (by rw [line_eq]; omega) (fun r hr μ3 e3 => ?_) fun μ3 e3 hl3 => ?_
    · obtain ⟨hd, kd'⟩ := r
      obtain ⟨a', y⟩ := kd'
      walk_at "wgo"
      refine x_tup (l := [hd.t, (Kd.mk a' y).t]) rfl ?_
      walk_at "wgo"
      rw [kd_t]
      refine x_tup (l := [.tup (a'.map Kd.t), .str y]) rfl ?_
      walk_at "wgo"
      refine ⟨Nat.zero_le _, ?_⟩
      refine c_eq (eqok_right (by show pures (a'.map Kd.t) = true; rw [← kts_map]; exact kds_pure _) rfl (by decide)) ?_
      refine ⟨_, rfl, ?_⟩
      rw [peq_nil]
      exact ⟨by cases a' <;> rfl, ExtX.refl, fun _ => by walk_at "wgo"; exact ⟨ExtX.refl, rfl⟩⟩
    · obtain ⟨x0, hx0⟩ := heads_null (hs := hs) (own := pre ++ ka) so abz
      refine v_nil (pick _ D μ3 (C2.ext e3) (x2.trans (Ext.any e3)) hl3 (C2.no hD).1 (fun z0 => ?_) (fun r hr => ?_) (Nat.le_trans (List.length_filter_le _ _) lH))
      · have : (Hd.c x0, Kd.mk [] z) ∈ (headsM s hs (pre ++ ka) z).filter (fun r => r.2.args.isEmpty) := List.mem_filter.mpr ⟨hx0, rfl⟩
        rw [z0] at this
        cases this
      · have := List.mem_filter.mp hr
        exact ⟨this.1, fun _ => List.isEmpty_iff.mp this.2⟩
  walk_at "wgo"
  refine ite_b (fun c1 => ?_) fun c1 => ?_
  · walk_at "w1"
    exact filt _ rfl
  · have n1 : ¬ (n : Int) < 1 := of_decide_eq_false c1
    walk_at "wgo"
    refine x_lst c2.c rfl ?_
    walk_at "wgo"
    refine ite_b (fun c2' => ?_) fun c2' => ?_
    · exact filt _ rfl
    · walk_at "wgo"
      obtain ⟨x0, hx0⟩ := heads_null (hs := hs) (own := pre ++ ka) so abz
      exact pick _ p μ2 C2 x2 hl2 pa.1 (fun z0 => by rw [z0] at hx0; cases hx0) (fun r hr => ⟨hr, fun e => by omega⟩) lH
end K07

namespace K07
open PySem PySem.Spec TV
open L2 (ixN atI Key)
variable {Φ : Fn → TV.Con} {k : Nat}
/-! _law_drawn -/
theorem call_Lo (h : Φ .law_long = cLo k) (hk : 3 ≤ k) {m : Nat} {kd : Kd} (ok : KOk 1 kd) {μ : Mu} {Q : PQ} (q : ∀ μ', Ext μ μ' → Q (longM 1 (.b m) kd).t μ') : callS Φ .law_long [.tup [.str "b", natT m], kd.t] μ Q :=
  call_of h ⟨1, .b m, kd, rfl, ok, by omega⟩ fun t μ' p => by rw [p.2 1 (.b m) kd rfl ok]; exact q μ' p.1
theorem v_law_drawn (h1 : Φ .law_take = cTk k) (h2 : Φ .law_heads = cHs k) (h3 : Φ .law_drawn = cDr k) (h4 : Φ .law_choice = cCo k) (h5 : Φ .law_least = cLe k) (h6 : Φ .law_long = cLo k) (x : DrX) (μ : Mu) (pp : DrP k 5 x μ) (post : T → Mu → Prop) (q : ∀ tm μ', Cur x.a x.ap μ' → ExtC x.a μ μ' → DT x.s x.hs (x.n + 3) x.pre x.kd tm → post tm.t μ') :
    wSs Φ b_law_drawn (endsOf post) (startT 15 (inDr x)) μ := by
  obtain ⟨a, ap, s, hs, pre, kd, n⟩ := x
  obtain ⟨hc, so, ho, lh, po, lp, ko, hk⟩ := pp
  obtain ⟨ka, z⟩ := kd
  dsimp only at *
  have lka : ka.length ≤ 3 := ko.2.1
  have abz : isAB z := ko.1
  have oo : ∀ y ∈ pre ++ ka, KOk 2 y := fun y hy => by
    rcases List.mem_append.mp hy with hy | hy
    · exact po y hy
    · exact (ko.2.2 y hy).succ
  refine (show wSs Φ _ _ (startT 15 [.ref a, sigT s, .tup (hs.map Kd.t), .tup (pre.map Kd.t), (Kd.mk ka z).t, .int n]) μ from ?_)
  rw [kd_t]
  have pick : ∀ (F : List (Hd × Kd)) (p : Addr) (μ' : Mu), Cur a ap μ' → ExtC a μ μ' → μ' p = some (.lst (F.map hrT)) → p ≠ a → F ≠ [] → (∀ r ∈ F, r ∈ headsM s hs (pre ++ ka) z ∧ (n = 0 → r.2.args = [] ∨ ∃ i, r.1 = .h i)) → F.length ≤ 1012 →
      wSs Φ (Ss.drop 4 b_law_drawn) (endsOf post) [some (.ref a), some (sigT s), some (.tup (hs.map Kd.t)), some (.tup (pre.map Kd.t)), some (.tup [.tup (ka.map Kd.t), .str z]), some (.int n), some (.tup ((pre ++ ka).map Kd.t)), some (.ref p), none, none, none, none, none, none, none] μ' := by
    intro F p μ1 c1 x1 l1 pa ne ok lF
    have pos : 0 < F.length := List.length_pos_iff.mpr ne
    refine v_step rfl ?_
    walk_at "wgo"
    refine b_len (len_lst l1) ?_
    walk_at "wgo"
    have lnn : (F.map hrT).length = F.length := List.length_map ..
    rw [lnn]
    refine call_Tk h1 (by omega) c1 (by omega) (by omega) fun d μ2 d0 d1 c2 x2 => ?_
    obtain ⟨r, hr⟩ : ∃ r, F[d.toNat]? = some r := ⟨_, List.getElem?_eq_getElem (by omega)⟩
    refine x_lst (t := hrT r) (x2.at pa l1) ?_ ?_
    · have : d = ((d.toNat : Nat) : Int) := by omega
      rw [this]
      exact L2.atI_nat (by rw [List.getElem?_map, hr]; rfl)
    obtain ⟨hm, hz⟩ := ok r (List.mem_of_getElem? hr)
    obtain ⟨hd, kd'⟩ := r
    obtain ⟨a', z'⟩ := kd'
    obtain ⟨eh, ez⟩ := heads_ok so hm
    dsimp only [Kd.sort, Kd.args] at eh ez hz
    subst ez
    have k2 : KOk 2 (.mk a' z') := hdK_kok so.kd ho oo eh
    refine (show wTg _ (T.tup [hd.t, (Kd.mk a' z').t]) _ _ from ?_)
    rw [kd_t]
    walk_at "wgo"
    -- no hole: the parts are drawn
    have plain : (∀ i, hd ≠ .h i) → wSs Φ (Ss.drop 6 b_law_drawn) (endsOf post) [some (.ref a), some (sigT s), some (.tup (hs.map Kd.t)), some (.tup (pre.map Kd.t)), some (.tup [.tup (ka.map Kd.t), .str z']), some (.int n), some (.tup ((pre ++ ka).map Kd.t)), some (.ref p), none, some hd.t, some (.tup [.tup (a'.map Kd.t), .str z']), none, none, none, none] μ2 := by
      intro nh
      refine v_step rfl ?_
      walk_at "wgo"
      intro D hD
      refine lcT_cur (f := Kd.t) (wE_mono _) (fun k' t => ∃ tm, t = tm.t ∧ DT s hs (n + 2) (pre ++ ka) k' tm) c2 hD (fun _ _ => trivial) (by rw [line_eq]; have := k2.2.1; omega) (fun k' hk' μ3 x3 c3 => ?_) fun ts μ3 all x3 c3 hl3 => ?_
      · walk_at "wgo"
        have n1 : n ≠ 0 := fun e => by
          rcases hz e with e' | ⟨i, e'⟩
          · rw [e'] at hk'; cases hk'
          · exact nh i e'
        have en : ((n : Int) - 1) = ((n - 1 : Nat) : Int) := by omega
        rw [en]
        refine call_mk h3 ⟨a, ap, s, hs, pre ++ ka, k', n - 1⟩ rfl ⟨c3, so, ho, lh, oo, by simp; omega, (k2.2.2 k' hk').succ, by dsimp only; omega⟩ fun t μ4 ⟨c4, x4, tm, et, w⟩ => ?_
        dsimp only at w
        have : n - 1 + 3 = n + 2 := by omega
        rw [this] at w
        exact ⟨x4, c4, tm, et, w⟩
      · obtain ⟨ps, rfl, w⟩ := all2_ex all
        walk_at "wgo"
        refine b_tuple (items_lst hl3) ?_
        refine v_step rfl ?_
        walk_at "wgo"
        refine ⟨by rw [line_eq]; simp, ?_⟩
        rw [List.length_map]
        have := q (.mk ka.length hd ps) μ3 c3 ((x1.trans x2).trans x3) ⟨rfl, a', eh, k2.2.1, fun i e => absurd e (nh i), w⟩
        rw [tm_t] at this
        exact this
    refine v_step rfl ?_
    walk_at "wgo"
    cases hd with
    | b i =>
      refine x_tup (l := [.str "b", .int i]) rfl ?_
      walk_at "wgo"
      exact plain (fun _ e => by cases e)
    | c i =>
      refine x_tup (l := [.str "c", .str i]) rfl ?_
      walk_at "wgo"
      exact plain (fun _ e => by cases e)
    | h i =>
      refine x_tup (l := [.str "h", .int i]) rfl ?_
      walk_at "wgo"
      refine call_mk h4 ⟨a, ap, pre ++ ka, a'⟩ rfl ⟨by omega, c2, oo, by simp; omega, k2.2.1⟩ fun t μ3 ⟨c3, x3, r3⟩ => ?_
      dsimp only at c3 x3 r3
      have X3 := (x1.trans x2).trans x3
      rcases r3 with rfl | ⟨pn, nums, rfl, ln, np, all, ndp⟩
      · walk_at "wgo"
        have := call_mk (ts := [sigT s, .tup [.tup (ka.map Kd.t), .str z']]) (μ := μ3) (Q := (endsOf post).rt) h5 ⟨s, ka, z'⟩ (by rw [inLe, kd_t]) ⟨by omega, so, lka, abz⟩ fun t μ4 ⟨e4, m, et, hm⟩ => by
          rw [et]
          refine q _ μ4 (c3.ext e4) (X3.trans (Ext.any e4)) ⟨rfl, [], ?_, by simp, fun i e => (by cases e), .nil⟩
          simp only [hdK]
          rw [find_nodup so.nd hm]
          rfl
        exact this
      · walk_at "wgo"
        refine b_len (len_lst ln) ?_
        walk_at "wgo"
        have lnn : (nums.map natT).length = nums.length := List.length_map ..
        rw [lnn]
        have la := all.length
        have la3 := k2.2.1
        refine ⟨⟨by omega, by omega⟩, ?_⟩
        intro D hD
        refine lcT_pure (wE_mono _) (fun (j : Nat) => (longM 1 (.b (nums[j]?.getD 0)) (a'[j]?.getD kA)).t) hD (fun _ _ => trivial) (by rw [line_eq]; simp; omega) (fun j hj μ4 e4 => ?_) fun μ4 e4 hl4 => ?_
        · have hj2 : j < nums.length := by have := List.mem_range.mp hj; simp at this; omega
          have hj3 : j < a'.length := by omega
          walk_at "wgo"
          refine x_lst (t := natT (nums[j]?.getD 0)) (Ext.at e4 ln) (L2.atI_nat (by rw [List.getElem?_map, List.getElem?_eq_getElem hj2]; rfl)) ?_
          walk_at "wgo"
          refine ⟨by rw [line_eq]; simp, ?_⟩
          walk_at "wgo"
          refine x_tup (hs_at hj3) ?_
          walk_at "wgo"
          have k1 : KOk 1 (a'[j]?.getD kA) := by rw [List.getElem?_eq_getElem hj3]; exact k2.2.2 _ (List.getElem_mem hj3)
          exact call_Lo h6 (by omega) k1 fun μ5 e5 => ⟨e5, rfl⟩
        · walk_at "wgo"
          refine b_tuple (items_lst hl4) ?_
          walk_at "wgo"
          refine ⟨by rw [line_eq]; simp, ?_⟩
          rw [List.length_map]
          have er : ((nums.length : Nat) : Int).toNat = nums.length := by omega
          have er2 := range_longs (a := a') (nums := nums) la
          have wl : All2 (fun k p => DT s hs (n + 2) (pre ++ ka) k p) a' (longs a' nums) := by
            refine all2_of_get (by unfold longs; simp [la]) fun j x y hx hy => ?_
            obtain ⟨m, hm, n1, n2⟩ := all2_nth all hx
            unfold longs at hy
            rw [List.getElem?_zipWith, hx, hm] at hy
            cases hy
            exact (WG.long (fun _ _ _ _ i e => by cases e) (k2.2.2 x (List.mem_of_getElem? hx)) n1 n2).mono (by omega)
          have := q (.mk ka.length (.h i) (longs a' nums)) μ4 (c3.ext e4) (X3.trans (Ext.any e4)) ⟨rfl, a', eh, la3, fun i' _ => ⟨nums, ndp, all, rfl⟩, wl⟩
          rw [← er2] at this
          rw [tm_t, List.map_map] at this
          rw [er]
          exact this
  obtain ⟨ns, i1, i2, i3, i4, hc⟩ := hc
  refine v_step rfl ?_
  refine v_subL ?_
  walk_at "wgo"
  refine x_lst hc.c rfl ?_
  walk_at "wgo"
  refine ⟨_, _, _, 4, rfl, hc.c, rfl, rfl, ?_⟩
  have h4 := hc.put (l := [T.ref ap, .int i1, .int i2, .int i3, .int i4].set 4 (.int (i4 - 1))) rfl hc.n1 hc.n2 hc.n3
  have e4 : ExtC a μ (mset μ a (.lst ([T.ref ap, .int i1, .int i2, .int i3, .int i4].set 4 (.int (i4 - 1))))) := ExtX.own rfl
  generalize mset μ a (.lst ([T.ref ap, .int i1, .int i2, .int i3, .int i4].set 4 (.int (i4 - 1)))) = μ1 at h4 e4
  refine v_step rfl ?_
  walk_at "wgo"
  refine o_addT (by rw [line_eq]; simp; omega) ?_
  rw [← List.map_append]
  refine v_step rfl ?_
  walk_at "wgo"
  refine call_Hs h2 (by omega) so.ln lh (by simp; omega) fun p μ2 e2 hp hl2 => ?_
  have c2 : CurAt a ap ns i1 i2 i3 (i4 - 1) μ2 := ⟨Ext.at e2 h4.c, Ext.at e2 h4.s, h4.ne, h4.n1, h4.n2, h4.n3⟩
  have C2 : Cur a ap μ2 := ⟨_, _, _, _, _, c2⟩
  have x2 := e4.trans (Ext.any e2)
  have pa := Cur.no (a := a) (ap := ap) ⟨_, _, _, _, _, h4⟩ hp
  have lH := heads_len (z := z) (own := pre ++ ka) so.ln lh (by simp; omega)
  refine v_step rfl ?_
  have filt : ∀ (τ : TV.Env), τ = [some (.ref a), some (sigT s), some (.tup (hs.map Kd.t)), some (.tup (pre.map Kd.t)), some (.tup [.tup (ka.map Kd.t), .str z]), some (.int n), some (.tup ((pre ++ ka).map Kd.t)), some (.ref p), none, none, none, none, none, none, none] → wSs Φ (.cons (.set 7 (.lc (.var 12) (.nm 12) (.val (.var 7)) (.some (.or (.cons (.cmp .Eq (.ix (.ix (.var 12) (.int 1)) (.int 0)) (.tup .nil)) (.cons (.cmp .Eq (.ix (.ix (.var 12) (.int 0)) (.int 0)) (.str "h")) .nil)))) [12])) .nil) { endsOf post with nx := wSs Φ (Ss.drop 4 b_law_drawn) (endsOf post) } τ μ2 := by
    rintro τ rfl
    walk_at "wgo"
    refine ⟨_, hl2, fun D hD => ?_⟩
    refine lcT_filt (f := hrT) (wEc_mono _) (wE_mono _) hrT (fun r => r.2.args.isEmpty || (match r.1 with | .h _ => true | _ => false)) hD (fun μ e => Ext.at e hl2) (by rw [line_eq]; omega) (fun r hr μ3 e3 => ?_) fun μ3 e3 hl3 => ?_
    · obtain ⟨hd, kd'⟩ := r
      obtain ⟨a', y⟩ := kd'
      walk_at "wgo"
      refine x_tup (l := [hd.t, (Kd.mk a' y).t]) rfl ?_
      walk_at "wgo"
      rw [kd_t]
      refine x_tup (l := [.tup (a'.map Kd.t), .str y]) rfl ?_
      walk_at "wgo"
      refine ⟨Nat.zero_le _, ?_⟩
      refine c_eq (eqok_right (by show pures (a'.map Kd.t) = true; rw [← kts_map]; exact kds_pure _) rfl (by decide)) ?_
      refine ⟨_, rfl, ?_⟩
      rw [peq_nil]
      cases a' with
      | nil =>
        walk_at "wgo"
        exact ⟨rfl, ExtX.refl, fun _ => by walk_at "wgo"; exact ⟨ExtX.refl, rfl⟩⟩
      | cons y0 ys =>
        walk_at "wgo"
        refine x_tup (l := [hd.t, (Kd.mk (y0 :: ys) y).t]) rfl ?_
        walk_at "wgo"
        cases hd with
        | b i =>
          refine x_tup (l := [.str "b", .int i]) rfl ?_
          walk_at "wgo"
          exact ⟨rfl, ExtX.refl, fun e => by walk_at "wgo"; exact ⟨ExtX.refl, by unfold hrT; rw [kd_t]⟩⟩
        | c i =>
          refine x_tup (l := [.str "c", .str i]) rfl ?_
          walk_at "wgo"
          exact ⟨rfl, ExtX.refl, fun e => by walk_at "wgo"; exact ⟨ExtX.refl, by unfold hrT; rw [kd_t]⟩⟩
        | h i =>
          refine x_tup (l := [.str "h", .int i]) rfl ?_
          walk_at "wgo"
          exact ⟨rfl, ExtX.refl, fun e => by walk_at "wgo"; exact ⟨ExtX.refl, by unfold hrT; rw [kd_t]⟩⟩
    · obtain ⟨x0, hx0⟩ := heads_null (hs := hs) (own := pre ++ ka) so abz
      refine v_nil (pick _ D μ3 (C2.ext e3) (x2.trans (Ext.any e3)) hl3 (C2.no hD).1 (fun z0 => ?_) (fun r hr => ?_) (Nat.le_trans (List.length_filter_le _ _) lH))
      · have : (Hd.c x0, Kd.mk [] z) ∈ (headsM s hs (pre ++ ka) z).filter (fun r => r.2.args.isEmpty || (match r.1 with | .h _ => true | _ => false)) := List.mem_filter.mpr ⟨hx0, rfl⟩
        rw [z0] at this
        cases this
      · have := List.mem_filter.mp hr
        refine ⟨this.1, fun _ => ?_⟩
        rcases Bool.or_eq_true_iff.mp this.2 with e | e
        · exact .inl (List.isEmpty_iff.mp e)
        · right
          cases h : r.1 with
          | h i => exact ⟨i, rfl⟩
          | b i => rw [h] at e; cases e
          | c i => rw [h] at e; cases e
  walk_at "wgo"
  refine ite_b (fun c1 => ?_) fun c1 => ?_
  · walk_at "w1"
    exact filt _ rfl
  · have n1 : ¬ (n : Int) < 1 := of_decide_eq_false c1
    walk_at "wgo"
    refine x_lst c2.c rfl ?_
    walk_at "wgo"
    refine ite_b (fun c2' => ?_) fun c2' => ?_
    · exact filt _ rfl
    · walk_at "wgo"
      obtain ⟨x0, hx0⟩ := heads_null (hs := hs) (own := pre ++ ka) so abz
      exact pick _ p μ2 C2 x2 hl2 pa.1 (fun z0 => by rw [z0] at hx0; cases hx0) (fun r hr => ⟨hr, fun e => by omega⟩) lH
end K07

namespace K07
open PySem PySem.Spec TV
open L2 (ixN atI Key)
variable {Φ : Fn → TV.Con} {k : Nat}
/-! nodes -/
mutual
def tsz : Tm → Nat
  | .mk _ _ ps => 1 + tszs ps
def tszs : List Tm → Nat
  | [] => 0
  | x :: xs => tsz x + tszs xs
end
theorem tszs_sum : ∀ l : List Tm, tszs l = (l.map tsz).sum
  | [] => rfl
  | x :: xs => by unfold tszs; rw [tszs_sum xs]; rfl
theorem tsz_mk (n : Int) (h : Hd) (ps : List Tm) : tsz (.mk n h ps) = 1 + (ps.map tsz).sum := by unfold tsz; rw [tszs_sum]
theorem tsz_pos (t : Tm) : 0 < tsz t := by cases t; rw [tsz_mk]; omega
def capB : Nat → Nat
  | 0 => 0
  | h + 1 => 1 + 3 * capB h
theorem WG.size {P : NodeP} {s : Sig} {hs : List Kd} : ∀ {h : Nat} {own : List Kd} {k : Kd} {t : Tm}, WG P s hs h own k t → tsz t ≤ capB h
  | 0, _, _, _, q => q.elim
  | h + 1, own, .mk a z, .mk n hd ps, ⟨q1, a', q2, q3, q4, q5⟩ => by
    rw [tsz_mk]
    have : ∀ {a' : List Kd} {ps : List Tm}, All2 (fun k p => WG P s hs h (own ++ a) k p) a' ps → (ps.map tsz).sum ≤ a'.length * capB h := by
      intro a' ps w
      induction w with
      | nil => simp
      | cons p _ ih =>
        have := p.size
        simp only [List.map_cons, List.sum_cons, List.length_cons, Nat.succ_mul]
        omega
    have h2 := this q5
    have h3 : a'.length * capB h ≤ 3 * capB h := Nat.mul_le_mul_right _ q3
    show _ ≤ 1 + 3 * capB h
    omega
structure ApX where
  ts : List Tm
def cAp (k : Nat) : TV.Con := mkC (fun x : ApX => [.tup (x.ts.map Tm.t)]) (fun x _ => 1 ≤ k ∧ x.ts.length ≤ 100 ∧ ∀ t ∈ x.ts, tsz t ≤ 1000000) (fun _ μ t μ' => Ext μ μ' ∧ ∃ b, t = .bl b)
theorem inAp_inj (x y : ApX) (e : [T.tup (x.ts.map Tm.t)] = [.tup (y.ts.map Tm.t)]) : x = y := by
  obtain ⟨a⟩ := x
  obtain ⟨b⟩ := y
  simp only [List.cons.injEq, T.tup.injEq, and_true] at e
  rw [tms_inj e]
def lvT (p : Tm × Int) : T := .tup [p.1.t, .int p.2]
def wtL (L : List (Tm × Int)) : Nat := (L.map fun p => tsz p.1).sum
theorem wtL_append (a b : List (Tm × Int)) : wtL (a ++ b) = wtL a + wtL b := by unfold wtL; simp
theorem wtL_len : ∀ L : List (Tm × Int), L.length ≤ wtL L
  | [] => by simp
  | p :: L => by
    have h1 := wtL_len L
    have h2 := tsz_pos p.1
    have e : wtL (p :: L) = tsz p.1 + wtL L := by simp [wtL]
    rw [List.length_cons, e]
    omega
theorem v_law_is_apt (ts : List Tm) (μ : Mu) (lt : ts.length ≤ 100) (sz : ∀ t ∈ ts, tsz t ≤ 1000000) (post : T → Mu → Prop) (q : ∀ b μ', Ext μ μ' → post (.bl b) μ') : wSs Φ b_law_is_apt (endsOf post) (startT 9 [.tup (ts.map Tm.t)]) μ := by
  refine v_step rfl ?_
  walk_at "wgo"
  refine ⟨by rw [line_eq]; simp, fun p0 hp0 => ?_⟩
  refine v_step rfl ?_
  walk_at "wgo"
  refine forT_inv (f := Tm.t) (wSs_mono _) (fun rest τ μ' => ∃ (bs : List Bool), ∃ v2 v3 v4 v5 v6 v7 v8, bs.length + rest.length ≤ 100 ∧ (∀ t ∈ rest, t ∈ ts) ∧ τ = [some (.tup (ts.map Tm.t)), some (.ref p0), v2, v3, v4, v5, v6, v7, v8] ∧ Ext μ μ' ∧ μ' p0 = some (.lst (bs.map fun b => T.bl b))) (fun _ _ _ _ => trivial) ?_ ?_ ts _ _ ⟨[], _, _, _, _, _, _, _, by simpa using lt, fun _ h => h, rfl, ExtX.new hp0, mset_same⟩
  · rintro τ μ1 ⟨bs, v2, v3, v4, v5, v6, v7, v8, lb, _, rfl, e1, hl⟩
    refine v_step rfl ?_
    walk_at "wgo"
    refine b_all hl (bls_map (f := id)) ?_
    exact q _ μ1 e1
  · rintro t rest τ μ1 ⟨bs, v2, v3, v4, v5, v6, v7, v8, lb, sub, rfl, e1, hl⟩
    have szt := sz t (sub t List.mem_cons_self)
    walk_at "wgo"
    refine ⟨by rw [line_eq]; simp, ?_⟩
    walk_at "wgo"
    refine ⟨by rw [line_eq]; simp, fun pl hpl => ?_⟩
    have npl : p0 ≠ pl := ne_of_new hpl hl
    walk_at "wgo"
    refine ⟨rfl, ?_⟩
    walk_at "w1"
    refine v_whl (whl_inv (wT_mono _) (wSs_mono _) (fun n τ μ' => ∃ (L : List (Tm × Int)), ∃ (nodes deep : Int), ∃ v6 v7 v8, n = wtL L ∧ wtL L ≤ 1000000 ∧ τ = [some (.tup (ts.map Tm.t)), some (.ref p0), some t.t, some (.ref pl), some (.int nodes), some (.int deep), v6, v7, v8] ∧ Ext μ μ' ∧ μ' p0 = some (.lst (bs.map fun b => T.bl b)) ∧ μ' pl = some (.lst (L.map lvT))) ?_ (n := wtL [(t, 1)]) ⟨[(t, 1)], 0, 0, v6, v7, v8, rfl, by simpa [wtL] using szt, rfl, e1.trans (ExtX.new hpl), by rw [mset_ne npl]; exact hl, mset_same⟩)
    rintro n τ μ2 ⟨L, nodes, deep, v6, v7, v8, rfl, wL, rfl, e2, hl2, hL⟩
    walk_at "wgo"
    refine ⟨_, tru_lst hL, ?_⟩
    rcases List.eq_nil_or_concat L with rfl | ⟨L', p, rfl⟩
    · refine ite_ff rfl ?_
      walk_at "wgo"
      refine ⟨⟨_, hl2⟩, ?_⟩
      walk_at "wgo"
      refine ite_b (fun z => ?_) fun z => ?_
      · walk_at "wgo"
        refine m_append hl2 (by rw [line_eq, List.length_map]; simp at lb; omega) ?_
        walk_at "wgo"
        exact ⟨bs ++ [decide (deep ≤ 20)], _, _, _, _, _, _, _, by simp at lb ⊢; omega, fun x hx => sub x (List.mem_cons_of_mem _ hx), rfl, e2.later hp0, by rw [mset_same, List.map_append]; rfl⟩
      · walk_at "wgo"
        refine m_append hl2 (by rw [line_eq, List.length_map]; simp at lb; omega) ?_
        walk_at "wgo"
        exact ⟨bs ++ [false], _, _, _, _, _, _, _, by simp at lb ⊢; omega, fun x hx => sub x (List.mem_cons_of_mem _ hx), rfl, e2.later hp0, by rw [mset_same, List.map_append]; rfl⟩
    · rw [List.concat_eq_append] at wL hL ⊢
      refine ite_tt (by simp) ?_
      obtain ⟨one, level⟩ := p
      obtain ⟨n1, hd1, ps1⟩ := one
      walk_at "wgo"
      refine ⟨⟨_, hL⟩, ?_⟩
      walk_at "wgo"
      refine m_pop (l := L'.map lvT) (x := lvT (.mk n1 hd1 ps1, level)) (by rw [hL, List.map_append]; rfl) ?_
      refine (show wTg _ (T.tup [(Tm.mk n1 hd1 ps1).t, .int level]) _ _ from ?_)
      rw [tm_t]
      walk_at "wgo"
      refine ⟨rfl, ?_⟩
      walk_at "wgo"
      refine ⟨⟨_, mset_same⟩, ?_⟩
      walk_at "wgo"
      have nD : ∀ {D : Addr}, mset μ2 pl (.lst (L'.map lvT)) D = none → p0 ≠ D ∧ pl ≠ D := fun {D} h => ⟨ne_of_new h (by rw [mset_ne npl]; exact hl2), ne_of_new h mset_same⟩
      intro D hD
      have w1 : wtL (L' ++ [(.mk n1 hd1 ps1, level)]) = wtL L' + (1 + (ps1.map tsz).sum) := by rw [wtL_append]; simp [wtL, tsz_mk]
      have lps : ps1.length ≤ (ps1.map tsz).sum := by
        clear hL hD w1 wL
        induction ps1 with
        | nil => simp
        | cons x xs ih => have := tsz_pos x; simp; omega
      refine lcT_pure (f := Tm.t) (wE_mono _) (fun x => lvT (x, level + 1)) hD (fun _ _ => trivial) (by rw [line_eq]; omega) (fun x hx μ3 e3 => ?_) fun μ3 e3 hl3 => ?_
      · walk_at "wgo"
        refine ⟨by rw [line_eq]; simp, ?_⟩
        exact ⟨ExtX.refl, rfl⟩
      · walk_at "wgo"
        have lL := wtL_len L'
        refine m_extend (Ext.at e3 mset_same) (items_lst hl3) (by rw [line_eq]; simp; omega) ?_
        walk_at "wgo"
        have w2 : wtL (L' ++ ps1.map fun x => (x, level + 1)) = wtL L' + (ps1.map tsz).sum := by rw [wtL_append]; simp [wtL, Function.comp_def]
        have npl0 : μ pl = none := by
          cases h : μ pl with
          | none => rfl
          | some o => rw [Ext.at e1 h] at hpl; cases hpl
        refine ⟨_, by rw [w1]; omega, L' ++ ps1.map (fun x => (x, level + 1)), _, _, _, _, _, w2.symm, by omega, rfl, ?_, ?_, ?_⟩
        · exact ((e2.later npl0).trans e3).later npl0
        · rw [mset_ne npl, Ext.at e3 (by rw [mset_ne npl]; exact hl2)]
        · rw [mset_same, List.map_append, List.map_map]; rfl
end K07

namespace K07
open PySem PySem.Spec TV
open L2 (ixN atI Key)
variable {Φ : Fn → TV.Con} {k : Nat}
/-! own_binders, long_binder, binder_of, binders_of -/
def ownsM (h : Nat) (a : List Kd) : List Tm := (List.range a.length).map fun (j : Nat) => longM h (.b (a.length - 1 - j)) (a[j]?.getD (.mk [] "a"))
def cLb (k : Nat) : TV.Con := ⟨fun ts _ => ∃ (h : Nat) (i : Int) (kd : Kd), ts = [.int i, kd.t] ∧ KOk h kd ∧ 2 * h + 2 ≤ k, fun ts μ t μ' => Ext μ μ' ∧ ∀ (h : Nat) (i : Int) (kd : Kd), ts = [.int i, kd.t] → KOk h kd → t = (longM h (.b i) kd).t⟩
def cOb (k : Nat) : TV.Con := ⟨fun ts _ => ∃ (h : Nat) (a : List Kd), ts = [.tup (a.map Kd.t)] ∧ a.length ≤ 3 ∧ 1 ≤ k ∧ ∀ x ∈ a, KOk h x ∧ 2 * h + 3 ≤ k, fun ts μ t μ' => Ext μ μ' ∧ ∀ (h : Nat) (a : List Kd), ts = [.tup (a.map Kd.t)] → (∀ x ∈ a, KOk h x) → t = .tup ((ownsM h a).map Tm.t)⟩
theorem zipIdx_rng {α : Type} (l : List α) : l.zipIdx = (List.range l.length).zipWith (fun j x => (x, j)) l := by
  refine List.ext_getElem? fun j => ?_
  rw [List.getElem?_zipIdx, List.getElem?_zipWith]
  by_cases h : j < l.length
  · rw [List.getElem?_eq_getElem h, List.getElem?_range h]; simp
  · rw [List.getElem?_eq_none (by omega), List.getElem?_eq_none (l := List.range l.length) (by simp; omega)]; rfl
theorem v_long_binder (h2 : Φ .own_binders = cOb k) (h : Nat) (i : Int) (a : List Kd) (s : Str) (μ : Mu) (ok : KOk h (.mk a s)) (hk : 2 * h + 1 ≤ k) (post : T → Mu → Prop) (q : ∀ μ', Ext μ μ' → post (longM h (.b i) (.mk a s)).t μ') : wSs Φ b_long_binder (endsOf post) (startT 2 [.int i, (Kd.mk a s).t]) μ := by
  rw [kd_t]
  rw [longM_eq _ ok, tm_t] at q
  obtain ⟨al, aok⟩ := kok_args ok
  refine v_step rfl ?_
  walk_at "wgo"
  rw [List.length_map]
  walk_at "wgo"
  refine ⟨by rw [line_eq]; simp, ?_⟩
  walk_at "wgo"
  refine call_of h2 ⟨h - 1, a, rfl, al, by omega, fun x hx => ⟨(aok x hx).1, by have := (aok x hx).2; omega⟩⟩ fun t μ' p => ?_
  rw [p.2 (h - 1) a rfl fun x hx => (aok x hx).1]
  walk_at "wgo"
  refine ⟨by rw [line_eq]; simp, ?_⟩
  exact q μ' p.1
theorem v_own_binders (h2 : Φ .long_binder = cLb k) (h : Nat) (a : List Kd) (μ : Mu) (al : a.length ≤ 3) (aok : ∀ x ∈ a, KOk h x ∧ 2 * h + 2 ≤ k) (post : T → Mu → Prop) (q : ∀ μ', Ext μ μ' → post (.tup ((ownsM h a).map Tm.t)) μ') : wSs Φ b_own_binders (endsOf post) (startT 3 [.tup (a.map Kd.t)]) μ := by
  refine v_step rfl ?_
  walk_at "wgo"
  intro D hD
  have e : ((a.map Kd.t).zipIdx.map fun p => T.tup [.int (p.2 : Nat), p.1]) = (List.range a.length).map fun (j : Nat) => T.tup [.int j, (a[j]?.getD kA).t] := by
    refine List.ext_getElem? fun j => ?_
    rw [List.getElem?_map, List.getElem?_map, List.getElem?_zipIdx, List.getElem?_map]
    by_cases h : j < a.length
    · rw [List.getElem?_eq_getElem h, List.getElem?_range h]; simp [h]
    · rw [List.getElem?_eq_none (by omega), List.getElem?_eq_none (l := List.range a.length) (by simp; omega)]; rfl
  rw [e]
  refine lcT_pure (f := fun (j : Nat) => T.tup [.int j, (a[j]?.getD kA).t]) (wE_mono _) (fun (j : Nat) => (longM h (.b (a.length - 1 - j)) (a[j]?.getD (.mk [] "a"))).t) hD (fun _ _ => trivial) (by rw [line_eq]; simp; omega) (fun j hj μ1 e1 => ?_) fun μ1 e1 hl1 => ?_
  · have hj2 : j < a.length := List.mem_range.mp hj
    walk_at "wgo"
    rw [List.length_map]
    walk_at "wgo"
    have hx := aok _ (List.getElem_mem hj2)
    rw [List.getElem?_eq_getElem hj2]
    refine call_of h2 ⟨h, _, a[j], rfl, hx.1, hx.2⟩ fun t μ' p => ?_
    rw [p.2 h _ a[j] rfl hx.1]
    exact ⟨p.1, rfl⟩
  · walk_at "wgo"
    refine b_tuple (items_lst hl1) ?_
    have : (ownsM h a).map Tm.t = (List.range a.length).map fun (j : Nat) => (longM h (.b (a.length - 1 - j)) (a[j]?.getD (.mk [] "a"))).t := by unfold ownsM; rw [List.map_map]; rfl
    rw [this] at q
    exact q μ1 e1
theorem call_Lb (h : Φ .long_binder = cLb k) (hk : 4 ≤ k) {m : Int} {kd : Kd} (ok : KOk 1 kd) {μ : Mu} {Q : PQ} (q : ∀ μ', Ext μ μ' → Q (longM 1 (.b m) kd).t μ') : callS Φ .long_binder [.int m, kd.t] μ Q :=
  call_of h ⟨1, m, kd, rfl, ok, by omega⟩ fun t μ' p => by rw [p.2 1 m kd rfl ok]; exact q μ' p.1
/-- binder_of, of a long form of a binder -/
structure BnX where
  own : List Kd
  m : Nat
  kd : Kd
def inBn (x : BnX) : List T := [.tup (x.own.map Kd.t), (longM 1 (.b x.m) x.kd).t]
theorem long_inj {m m' : Nat} {kd kd' : Kd} (e : longM 1 (.b m) kd = longM 1 (.b m') kd') : m = m' := by
  obtain ⟨a, z⟩ := kd
  obtain ⟨a', z'⟩ := kd'
  rw [long1, long1] at e
  injection e with e1 e2 e3
  injection e2 with e2
  omega
theorem numOk_one {own : List Kd} {kd kd' : Kd} {m : Nat} (h : NumOk own kd m) (h' : NumOk own kd' m) : kd = kd' := by
  have := h.2.symm.trans h'.2
  exact Option.some.inj this
def cBn (k : Nat) : TV.Con := mkC inBn (fun x _ => 5 ≤ k ∧ KOk 1 x.kd ∧ NumOk x.own x.kd x.m ∧ x.own.length ≤ 1000) (fun x μ t μ' => Ext μ μ' ∧ t = .int x.m)
theorem inBn_inj {k : Nat} (x y : BnX) (μ : Mu) (e : inBn x = inBn y) (p : 5 ≤ k ∧ KOk 1 x.kd ∧ NumOk x.own x.kd x.m ∧ x.own.length ≤ 1000) (p' : 5 ≤ k ∧ KOk 1 y.kd ∧ NumOk y.own y.kd y.m ∧ y.own.length ≤ 1000) : x = y := by
  obtain ⟨a, b, c⟩ := x
  obtain ⟨a', b', c'⟩ := y
  simp only [inBn, List.cons.injEq, T.tup.injEq, and_true] at e
  obtain ⟨e1, e2⟩ := e
  have ea := kds_inj e1
  have eb := long_inj (Tm.inj e2)
  dsimp only at p p'
  subst ea eb
  rw [numOk_one p.2.2.1 p'.2.2.1]
theorem wg_depth1 {m : Int} {kd : Kd} (ok : KOk 1 kd) : (longM 1 (.b m) kd).t.depth ≤ 150 := by
  obtain ⟨a, z⟩ := kd
  rw [long1' _ ok, tm_t]
  refine depth_tup.mpr fun x hx => ?_
  simp only [List.mem_cons, List.not_mem_nil, or_false] at hx
  rcases hx with rfl | rfl | rfl
  · exact Nat.zero_le _
  · rw [hd_depth]; decide
  · refine depth_tup.mpr fun y hy => ?_
    obtain ⟨z, hz, rfl⟩ := List.mem_map.mp hy
    obtain ⟨j, _, rfl⟩ := List.mem_map.mp hz
    rw [tm_t]
    simp [T.depth, depths, Hd.t]
theorem v_binder_of (h1 : Φ .long_binder = cLb k) (x : BnX) (μ : Mu) (pp : 4 ≤ k ∧ KOk 1 x.kd ∧ NumOk x.own x.kd x.m ∧ x.own.length ≤ 1000) (post : T → Mu → Prop) (q : ∀ μ', Ext μ μ' → post (.int x.m) μ') : wSs Φ b_binder_of (endsOf post) (startT 5 (inBn x)) μ := by
  obtain ⟨own, m, kd⟩ := x
  obtain ⟨hk, ok, ⟨n1, n2⟩, lo⟩ := pp
  dsimp only at *
  have dp := wg_depth1 (m := m) ok
  have pu := tm_pure (longM 1 (.b m) kd)
  generalize hL : longM 1 (.b m) kd = L at dp pu
  obtain ⟨a, z⟩ := kd
  rw [long1] at hL
  subst hL
  refine (show wSs Φ _ _ (startT 5 [.tup (own.map Kd.t), (longM 1 (.b m) (.mk a z)).t]) μ from ?_)
  rw [long1, tm_t]
  refine v_step rfl ?_
  walk_at "wgo"
  refine (show wUn _ (T.tup [.str "b", .int ((m : Int) + (a.length : Nat))]) _ _ _ from ?_)
  walk_at "wgo"
  refine v_step rfl ?_
  walk_at "wgo"
  have em : (m : Int) + (a.length : Nat) - (a.length : Nat) = m := by omega
  rw [em]
  refine v_step rfl ?_
  walk_at "wgo"
  rw [List.length_map]
  refine ite_tt (by simp [n1]) ?_
  walk_at "wgo"
  rw [List.length_map]
  refine x_tup (t := (Kd.mk a z).t) ?_ ?_
  · have : ((own.length : Nat) : Int) - 1 - (m : Int) = ((own.length - 1 - m : Nat) : Int) := by omega
    rw [this]
    refine L2.atI_nat ?_
    rw [List.getElem?_map, n2]
    rfl
  walk_at "wgo"
  refine call_Lb h1 hk ok fun μ1 e1 => ?_
  rw [tm_t] at dp pu
  refine c_eq (eqok_left pu (tm_pure _) dp) ?_
  refine ⟨_, rfl, ?_⟩
  refine ite_tt ?_ ?_
  · rw [long1, ← tm_t]
    exact (peq_tm _ _).mpr rfl
  walk_at "wgo"
  exact q μ1 e1

/-- binders_of, of long forms of different binders -/
structure BsX where
  own : List Kd
  a : List Kd
  ms : List Nat
def inBs (x : BsX) : List T := [.tup (x.own.map Kd.t), .tup ((longs x.a x.ms).map Tm.t)]
structure BsP (k c : Nat) (x : BsX) : Prop where
  hk : c ≤ k
  al : x.a.length ≤ 3
  ok : ∀ y ∈ x.a, KOk 1 y
  nm : All2 (NumOk x.own) x.a x.ms
  nd : x.ms.Nodup
  lo : x.own.length ≤ 1000
theorem longs_inj {own a a' : List Kd} {ms ms' : List Nat} (h : All2 (NumOk own) a ms) (h' : All2 (NumOk own) a' ms') (e : longs a ms = longs a' ms') : a = a' ∧ ms = ms' := by
  induction h generalizing a' ms' with
  | nil =>
    cases h' with
    | nil => exact ⟨rfl, rfl⟩
    | cons _ _ => unfold longs at e; simp at e
  | @cons x y xs ys p _ ih =>
    cases h' with
    | nil => unfold longs at e; simp at e
    | @cons x' y' xs' ys' p' h' =>
      unfold longs at e
      rw [List.zipWith_cons_cons, List.zipWith_cons_cons] at e
      injection e with e1 e2
      obtain ⟨rfl, rfl⟩ := ih h' e2
      obtain rfl := long_inj e1
      rw [numOk_one p p']
      exact ⟨rfl, rfl⟩
theorem inBs_inj {k c : Nat} (x y : BsX) (μ : Mu) (e : inBs x = inBs y) (p : BsP k c x) (p' : BsP k c y) : x = y := by
  obtain ⟨a, b, d⟩ := x
  obtain ⟨a', b', d'⟩ := y
  simp only [inBs, List.cons.injEq, T.tup.injEq, and_true] at e
  obtain ⟨e1, e2⟩ := e
  obtain rfl := kds_inj e1
  obtain ⟨rfl, rfl⟩ := longs_inj p.nm p'.nm (tms_inj e2)
  rfl
def cBs (k : Nat) : TV.Con := mkC inBs (fun x _ => BsP k 6 x) (fun x μ t μ' => Ext μ μ' ∧ ∃ p, t = .ref p ∧ μ p = none ∧ μ' p = some (.lst (x.ms.map natT)))
theorem longs_map {a : List Kd} {ms : List Nat} : (longs a ms).map Tm.t = (a.zip ms).map fun p => (longM 1 (.b p.2) p.1).t := by
  unfold longs
  rw [List.zip, List.map_zipWith, List.map_zipWith]
theorem v_binders_of (h1 : Φ .binder_of = cBn k) (x : BsX) (μ : Mu) (pp : BsP k 5 x) (post : T → Mu → Prop) (q : ∀ p μ', Ext μ μ' → μ p = none → μ' p = some (.lst (x.ms.map natT)) → post (.ref p) μ') : wSs Φ b_binders_of (endsOf post) (startT 5 (inBs x)) μ := by
  obtain ⟨own, a, ms⟩ := x
  obtain ⟨hk, al, ok, nm, nd, lo⟩ := pp
  dsimp only at *
  refine (show wSs Φ _ _ (startT 5 [.tup (own.map Kd.t), .tup ((longs a ms).map Tm.t)]) μ from ?_)
  refine v_step rfl ?_
  walk_at "wgo"
  refine ⟨by rw [line_eq]; simp, fun p hp => ?_⟩
  refine v_step rfl ?_
  walk_at "wgo"
  rw [longs_map]
  refine forT_inv (f := fun p : Kd × Nat => (longM 1 (.b p.2) p.1).t) (wSs_mono _) (fun rest τ μ' => ∃ done v3 v4, a.zip ms = done ++ rest ∧ τ = [some (.tup (own.map Kd.t)), some (.tup ((a.zip ms).map fun p => (longM 1 (.b p.2) p.1).t)), some (.ref p), v3, v4] ∧ Ext μ μ' ∧ μ' p = some (.lst ((done.map (·.2)).map natT))) (fun _ _ _ _ => trivial) ?_ ?_ (a.zip ms) _ _ ⟨[], none, none, rfl, rfl, ExtX.new hp, mset_same⟩
  · rintro τ μ' ⟨done, v3, v4, e0, rfl, e1, hl⟩
    rw [List.append_nil] at e0
    subst e0
    refine v_step rfl ?_
    walk_at "wgo"
    have : (a.zip ms).map (·.2) = ms := by
      rw [List.map_snd_zip]
      rw [nm.length]; exact Nat.le_refl _
    rw [this] at hl
    exact q p μ' e1 hp hl
  · rintro ⟨kd, m⟩ rest τ μ' ⟨done, v3, v4, e0, rfl, e1, hl⟩
    have mem : (kd, m) ∈ a.zip ms := by rw [e0]; simp
    have hkd : kd ∈ a := (List.of_mem_zip mem).1
    have hn : NumOk own kd m := by
      obtain ⟨j, hj⟩ := List.getElem?_of_mem mem
      rw [List.getElem?_zip_eq_some] at hj
      obtain ⟨y, hy, pn⟩ := all2_nth nm hj.1
      rw [hj.2] at hy; cases hy
      exact pn
    have ld : (a.zip ms).length ≤ 3 := by rw [List.length_zip]; omega
    have ld2 : done.length < (a.zip ms).length := by rw [e0]; simp
    have ndz : ((a.zip ms).map (·.2)).Nodup := by
      rw [List.map_snd_zip (by rw [nm.length]; exact Nat.le_refl _)]; exact nd
    have nin : m ∉ done.map (·.2) := by
      rw [e0, List.map_append, List.map_cons, List.nodup_append] at ndz
      exact fun z => ndz.2.2 m z m (by simp) rfl
    walk_at "wgo"
    refine call_mk h1 ⟨own, m, kd⟩ rfl ⟨hk, ok kd hkd, hn, lo⟩ fun t μ2 ⟨e2, et⟩ => ?_
    subst et
    dsimp only
    walk_at "wgo"
    refine .inr (.inl ⟨(done.map (·.2)).map natT, items_lst (Ext.at e2 hl), rfl, flat_nat, ?_⟩)
    refine ⟨_, rfl, ?_⟩
    refine ite_ff ?_ ?_
    · rw [Bool.xor_false]
      cases h : ((done.map (·.2)).map natT).any (fun z => peq z (.int (m : Int))) with
      | false => rfl
      | true =>
        exfalso
        obtain ⟨z, hz, ez⟩ := List.any_eq_true.mp h
        obtain ⟨j, hj, rfl⟩ := List.mem_map.mp hz
        have : (j : Int) = m := by simpa [natT, peq] using ez
        have : j = m := by omega
        subst this
        exact nin hj
    walk_at "wgo"
    refine ⟨⟨_, Ext.at e2 hl⟩, ?_⟩
    walk_at "wgo"
    refine m_append (Ext.at e2 hl) (by rw [line_eq]; simp; omega) ?_
    walk_at "wgo"
    exact ⟨done ++ [(kd, m)], _, _, by rw [e0]; simp, rfl, (e1.trans e2).later hp, by rw [mset_same]; simp [natT]⟩
end K07

namespace K07
open PySem PySem.Spec TV
open L2 (ixN atI Key)
variable {Φ : Fn → TV.Con} {k : Nat}
/-! changed: a term built anew from below; s: what the handed function keeps -/
section
variable {S : Type} (f : Tm → Int → S → Option (Tm × S))
mutual
def chgM : Int → Tm → S → Option (Tm × S)
  | o, .mk n h ps, s => match chgMs (o + n) ps s with
    | none => none
    | some (qs, s') => f (.mk n h qs) (o + n) s'
def chgMs : Int → List Tm → S → Option (List Tm × S)
  | _, [], s => some ([], s)
  | o, x :: xs, s => match chgM o x s with
    | none => none
    | some (t, s1) => match chgMs o xs s1 with
      | none => none
      | some (ts, s2) => some (t :: ts, s2)
end
abbrev Ent3 := Tm × Int × Bool
/-- what a pile (its top first) comes to -/
def finM : List Ent3 → List Tm → S → Option (List Tm × S)
  | [], done, s => some (done, s)
  | (one, o, false) :: r, done, s => match chgM f o one s with
    | none => none
    | some (t, s') => finM r (done ++ [t]) s'
  | (.mk n h ps, o, true) :: r, done, s => if done.length < ps.length then none else
    match f (.mk n h (done.drop (done.length - ps.length))) (o + n) s with
    | none => none
    | some (t, s') => finM r (done.take (done.length - ps.length) ++ [t]) s'
theorem chgMs_len : ∀ (ps : List Tm) (o : Int) (s : S) (qs : List Tm) (s' : S), chgMs f o ps s = some (qs, s') → qs.length = ps.length
  | [], o, s, qs, s', e => by unfold chgMs at e; cases e; rfl
  | x :: xs, o, s, qs, s', e => by
    unfold chgMs at e
    split at e
    · cases e
    · split at e
      · cases e
      · rename_i e2
        cases e
        rw [List.length_cons, List.length_cons, chgMs_len xs _ _ _ _ e2]
theorem finM_parts (i : Int) : ∀ (ps : List Tm) (r : List Ent3) (done : List Tm) (s : S), finM f (ps.map (fun p => (p, i, false)) ++ r) done s = match chgMs f i ps s with
    | none => none
    | some (qs, s') => finM f r (done ++ qs) s'
  | [], r, done, s => by unfold chgMs; simp
  | x :: xs, r, done, s => by
    rw [List.map_cons, List.cons_append, finM, chgMs]
    cases e : chgM f i x s with
    | none => rfl
    | some p =>
      obtain ⟨t, s1⟩ := p
      simp only
      rw [finM_parts i xs r (done ++ [t]) s1]
      cases e2 : chgMs f i xs s1 with
      | none => rfl
      | some p2 =>
        obtain ⟨ts, s2⟩ := p2
        simp
theorem finM_open (n : Int) (h : Hd) (ps : List Tm) (o : Int) (r : List Ent3) (done : List Tm) (s : S) : finM f ((.mk n h ps, o, false) :: r) done s = finM f (ps.map (fun p => (p, o + n, false)) ++ (.mk n h ps, o, true) :: r) done s := by
  rw [finM_parts, finM, chgM]
  cases e : chgMs f (o + n) ps s with
  | none => rfl
  | some p =>
    obtain ⟨qs, s'⟩ := p
    have l := chgMs_len f ps _ _ _ _ e
    simp only [finM]
    have e1 : (done ++ qs).length - ps.length = done.length := by rw [List.length_append]; omega
    rw [if_neg (by rw [List.length_append]; omega), e1, List.drop_left, List.take_left]
end
def e3T (e : Ent3) : T := .tup [e.1.t, .int e.2.1, .bl e.2.2]
def wt3 (e : Ent3) : Nat := if e.2.2 then 1 else 2 * tsz e.1
def wts (L : List Ent3) : Nat := (L.map wt3).sum
theorem wt3_pos (e : Ent3) : 0 < wt3 e := by
  unfold wt3
  have := tsz_pos e.1
  split <;> omega
theorem wts_len : ∀ L : List Ent3, L.length ≤ wts L
  | [] => by simp [wts]
  | e :: L => by
    have h1 := wts_len L
    have h2 := wt3_pos e
    have : wts (e :: L) = wt3 e + wts L := by simp [wts]
    rw [List.length_cons, this]; omega
theorem wts_app (A B : List Ent3) : wts (A ++ B) = wts A + wts B := by unfold wts; simp
theorem wts_new (ps : List Tm) (i : Int) : wts (ps.map fun p => ((p, i, false) : Ent3)) = 2 * (ps.map tsz).sum := by
  induction ps with
  | nil => rfl
  | cons p ps ih =>
    have e : wts ((p :: ps).map fun p => ((p, i, false) : Ent3)) = 2 * tsz p + wts (ps.map fun p => ((p, i, false) : Ent3)) := by simp [wts, wt3]
    rw [e, ih]; simp; omega
theorem v_changed {S : Type} {f : Tm → Int → S → Option (Tm × S)} {us : List T} {G : NdefX.NF} {J : S → Mu → Prop} {A : Addr → Prop} {fa : Addr} {μ : Mu} {s0 s1 : S} {tm t1 : Tm} {post : T → Mu → Prop}
    (hstep : ∀ (nd : Tm) (i : Int) (s s' : S) (t : Tm) (μ1 : Mu) (Q : PQ), J s μ1 → f nd i s = some (t, s') → (∀ μ', J s' μ' → ExtX A μ1 μ' → Q t.t μ') → callS Φ .closed_over_change ([nd.t, .int i] ++ us) μ1 Q)
    (jN : ∀ s μ1 p o, μ p = none → J s μ1 → J s (mset μ1 p o)) (jE : ∀ s μ1 μ2, Ext μ1 μ2 → J s μ1 → J s μ2) (hA : ∀ b, A b → μ b ≠ none) (nfa : ¬ A fa) (hfa : μ fa = some (.fn G)) (j0 : J s0 μ)
    (sz : tsz tm ≤ 1000000) (e : chgM f 0 tm s0 = some (t1, s1)) (q : ∀ μ', J s1 μ' → ExtX A μ μ' → post t1.t μ') : wSs Φ (b_changed__closed_over G us) (endsOf post) (startT 11 [tm.t, .ref fa]) μ := by
  refine v_step rfl ?_
  walk_at "wgo"
  refine ⟨by rw [line_eq]; simp, fun pd hpd => ?_⟩
  refine v_step rfl ?_
  walk_at "wgo"
  refine ⟨by rw [line_eq]; simp, ?_⟩
  walk_at "wgo"
  refine ⟨by rw [line_eq]; simp, fun pl hpl => ?_⟩
  have npl : pd ≠ pl := ne_of_new hpl mset_same
  have hpl0 : μ pl = none := by rw [mset_ne npl.symm] at hpl; exact hpl
  refine v_step rfl ?_
  have nA : ∀ {p : Addr}, μ p = none → ¬ A p := fun h a => hA _ a h
  refine v_whl (whl_inv (wT_mono _) (wSs_mono _) (fun n τ μ' => ∃ (L : List Ent3) (done : List Tm) (s : S) (v4 v5 v6 v7 v8 v9 v10 : Option T), n = wts L ∧ done.length + wts L ≤ 2000000 ∧ finM f L.reverse done s = some ([t1], s1) ∧
    τ = [some tm.t, some (.ref fa), some (.ref pd), some (.ref pl), v4, v5, v6, v7, v8, v9, v10] ∧ ExtX A μ μ' ∧ J s μ' ∧ μ' pd = some (.lst (done.map Tm.t)) ∧ μ' pl = some (.lst (L.map e3T))) ?_ (n := wts [(tm, 0, false)])
    ⟨[(tm, 0, false)], [], s0, none, none, none, none, none, none, none, rfl, by simp [wts, wt3]; omega, by simp [finM, e], rfl, (ExtX.new hpd).later hpl0, jN _ _ _ _ hpl0 (jN _ _ _ _ hpd j0), by rw [mset_ne npl]; exact mset_same, mset_same⟩)
  rintro n τ μ2 ⟨L, done, s, v4, v5, v6, v7, v8, v9, v10, rfl, wL, fin, rfl, ex, j, hd, hl⟩
  walk_at "wgo"
  refine ⟨_, tru_lst hl, ?_⟩
  rcases List.eq_nil_or_concat L with rfl | ⟨L', ent, rfl⟩
  · refine ite_ff rfl ?_
    simp only [List.reverse_nil, finM, Option.some.injEq, Prod.mk.injEq] at fin
    obtain ⟨rfl, rfl⟩ := fin
    refine v_step rfl ?_
    walk_at "wgo"
    refine x_lst hd rfl ?_
    exact q μ2 j ex
  · rw [List.concat_eq_append] at wL fin hl ⊢
    obtain ⟨one, o, rdy⟩ := ent
    obtain ⟨n1, h1, ps⟩ := one
    rw [List.reverse_append, List.reverse_singleton, List.singleton_append] at fin
    refine ite_tt (by simp) ?_
    walk_at "wgo"
    refine ⟨⟨_, hl⟩, ?_⟩
    walk_at "wgo"
    refine m_pop (l := L'.map e3T) (x := e3T (.mk n1 h1 ps, o, rdy)) (by rw [hl, List.map_append]; rfl) ?_
    refine (show wUn _ (T.tup [(Tm.mk n1 h1 ps).t, .int o, .bl rdy]) _ _ _ from ?_)
    rw [tm_t]
    have w0 : wts (L' ++ [(Tm.mk n1 h1 ps, o, rdy)]) = wts L' + wt3 (.mk n1 h1 ps, o, rdy) := by rw [wts_app]; simp [wts]
    have hd2 : (mset μ2 pl (.lst (L'.map e3T))) pd = some (.lst (done.map Tm.t)) := by rw [mset_ne npl]; exact hd
    have hl2 : (mset μ2 pl (.lst (L'.map e3T))) pl = some (.lst (L'.map e3T)) := mset_same
    have j2 : J s (mset μ2 pl (.lst (L'.map e3T))) := jN _ _ _ _ hpl0 j
    have ex2 : ExtX A μ (mset μ2 pl (.lst (L'.map e3T))) := ex.later hpl0
    generalize mset μ2 pl (.lst (L'.map e3T)) = μ3 at hd2 hl2 j2 ex2 ⊢
    clear hd hl j ex
    have hf3 : μ3 fa = some (.fn G) := ex2.at nfa hfa
    cases rdy with
    | false =>
      have w1 : wt3 (.mk n1 h1 ps, o, false) = 2 + 2 * (ps.map tsz).sum := by simp [wt3, tsz_mk]; omega
      walk_at "wgo"
      refine ⟨⟨_, hl2⟩, ?_⟩
      walk_at "wgo"
      refine ⟨by rw [line_eq]; simp, ?_⟩
      walk_at "wgo"
      have lL := wts_len L'
      refine m_append hl2 (by rw [line_eq, List.length_map]; omega) ?_
      walk_at "wgo"
      have hl4 : (mset μ3 pl (.lst (L'.map e3T ++ [.tup [.tup [.int n1, h1.t, .tup (ps.map Tm.t)], .int o, .bl true]]))) pl = some (.lst ((L' ++ [(Tm.mk n1 h1 ps, o, true)]).map e3T)) := by
        rw [mset_same, List.map_append, List.map_singleton, e3T, tm_t]
      have hd4 : (mset μ3 pl (.lst (L'.map e3T ++ [.tup [.tup [.int n1, h1.t, .tup (ps.map Tm.t)], .int o, .bl true]]))) pd = some (.lst (done.map Tm.t)) := by rw [mset_ne npl]; exact hd2
      have j4 := jN _ _ _ (.lst (L'.map e3T ++ [.tup [.tup [.int n1, h1.t, .tup (ps.map Tm.t)], .int o, .bl true]])) hpl0 j2
      have ex4 : ExtX A μ _ := ex2.later (o := .lst (L'.map e3T ++ [.tup [.tup [.int n1, h1.t, .tup (ps.map Tm.t)], .int o, .bl true]])) hpl0
      generalize mset μ3 pl (.lst (L'.map e3T ++ [.tup [.tup [.int n1, h1.t, .tup (ps.map Tm.t)], .int o, .bl true]])) = μ4 at hl4 hd4 j4 ex4 ⊢
      refine ⟨⟨_, hl4⟩, ?_⟩
      walk_at "wgo"
      show ∀ D, _
      rw [← List.map_reverse]
      intro D hD
      have lps : ps.length ≤ (ps.map tsz).sum := by
        clear w1 w0 fin hl4 hd4 j4 ex4 wL hD
        induction ps with
        | nil => simp
        | cons x xs ih => have := tsz_pos x; simp; omega
      refine lcT_pure (f := Tm.t) (l := ps.reverse) (wE_mono _) (fun x => e3T (x, o + n1, false)) hD (fun _ _ => trivial) (by rw [line_eq, List.length_reverse]; omega) (fun x hx μ5 e5 => ?_) fun μ5 e5 hl5 => ?_
      · walk_at "wgo"
        refine ⟨by rw [line_eq]; simp, ?_⟩
        exact ⟨ExtX.refl, rfl⟩
      · walk_at "wgo"
        refine m_extend (Ext.at e5 hl4) (items_lst hl5) (by rw [line_eq]; simp; omega) ?_
        walk_at "wgo"
        have w2 : wts ((L' ++ [(Tm.mk n1 h1 ps, o, true)]) ++ ps.reverse.map fun x => (x, o + n1, false)) = wts L' + 1 + 2 * (ps.map tsz).sum := by
          rw [wts_app, wts_app, wts_new, List.map_reverse, List.sum_reverse]
          simp [wts, wt3]
        refine ⟨_, by rw [w0, w1]; omega, (L' ++ [(Tm.mk n1 h1 ps, o, true)]) ++ ps.reverse.map (fun x => (x, o + n1, false)), done, s, _, _, _, _, _, _, _, w2.symm, by rw [w0, w1] at wL; omega, ?_, rfl, ?_, ?_, ?_, ?_⟩
        · rw [← fin, finM_open]
          simp
        · exact (ex4.trans (Ext.any e5)).later hpl0
        · exact jN _ _ _ _ hpl0 (jE _ _ _ e5 j4)
        · rw [mset_ne npl]; exact Ext.at e5 hd4
        · rw [mset_same, List.map_append (l₁ := L' ++ _), List.map_map]; rfl
    | true =>
      have w1 : wt3 (.mk n1 h1 ps, o, true) = 1 := rfl
      simp only [finM] at fin
      split at fin
      · cases fin
      rename_i ge
      have ge : ps.length ≤ done.length := by omega
      split at fin
      · cases fin
      rename_i t s' ef
      walk_at "wgo"
      refine b_len (len_lst hd2) ?_
      walk_at "wgo"
      rw [List.length_map, List.length_map]
      have ea : ((done.length : Nat) : Int) - (ps.length : Nat) = ((done.length - ps.length : Nat) : Int) := by omega
      rw [ea]
      generalize hat : done.length - ps.length = at0 at fin ef ⊢
      refine ⟨_, hd2, fun p5 hp5 => ?_⟩
      walk_at "wgo"
      refine b_tuple (l := (done.drop at0).map Tm.t) ?_ ?_
      · rw [items_lst mset_same, cutL_map]
        have : cutL done (some (at0 : Int)) none = done.drop at0 := by
          unfold cutL
          have s1 : HT.sIx done.length 0 (some (at0 : Int)) = at0 := by unfold HT.sIx; simp only []; rw [if_neg (by omega)]; omega
          have s2 : HT.sIx done.length done.length none = done.length := rfl
          rw [s1, s2]
          exact List.take_of_length_le (by simp)
        rw [this]
      have np5 : pd ≠ p5 := ne_of_new hp5 hd2
      have np6 : pl ≠ p5 := ne_of_new hp5 hl2
      have hd6 := (mset_ne (o := .lst (cutL (done.map Tm.t) (some (at0 : Int)) none)) np5).trans hd2
      have hl6 := (mset_ne (o := .lst (cutL (done.map Tm.t) (some (at0 : Int)) none)) np6).trans hl2
      have j6 := jE _ _ _ (ExtX.new (o := .lst (cutL (done.map Tm.t) (some (at0 : Int)) none)) hp5) j2
      have ex6 := ex2.trans (Ext.any (ExtX.new (o := .lst (cutL (done.map Tm.t) (some (at0 : Int)) none)) hp5))
      generalize mset μ3 p5 (.lst (cutL (done.map Tm.t) (some (at0 : Int)) none)) = μ6 at hd6 hl6 j6 ex6 ⊢
      walk_at "wgo"
      refine ⟨pd, done.map Tm.t, at0, rfl, hd6, rfl, by omega, by rw [List.length_map]; omega, ?_⟩
      have hd7 : (mset μ6 pd (.lst ((done.map Tm.t).take (at0 : Int).toNat))) pd = some (.lst ((done.take at0).map Tm.t)) := by rw [mset_same, Int.toNat_natCast, List.map_take]
      have hl7 : (mset μ6 pd (.lst ((done.map Tm.t).take (at0 : Int).toNat))) pl = some (.lst (L'.map e3T)) := by rw [mset_ne npl.symm]; exact hl6
      have j7 := jN _ _ _ (.lst ((done.map Tm.t).take (at0 : Int).toNat)) hpd j6
      have ex7 : ExtX A μ _ := ex6.later (o := .lst ((done.map Tm.t).take (at0 : Int).toNat)) hpd
      generalize mset μ6 pd (.lst ((done.map Tm.t).take (at0 : Int).toNat)) = μ7 at hd7 hl7 j7 ex7 ⊢
      walk_at "wgo"
      refine ⟨⟨_, hd7⟩, ?_⟩
      walk_at "wgo"
      refine w_callK rfl (ex7.at nfa hfa) ?_
      walk_at "wgo"
      refine ⟨by rw [line_eq]; simp, ?_⟩
      walk_at "wgo"
      refine ⟨ex7.at nfa hfa, ?_⟩
      refine (show callS Φ .closed_over_change ([.tup [.int n1, h1.t, .tup ((done.drop at0).map Tm.t)], .int (o + n1)] ++ us) μ7 _ from ?_)
      rw [← tm_t]
      refine hstep _ _ _ _ _ _ _ j7 ef fun μ8 j8 e8 => ?_
      have hd8 := e8.at (nA hpd) hd7
      have hl8 := e8.at (nA hpl0) hl7
      walk_at "wgo"
      refine m_append hd8 (by rw [line_eq, List.length_map, List.length_take]; omega) ?_
      walk_at "wgo"
      refine ⟨_, by rw [w0, w1]; omega, L', done.take at0 ++ [t], s', _, _, _, _, _, _, _, rfl, ?_, fin, rfl, ?_, ?_, ?_, ?_⟩
      · rw [w0, w1] at wL; rw [List.length_append, List.length_take]; simp; omega
      · exact (ex7.trans e8).later hpd
      · exact jN _ _ _ _ hpd j8
      · rw [mset_same, List.map_append]; rfl
      · rw [mset_ne npl.symm]; exact hl8
end K07

namespace K07
open PySem PySem.Spec TV
open L2 (ixN atI Key)
variable {Φ : Fn → TV.Con} {k : Nat}
/-! closed_over -/
def posN : List Nat → Int → Option Nat
  | [], _ => none
  | m :: ms, j => if (m : Int) = j then some 0 else (posN ms j).map (· + 1)
theorem posN_mem : ∀ {ms : List Nat} {j : Int} {p : Nat}, posN ms j = some p → ∃ m, ms[p]? = some m ∧ (m : Int) = j ∧ ∀ q < p, ∀ m', ms[q]? = some m' → (m' : Int) ≠ j
  | [], _, _, e => by cases e
  | m :: ms, j, p, e => by
    unfold posN at e
    split at e
    · rename_i h
      cases e
      exact ⟨m, rfl, h, fun q hq => by omega⟩
    · rename_i h
      cases e2 : posN ms j with
      | none => rw [e2] at e; cases e
      | some p' =>
        rw [e2] at e
        cases e
        obtain ⟨m', a, b, c⟩ := posN_mem e2
        refine ⟨m', by simpa using a, b, fun q hq m2 h2 => ?_⟩
        have hq : q < p' + 1 := hq
        cases q with
        | zero => simp at h2; subst h2; exact h
        | succ q => exact c q (by omega) m2 (by simpa using h2)
theorem posN_none : ∀ {ms : List Nat} {j : Int}, posN ms j = none → ∀ m ∈ ms, (m : Int) ≠ j
  | [], _, _, _, h => by cases h
  | m :: ms, j, e, m', h => by
    unfold posN at e
    split at e
    · cases e
    · rename_i hne
      cases e2 : posN ms j with
      | some p' => rw [e2] at e; cases e
      | none =>
        rcases List.mem_cons.mp h with rfl | h
        · exact hne
        · exact posN_none e2 m' h
theorem posN_at : ∀ {ms : List Nat} {p : Nat} {m : Nat}, ms.Nodup → ms[p]? = some m → posN ms m = some p
  | [], _, _, _, e => by cases e
  | x :: ms, 0, m, _, e => by simp at e; subst e; unfold posN; simp
  | x :: ms, p + 1, m, nd, e => by
    rw [List.nodup_cons] at nd
    have e' : ms[p]? = some m := by simpa using e
    unfold posN
    rw [if_neg (fun z => nd.1 (by have : x = m := by omega
                                  rw [this]; exact List.mem_of_getElem? e')), posN_at nd.2 e']
    rfl
theorem posN_cons (m : Nat) (ms : List Nat) (j : Int) : posN (m :: ms) j = if (m : Int) = j then some 0 else (posN ms j).map (· + 1) := rfl
def placeI (ms : List Nat) (j : Int) : Option Int := (posN ms j).map fun p => (ms.length : Int) - 1 - p
def clH (ms : List Nat) (d : Int) : Hd → Hd
  | .b i => if d ≤ i then .b ((placeI ms (i - d)).getD 0 + d) else .b i
  | x => x
def okH (ms : List Nat) (d : Int) : Hd → Bool
  | .b i => if d ≤ i then (posN ms (i - d)).isSome else true
  | _ => true
def hdI : Hd → Int
  | .b i => i
  | _ => 0
mutual
def clM (ms : List Nat) : Int → Tm → Tm
  | d, .mk n h ps => .mk n (clH ms (d + n) h) (clMs ms (d + n) ps)
def clMs (ms : List Nat) : Int → List Tm → List Tm
  | _, [] => []
  | d, x :: xs => clM ms d x :: clMs ms d xs
end
mutual
def okM (ms : List Nat) : Int → Tm → Bool
  | d, .mk n h ps => okH ms (d + n) h && okMs ms (d + n) ps
def okMs (ms : List Nat) : Int → List Tm → Bool
  | _, [] => true
  | d, x :: xs => okM ms d x && okMs ms d xs
end
theorem clMs_map (ms : List Nat) (d : Int) : ∀ l : List Tm, clMs ms d l = l.map (clM ms d)
  | [] => by unfold clMs; rfl
  | x :: xs => by unfold clMs; rw [clMs_map ms d xs]; rfl
theorem okMs_all (ms : List Nat) (d : Int) : ∀ l : List Tm, okMs ms d l = l.all (okM ms d)
  | [] => by unfold okMs; rfl
  | x :: xs => by unfold okMs; rw [okMs_all ms d xs]; rfl
def fCl (ms : List Nat) : Tm → Int → List T → Option (Tm × List T)
  | .mk n h ps, i, l => if l.length < 8000000 then some (.mk n (clH ms i h) ps, if okH ms i h = true then l else l ++ [T.int (hdI h - i)]) else none
mutual
theorem fCl_tm (ms : List Nat) : ∀ (tm : Tm) (o : Int) (l : List T), l.length + tsz tm ≤ 8000000 → ∃ l', chgM (fCl ms) o tm l = some (clM ms o tm, l') ∧ l'.isEmpty = (l.isEmpty && okM ms o tm) ∧ l'.length ≤ l.length + tsz tm
  | .mk n h ps, o, l, hl => by
    rw [tsz_mk] at hl ⊢
    obtain ⟨l1, e1, e2, e3⟩ := fCl_tms ms ps (o + n) l (by rw [tszs_sum]; omega)
    rw [tszs_sum] at e3
    unfold chgM clM okM
    rw [e1]
    simp only [fCl]
    rw [if_pos (by omega)]
    refine ⟨_, rfl, ?_, ?_⟩
    · split
      · rename_i h'
        rw [h', e2]; simp
      · rename_i h'
        have : okH ms (o + n) h = false := by simpa using h'
        rw [this]; simp
    · split
      · omega
      · rw [List.length_append]; simp; omega
theorem fCl_tms (ms : List Nat) : ∀ (ps : List Tm) (o : Int) (l : List T), l.length + tszs ps ≤ 8000000 → ∃ l', chgMs (fCl ms) o ps l = some (clMs ms o ps, l') ∧ l'.isEmpty = (l.isEmpty && okMs ms o ps) ∧ l'.length ≤ l.length + tszs ps
  | [], o, l, hl => ⟨l, rfl, by unfold okMs; simp, by omega⟩
  | x :: xs, o, l, hl => by
    unfold tszs at hl
    obtain ⟨l1, e1, e2, e3⟩ := fCl_tm ms x o l (by omega)
    obtain ⟨l2, f1, f2, f3⟩ := fCl_tms ms xs o l1 (by omega)
    unfold chgMs clMs okMs tszs
    rw [e1]
    simp only [f1]
    exact ⟨l2, rfl, by rw [f2, e2, Bool.and_assoc], by omega⟩
end
/-- what the places dict tells -/
def Plc (ms : List Nat) (kvs : List (Key × T)) : Prop := ∀ j : Int, lookT kvs (.inl j) = (placeI ms j).map T.int
/-- change, within closed_over -/
structure CgX where
  n : Int
  h : Hd
  ps : List Tm
  i : Int
  pl : Addr
  st : Addr
  ms : List Nat
  kvs : List (Key × T)
  l : List T
def inCg (x : CgX) : List T := [(Tm.mk x.n x.h x.ps).t, .int x.i, .ref x.pl, .ref x.st]
structure CgP (k c : Nat) (x : CgX) (μ : Mu) : Prop where
  hk : c ≤ k
  e1 : μ x.pl = some (.dic x.kvs)
  pc : Plc x.ms x.kvs
  e2 : μ x.st = some (.lst x.l)
  ll : x.l.length < 8000000
def cCg (k : Nat) : TV.Con := ⟨fun ts μ => ∃ x, ts = inCg x ∧ CgP k 1 x μ, fun ts μ t μ' => ∀ x, ts = inCg x → CgP k 1 x μ → t = (Tm.mk x.n (clH x.ms x.i x.h) x.ps).t ∧ ExtX (fun b => b = x.st) μ μ' ∧ μ' x.st = some (.lst (if okH x.ms x.i x.h = true then x.l else x.l ++ [T.int (hdI x.h - x.i)]))⟩
theorem v_change (x : CgX) (μ : Mu) (pp : CgP k 0 x μ) (post : T → Mu → Prop) (q : ∀ μ', ExtX (fun b => b = x.st) μ μ' → μ' x.st = some (.lst (if okH x.ms x.i x.h = true then x.l else x.l ++ [T.int (hdI x.h - x.i)])) → post (Tm.mk x.n (clH x.ms x.i x.h) x.ps).t μ') : wSs Φ b_closed_over_change (endsOf post) (startT 8 (inCg x)) μ := by
  obtain ⟨n, h, ps, i, pl, st, ms, kvs, l⟩ := x
  obtain ⟨_, e1, pc, e2, ll⟩ := pp
  dsimp only at *
  refine (show wSs Φ _ _ (startT 8 [(Tm.mk n h ps).t, .int i, .ref pl, .ref st]) μ from ?_)
  rw [tm_t]
  refine v_step rfl ?_
  walk_at "wgo"
  refine v_step rfl ?_
  walk_at "wgo"
  have fin : ∀ (τ : TV.Env) (h' : Hd) (μ' : Mu), τ[4]? = some (some (.int n)) → τ[5]? = some (some h'.t) → τ[6]? = some (some (.tup (ps.map Tm.t))) → h' = clH ms i h → ExtX (fun b => b = st) μ μ' → μ' st = some (.lst (if okH ms i h = true then l else l ++ [T.int (hdI h - i)])) → wSs Φ (Ss.drop 1 (Ss.drop 1 b_closed_over_change)) (endsOf post) τ μ' := by
    intro τ h' μ' t4 t5 t6 eh ex es
    refine v_step rfl ?_
    walk_at "w1"
    walk_at "w1"
    walk_at "w1"
    refine w_var t4 ?_
    walk_at "w1"
    refine w_var t5 ?_
    walk_at "w1"
    refine w_var t6 ?_
    walk_at "wgo"
    refine ⟨by rw [line_eq]; simp, ?_⟩
    have := q μ' ex es
    rw [tm_t, ← eh] at this
    exact this
  cases h with
  | c x =>
    refine x_tup (l := [.str "c", .str x]) rfl ?_
    walk_at "wgo"
    exact fin _ (.c x) μ rfl rfl rfl rfl ExtX.refl e2
  | h x =>
    refine x_tup (l := [.str "h", .int x]) rfl ?_
    walk_at "wgo"
    exact fin _ (.h x) μ rfl rfl rfl rfl ExtX.refl e2
  | b j =>
    refine x_tup (l := [.str "b", .int j]) rfl ?_
    walk_at "wgo"
    refine x_tup (l := [.str "b", .int j]) rfl ?_
    walk_at "wgo"
    refine ite_b (fun z => ?_) fun z => ?_
    · have z1 : i ≤ j := of_decide_eq_true z
      walk_at "wgo"
      refine x_tup (l := [.str "b", .int j]) rfl ?_
      walk_at "wgo"
      have hget : (lookT kvs (.inl (j - i))).getD (.int 0) = .int ((placeI ms (j - i)).getD 0) := by
        rw [pc (j - i)]
        cases placeI ms (j - i) <;> rfl
      have tail : ∀ (μ' : Mu), ExtX (fun b => b = st) μ μ' → μ' st = some (.lst (if okH ms i (.b j) = true then l else l ++ [T.int (hdI (.b j) - i)])) → μ' pl = some (.dic kvs) → ∀ (τ : TV.Env), τ = [some (.tup [.int n, (Hd.b j).t, .tup (ps.map Tm.t)]), some (.int i), some (.ref pl), some (.ref st), some (.int n), some (Hd.b j).t, some (.tup (ps.map Tm.t)), some (.int (j - i))] →
          wSs Φ (.cons (.set 5 (.tup (.cons (.str "b") (.cons (.bin .Add (.me .get2 (.var 2) (.cons (.var 7) (.cons (.int 0) .nil))) (.var 1)) .nil)))) .nil) { endsOf post with nx := wSs Φ (Ss.drop 1 (Ss.drop 1 b_closed_over_change)) (endsOf post) } τ μ' := by
        rintro μ' ex es ep τ rfl
        walk_at "wgo"
        refine ⟨⟨_, ep⟩, ?_⟩
        walk_at "wgo"
        refine m_get2 ep rfl ?_
        rw [hget]
        walk_at "wgo"
        refine ⟨by rw [line_eq]; simp, ?_⟩
        walk_at "wgo"
        refine fin _ (.b ((placeI ms (j - i)).getD 0 + i)) μ' rfl rfl rfl ?_ ex es
        simp only [clH]
        rw [if_pos z1]
      have ok : okH ms i (.b j) = (posN ms (j - i)).isSome := by simp only [okH]; rw [if_pos z1]
      refine c_notin (in_dicI e1 ?_)
      refine ⟨_, rfl, ?_⟩
      have es : kvs.any (fun p => decide (p.1 = Sum.inl (j - i))) = okH ms i (.b j) := by
        rw [lookT_any, pc, ok]
        unfold placeI
        cases posN ms (j - i) <;> rfl
      rw [es]
      cases hok : okH ms i (.b j) with
      | true =>
        refine ite_ff rfl ?_
        walk_at "w1"
        exact tail μ ExtX.refl (by rw [if_pos hok]; exact e2) e1 _ rfl
      | false =>
        refine ite_tt rfl ?_
        walk_at "wgo"
        refine ⟨⟨_, e2⟩, ?_⟩
        walk_at "wgo"
        refine m_append e2 (by rw [line_eq]; omega) ?_
        walk_at "w1"
        refine tail _ (ExtX.own rfl) (by rw [mset_same, if_neg (by rw [hok]; exact Bool.false_ne_true)]; rfl) ?_ _ rfl
        have : pl ≠ st := fun z => by subst z; rw [e1] at e2; cases e2
        rw [mset_ne this]; exact e1
    · have z1 : ¬ i ≤ j := of_decide_eq_false z
      walk_at "wgo"
      refine fin _ (.b j) μ rfl rfl rfl ?_ ExtX.refl ?_
      · simp only [clH]; rw [if_neg z1]
      · rw [if_pos]
        · exact e2
        · simp only [okH]; rw [if_neg z1]

theorem foldl_places (M : Nat) : ∀ (ms : List Nat) (o : Nat) (acc : List (Key × T)) (j : Int), ms.Nodup → lookT (((ms.zipIdx o).map fun p => T.tup [.int (p.2 : Nat), natT p.1]).foldl (fun d x => putT d (match x with | .tup [_, .int i] => Sum.inl i | _ => Sum.inl 0) (match x with | .tup [.int q, _] => .int (M - 1 - q) | _ => .non)) acc) (.inl j) = match posN ms j with
    | some p => some (.int (M - 1 - ((o + p : Nat) : Int)))
    | none => lookT acc (.inl j)
  | [], o, acc, j, _ => rfl
  | m :: ms, o, acc, j, nd => by
    rw [List.nodup_cons] at nd
    rw [List.zipIdx_cons, List.map_cons, List.foldl_cons, foldl_places M ms (o + 1) _ j nd.2, posN_cons]
    by_cases h : (m : Int) = j
    · rw [if_pos h]
      have : posN ms j = none := by
        cases e : posN ms j with
        | none => rfl
        | some p =>
          obtain ⟨m', e1, e2, _⟩ := posN_mem e
          have : m' = m := by omega
          subst this
          exact absurd (List.mem_of_getElem? e1) nd.1
      rw [this]
      simp only
      rw [lookT_put]
      have e1 : (Sum.inl (m : Int) : Key) = .inl j := by rw [h]
      show (if (Sum.inl (m : Int) : Key) = .inl j then _ else _) = _
      rw [if_pos e1]
      rfl
    · rw [if_neg h]
      cases e : posN ms j with
      | some p =>
        simp only [Option.map_some]
        congr 2
        omega
      | none =>
        simp only [Option.map_none]
        rw [lookT_put]
        show (if (Sum.inl (m : Int) : Key) = .inl j then _ else _) = _
        rw [if_neg (fun z => h (Sum.inl.inj z))]
/-- closed_over: the term for the binders, None if it has others around it -/
def closM (ms : List Nat) : Tm → Option Tm
  | .mk _ h ps => if okM ms 0 (.mk 0 h ps) = true then some (.mk ms.length (clH ms 0 h) (clMs ms 0 ps)) else none
def optT : Option Tm → T
  | none => .non
  | some t => t.t
structure CoX where
  p : Addr
  ms : List Nat
  tm : Tm
def inCo (x : CoX) : List T := [.ref x.p, x.tm.t]
structure CoP (k c : Nat) (x : CoX) (μ : Mu) : Prop where
  hk : c ≤ k
  e : μ x.p = some (.lst (x.ms.map natT))
  nd : x.ms.Nodup
  lm : x.ms.length ≤ 800
  sz : tsz x.tm ≤ 1000000
theorem natT_inj {a b : List Nat} (h : a.map natT = b.map natT) : a = b := map_inj' (fun x y e => by unfold natT at e; injection e with e; omega) h
theorem inCo_inj {k c : Nat} (x y : CoX) (μ : Mu) (e : inCo x = inCo y) (p : CoP k c x μ) (p' : CoP k c y μ) : x = y := by
  obtain ⟨a, b, d⟩ := x
  obtain ⟨a', b', d'⟩ := y
  simp only [inCo, List.cons.injEq, T.ref.injEq, and_true] at e
  obtain ⟨rfl, e2⟩ := e
  have := p.e.symm.trans p'.e
  simp only [Option.some.injEq, MO.lst.injEq] at this
  rw [natT_inj this, Tm.inj e2]
def cCo2 (k : Nat) : TV.Con := mkC inCo (CoP k 3) (fun x μ t μ' => Ext μ μ' ∧ t = optT (closM x.ms x.tm))
/-- changed, of closed_over's change -/
structure ChzX where
  tm : Tm
  fa : Addr
  pl : Addr
  st : Addr
  ms : List Nat
  kvs : List (Key × T)
  l : List T
def inChz (x : ChzX) : List T := [x.tm.t, .ref x.fa, .ref x.pl, .ref x.st]
structure ChzP (k c : Nat) (x : ChzX) (μ : Mu) : Prop where
  hk : c ≤ k
  e1 : μ x.pl = some (.dic x.kvs)
  pc : Plc x.ms x.kvs
  e2 : μ x.st = some (.lst x.l)
  ll : x.l.length ≤ 7000000
  sz : tsz x.tm ≤ 1000000
def cChz (k : Nat) : TV.Con := ⟨fun ts μ => ∃ x, ts = inChz x ∧ ChzP k 2 x μ, fun ts μ t μ' => ∀ x, ts = inChz x → ChzP k 2 x μ → t = (clM x.ms 0 x.tm).t ∧ ExtX (fun b => b = x.st) μ μ' ∧ ∃ l', μ' x.st = some (.lst l') ∧ l'.isEmpty = (x.l.isEmpty && okM x.ms 0 x.tm)⟩
theorem v_changed_co (h1 : Φ .closed_over_change = cCg k) (x : ChzX) (G : NdefX.NF) (μ : Mu) (pp : ChzP k 1 x μ) (hfa : μ x.fa = some (.fn G)) (post : T → Mu → Prop) (q : ∀ μ' l', ExtX (fun b => b = x.st) μ μ' → μ' x.st = some (.lst l') → l'.isEmpty = (x.l.isEmpty && okM x.ms 0 x.tm) → post (clM x.ms 0 x.tm).t μ') :
    wSs Φ (b_changed__closed_over G [.ref x.pl, .ref x.st]) (endsOf post) (startT 11 [x.tm.t, .ref x.fa]) μ := by
  obtain ⟨tm, fa, pl, st, ms, kvs, l⟩ := x
  obtain ⟨hk, e1, pc, e2, ll, sz⟩ := pp
  dsimp only at *
  have ne : pl ≠ st := fun z => by subst z; rw [e1] at e2; cases e2
  obtain ⟨l', f1, f2, f3⟩ := fCl_tm ms tm 0 l (by omega)
  refine v_changed (S := List T) (f := fCl ms) (J := fun l μ' => μ' pl = some (.dic kvs) ∧ μ' st = some (.lst l)) (A := fun b => b = st) (s0 := l) (s1 := l') ?_ ?_ ?_ ?_ ?_ hfa ⟨e1, e2⟩ sz f1 ?_
  · rintro ⟨n, h, ps⟩ i s s' t μ1 Q ⟨j1, j2⟩ ef qq
    simp only [fCl] at ef
    split at ef
    · rename_i hlt
      cases ef
      refine call_of h1 ⟨⟨n, h, ps, i, pl, st, ms, kvs, s⟩, rfl, ⟨hk, j1, pc, j2, hlt⟩⟩ fun t μ2 p => ?_
      obtain ⟨rfl, p2, p3⟩ := p ⟨n, h, ps, i, pl, st, ms, kvs, s⟩ rfl ⟨hk, j1, pc, j2, hlt⟩
      exact qq μ2 ⟨p2.at ne j1, p3⟩ p2
    · cases ef
  · rintro s μ1 p o hp ⟨j1, j2⟩
    have n1 : pl ≠ p := fun z => by subst z; rw [hp] at e1; cases e1
    have n2 : st ≠ p := fun z => by subst z; rw [hp] at e2; cases e2
    exact ⟨by rw [mset_ne n1]; exact j1, by rw [mset_ne n2]; exact j2⟩
  · rintro s μ1 μ2 ex ⟨j1, j2⟩
    exact ⟨Ext.at ex j1, Ext.at ex j2⟩
  · rintro b rfl
    rw [e2]; exact fun z => by cases z
  · intro z
    subst z
    rw [hfa] at e2; cases e2
  · rintro μ' ⟨j1, j2⟩ ex
    exact q μ' l' ex j2 f2
theorem v_closed_over (h1 : Φ .changed__closed_over = cChz k) (cl : List (Str × Addr)) (x : CoX) (μ : Mu) (pp : CoP k 2 x μ) (post : T → Mu → Prop) (q : ∀ μ', Ext μ μ' → post (optT (closM x.ms x.tm)) μ') : wSs Φ (b_closed_over cl) (endsOf post) (startT 9 (inCo x)) μ := by
  obtain ⟨p, ms, tm⟩ := x
  obtain ⟨hk, e, nd, lm, sz⟩ := pp
  obtain ⟨n, h, ps⟩ := tm
  dsimp only at *
  refine (show wSs Φ _ _ (startT 9 [.ref p, (Tm.mk n h ps).t]) μ from ?_)
  rw [tm_t]
  refine v_step rfl ?_
  walk_at "wgo"
  refine b_len (len_lst e) ?_
  rw [List.length_map]
  refine v_step rfl ?_
  walk_at "wgo"
  refine ⟨_, e, fun pl hpl => ?_⟩
  have e8 : ((ms.map natT).zipIdx.map fun p => T.tup [.int (p.2 : Nat), p.1]) = (ms.zipIdx 0).map fun p => T.tup [.int (p.2 : Nat), natT p.1] := by
    rw [List.zipIdx_map, List.map_map]
    rfl
  rw [e8]
  refine dc_map (wE_mono _) (wE_mono _) (fun x => match x with | .tup [_, .int i] => Sum.inl i | _ => Sum.inl 0) (fun x => match x with | .tup [.int q, _] => .int ((ms.length : Nat) - 1 - q) | _ => .non) hpl (by rw [List.length_map, List.length_zipIdx]; omega) (fun μ1 ex1 => Ext.at ex1 e) (fun x hx μ1 ex1 => ?_) fun μ1 ex1 hd1 => ?_
  · obtain ⟨⟨m, j⟩, hm, rfl⟩ := List.mem_map.mp hx
    walk_at "wgo"
    exact ⟨ExtX.refl, rfl, rfl⟩
  · generalize hkv : List.foldl (fun d x => putT d (match x with | .tup [_, .int i] => Sum.inl i | _ => Sum.inl 0) (match x with | .tup [.int q, _] => .int ((ms.length : Nat) - 1 - q) | _ => .non)) [] ((ms.zipIdx 0).map fun p => T.tup [.int (p.2 : Nat), natT p.1]) = kvs at hd1
    have pc : Plc ms kvs := by
      intro j
      rw [← hkv]
      have := foldl_places ms.length ms 0 [] j nd
      refine Eq.trans this ?_
      unfold placeI
      cases e9 : posN ms j with
      | none => rfl
      | some p0 => simp
    clear hkv
    have e1 := Ext.at ex1 e
    refine v_step rfl ?_
    walk_at "wgo"
    refine ⟨by rw [line_eq]; simp, fun st hst => ?_⟩
    have nps : pl ≠ st := ne_of_new hst hd1
    have hd2 := (mset_ne (o := .lst []) nps).trans hd1
    have hs2 : (mset μ1 st (.lst [])) st = some (.lst []) := mset_same
    have ex2 : Ext μ _ := ex1.trans (ExtX.new (o := .lst []) hst)
    generalize mset μ1 st (.lst []) = μ2 at hd2 hs2 ex2 ⊢
    refine v_step rfl ?_
    refine v_ndef fun c fa hfa => ?_
    have hd3 := (mset_ne (o := .fn (NdefX.NF.of (stF .closed_over_change) (nmF .closed_over_change) (qualF .closed_over_change) cl c)) (ne_of_new hfa hd2)).trans hd2
    have hs3 := (mset_ne (o := .fn (NdefX.NF.of (stF .closed_over_change) (nmF .closed_over_change) (qualF .closed_over_change) cl c)) (ne_of_new hfa hs2)).trans hs2
    have ex3 : Ext μ _ := ex2.trans (ExtX.new (o := .fn (NdefX.NF.of (stF .closed_over_change) (nmF .closed_over_change) (qualF .closed_over_change) cl c)) hfa)
    have hf3 : (mset μ2 fa (.fn (NdefX.NF.of (stF .closed_over_change) (nmF .closed_over_change) (qualF .closed_over_change) cl c))) fa = _ := mset_same
    generalize mset μ2 fa (.fn (NdefX.NF.of (stF .closed_over_change) (nmF .closed_over_change) (qualF .closed_over_change) cl c)) = μ3 at hd3 hs3 ex3 hf3 ⊢
    refine v_step rfl ?_
    walk_at "wgo"
    refine ⟨by rw [line_eq]; simp, ?_⟩
    walk_at "wgo"
    refine ⟨[.tup [.int 0, h.t, .tup (ps.map Tm.t)]], fa, c, [.ref pl, .ref st], rfl, hf3, rfl, ?_⟩
    have sz0 : tsz (.mk 0 h ps) ≤ 1000000 := by rw [tsz_mk] at sz ⊢; exact sz
    have pz : ChzP k 2 ⟨.mk 0 h ps, fa, pl, st, ms, kvs, []⟩ μ3 := ⟨hk, hd3, pc, hs3, by simp, sz0⟩
    have ets : ([T.tup [.int 0, h.t, .tup (ps.map Tm.t)], .ref fa] ++ [.ref pl, .ref st]) = inChz ⟨.mk 0 h ps, fa, pl, st, ms, kvs, []⟩ := by unfold inChz; rw [tm_t]; rfl
    refine call_of h1 ⟨_, ets, pz⟩ fun t μ4 p4 => ?_
    obtain ⟨rfl, e4, l', hl', el'⟩ := p4 _ ets pz
    dsimp only at hl' el'
    have ex4 : Ext μ μ4 := fun b o nb eb => e4 b o (fun z => by
      have z : b = st := z
      subst z
      have := Ext.at ex1 eb
      rw [hst] at this; cases this) (Ext.at ex3 eb)
    have q4 := q μ4 ex4
    have ec : closM ms (.mk n h ps) = if okM ms 0 (.mk 0 h ps) = true then some (.mk ms.length (clH ms 0 h) (clMs ms 0 ps)) else none := rfl
    rw [ec] at q4
    unfold clM
    rw [tm_t]
    refine v_step rfl ?_
    walk_at "wgo"
    refine ⟨_, tru_lst hl', ?_⟩
    rw [el']
    cases hok : okM ms 0 (.mk 0 h ps) with
    | true =>
      rw [if_pos hok] at q4
      refine ite_ff (by simp) ?_
      walk_at "wgo"
      refine ⟨by rw [line_eq]; simp, ?_⟩
      unfold optT at q4
      dsimp only at q4
      rw [tm_t] at q4
      have z0 : (0 : Int) + 0 = 0 := rfl
      rw [z0]
      exact q4
    | false =>
      rw [if_neg (by rw [hok]; exact Bool.false_ne_true)] at q4
      refine ite_tt (by simp) ?_
      walk_at "wgo"
      exact q4
end K07

namespace K07
open PySem PySem.Spec TV
open L2 (ixN atI Key)
variable {Φ : Fn → TV.Con} {k : Nat}
/-! what two rows of terms ask of the holes -/
instance : DecidableEq Hd
  | .b i, .b j => if h : i = j then isTrue (by rw [h]) else isFalse (fun z => by cases z; exact h rfl)
  | .c i, .c j => if h : i = j then isTrue (by rw [h]) else isFalse (fun z => by cases z; exact h rfl)
  | .h i, .h j => if h : i = j then isTrue (by rw [h]) else isFalse (fun z => by cases z; exact h rfl)
  | .b _, .c _ => isFalse (fun z => by cases z)
  | .b _, .h _ => isFalse (fun z => by cases z)
  | .c _, .b _ => isFalse (fun z => by cases z)
  | .c _, .h _ => isFalse (fun z => by cases z)
  | .h _, .b _ => isFalse (fun z => by cases z)
  | .h _, .c _ => isFalse (fun z => by cases z)
def numT : Tm → Int
  | .mk n h _ => hdI h - n
def msOf (ps : List Tm) : List Nat := ps.map fun p => (numT p).toNat
theorem num_long {m : Nat} {kd : Kd} : numT (longM 1 (.b m) kd) = m := by
  obtain ⟨a, z⟩ := kd
  rw [long1]
  simp only [numT, hdI]
  omega
theorem msOf_longs {own : List Kd} {a : List Kd} {ms : List Nat} (h : All2 (NumOk own) a ms) : msOf (longs a ms) = ms := by
  unfold msOf longs
  induction h with
  | nil => rfl
  | cons _ _ ih => rw [List.zipWith_cons_cons, List.map_cons, ih, num_long]; simp
abbrev Cst := List (Int × Tm)
mutual
def consM : Tm → Tm → Option Cst
  | .mk _ (.h i) ps, o => (closM (msOf ps) o).map fun v => [(i, v)]
  | .mk _ (.b i) ps, .mk _ h' qs => if Hd.b i = h' then consMs ps qs else none
  | .mk _ (.c i) ps, .mk _ h' qs => if Hd.c i = h' then consMs ps qs else none
def consMs : List Tm → List Tm → Option Cst
  | [], _ => some []
  | _ :: _, [] => none
  | p :: ps, q :: qs => match consM p q with
    | none => none
    | some a => match consMs ps qs with
      | none => none
      | some b => some (a ++ b)
end
def Cns (l : Cst) : Prop := ∀ p ∈ l, ∀ q ∈ l, p.1 = q.1 → p.2 = q.2
theorem Cns.sub {l m : Cst} (h : Cns l) (s : ∀ x ∈ m, x ∈ l) : Cns m := fun p hp q hq e => h p (s p hp) q (s q hq) e
theorem lookC : ∀ {l : Cst} {i : Int} {v : Tm}, l.lookup i = some v → (i, v) ∈ l
  | [], _, _, e => by cases e
  | (j, w) :: l, i, v, e => by
    rw [List.lookup_cons] at e
    split at e
    · rename_i h
      cases e
      have : i = j := by simpa using h
      rw [this]; simp
    · exact List.mem_cons_of_mem _ (lookC e)
theorem lookC_none : ∀ {l : Cst} {i : Int}, l.lookup i = none → ∀ v, (i, v) ∉ l
  | [], _, _, _ => by simp
  | (j, w) :: l, i, e, v => by
    rw [List.lookup_cons] at e
    split at e
    · cases e
    · rename_i h
      have : i ≠ j := fun z => by subst z; simp at h
      intro hm
      rcases List.mem_cons.mp hm with h2 | h2
      · cases h2; exact this rfl
      · exact lookC_none e v h2
theorem look_set {l m : Cst} (c : Cns l) (s : ∀ x, x ∈ l ↔ x ∈ m) (i : Int) : l.lookup i = m.lookup i := by
  cases e : l.lookup i with
  | some v =>
    cases e2 : m.lookup i with
    | some w =>
      have : v = w := c _ (lookC e) _ ((s _).mpr (lookC e2)) rfl
      rw [this]
    | none => exact absurd ((s _).mp (lookC e)) (lookC_none e2 v)
  | none =>
    cases e2 : m.lookup i with
    | some w => exact absurd ((s _).mpr (lookC e2)) (lookC_none e w)
    | none => rfl
theorem look_snoc (l : Cst) (i j : Int) (v : Tm) : (l ++ [(i, v)]).lookup j = match l.lookup j with
    | some w => some w
    | none => if i = j then some v else none := by
  rw [List.lookup_append]
  cases l.lookup j with
  | some w => rfl
  | none =>
    simp only [Option.none_or, List.lookup_cons, List.lookup_nil]
    by_cases h : i = j
    · subst h; simp
    · have : (j == i) = false := by simp; exact fun z => h z.symm
      rw [this, if_neg h]
/-- a dict that tells these -/
def RepC (l : Cst) (kvs : List (Key × T)) : Prop := ∀ i : Int, lookT kvs (.inl i) = (l.lookup i).map Tm.t
open Classical in
/-- the filling that they tell -/
noncomputable def resT (c : Option Cst) (many : Nat) : T := match c with
  | none => .non
  | some C => if Cns C then .tup ((List.range many).map fun (j : Nat) => optT (C.lookup (j : Int))) else .non
/-- pairs on a pile -/
def consS : List (Tm × Tm) → Option Cst
  | [] => some []
  | (p, q) :: r => match consM p q with
    | none => none
    | some a => match consS r with
      | none => none
      | some b => some (a ++ b)
theorem consS_zip : ∀ ps qs : List Tm, ps.length = qs.length → consS (ps.zip qs) = consMs ps qs
  | [], [], _ => by unfold consMs; rfl
  | p :: ps, q :: qs, e => by
    rw [List.zip_cons_cons, consS, consMs, consS_zip ps qs (by simpa using e)]
  | [], _ :: _, e => by cases e
  | _ :: _, [], e => by cases e
theorem consS_app : ∀ A B : List (Tm × Tm), consS (A ++ B) = match consS A, consS B with
    | some a, some b => some (a ++ b)
    | _, _ => none
  | [], B => by
    show consS B = match some [], consS B with | some a, some b => some (a ++ b) | _, _ => none
    cases consS B <;> rfl
  | (p, q) :: A, B => by
    rw [List.cons_append, consS, consS, consS_app A B]
    cases consM p q with
    | none => cases consS A <;> cases consS B <;> rfl
    | some a =>
      cases consS A with
      | none => cases consS B <;> rfl
      | some b =>
        cases consS B with
        | none => rfl
        | some c => simp
/-- what a pile asks together with what was told, and what all ask -/
def Same3 (all : Option Cst) (D : Cst) (S : List (Tm × Tm)) : Prop := (∀ C, all = some C → ∃ CS, consS S = some CS ∧ ∀ x, x ∈ C ↔ x ∈ D ∨ x ∈ CS) ∧ (all = none → consS S = none)
theorem Same3.start {vs os : List Tm} (e : vs.length = os.length) {S : List (Tm × Tm)} (h : S = vs.zip os) : Same3 (consMs vs os) [] S := by
  subst h
  rw [← consS_zip vs os e]
  exact ⟨fun C hC => ⟨C, hC, fun x => by simp⟩, fun h => h⟩
theorem Same3.hole {all : Option Cst} {D : Cst} {S : List (Tm × Tm)} {one other : Tm} {i : Int} {v : Tm} (h : Same3 all D (S ++ [(one, other)])) (e : consM one other = some [(i, v)]) : Same3 all (D ++ [(i, v)]) S := by
  refine ⟨fun C hC => ?_, fun hN => ?_⟩
  · obtain ⟨CS, e2, s⟩ := h.1 C hC
    rw [consS_app] at e2
    cases e3 : consS S with
    | none => rw [e3] at e2; cases e2
    | some A =>
      rw [e3] at e2
      simp only [consS, e, Option.some.injEq] at e2
      subst e2
      refine ⟨A, rfl, fun x => ?_⟩
      rw [s x]
      simp only [List.mem_append, List.mem_singleton, List.append_nil]
      constructor
      · rintro (a | a | a)
        · exact .inl (.inl a)
        · exact .inr a
        · exact .inl (.inr a)
      · rintro ((a | a) | a)
        · exact .inl a
        · exact .inr (.inr a)
        · exact .inr (.inl a)
  · have := h.2 hN
    rw [consS_app] at this
    cases e3 : consS S with
    | none => rfl
    | some A => rw [e3] at this; simp only [consS, e] at this; cases this
theorem Same3.parts {all : Option Cst} {D : Cst} {S P : List (Tm × Tm)} {one other : Tm} (h : Same3 all D (S ++ [(one, other)])) (e : consM one other = consS P) : Same3 all D (S ++ P) := by
  have e0 : consS [(one, other)] = consS P := by
    simp only [consS, e]
    cases consS P with
    | none => rfl
    | some b => simp
  unfold Same3 at h ⊢
  rw [consS_app] at h ⊢
  rw [e0] at h
  exact h
theorem Same3.bad {all : Option Cst} {D : Cst} {S : List (Tm × Tm)} {one other : Tm} (h : Same3 all D (S ++ [(one, other)])) (e : consM one other = none) (m : Nat) : resT all m = .non := by
  cases all with
  | none => rfl
  | some C =>
    obtain ⟨CS, e2, _⟩ := h.1 C rfl
    rw [consS_app] at e2
    simp only [consS, e] at e2
    cases e3 : consS S <;> rw [e3] at e2 <;> cases e2
theorem Same3.clash {all : Option Cst} {D : Cst} {S : List (Tm × Tm)} {one other : Tm} {i : Int} {v w : Tm} (h : Same3 all D (S ++ [(one, other)])) (e : consM one other = some [(i, v)]) (l : D.lookup i = some w) (ne : w ≠ v) (m : Nat) : resT all m = .non := by
  cases all with
  | none => rfl
  | some C =>
    have h2 := h.hole e
    obtain ⟨CS, e2, s⟩ := h2.1 C rfl
    unfold resT
    simp only
    rw [if_neg]
    intro c
    exact ne (c (i, w) ((s _).mpr (.inl (List.mem_append_left _ (lookC l)))) (i, v) ((s _).mpr (.inl (List.mem_append_right _ (List.mem_singleton.mpr rfl)))) rfl)
theorem Same3.done {all : Option Cst} {D : Cst} (h : Same3 all D []) (c : Cns D) (m : Nat) : resT all m = .tup ((List.range m).map fun (j : Nat) => optT (D.lookup (j : Int))) := by
  cases all with
  | none => have := h.2 rfl; cases this
  | some C =>
    obtain ⟨CS, e2, s⟩ := h.1 C rfl
    cases e2
    have s' : ∀ x, x ∈ D ↔ x ∈ C := fun x => by rw [s x]; simp
    unfold resT
    simp only
    rw [if_pos (c.sub fun x hx => (s' x).mpr hx)]
    congr 1
    refine List.map_congr_left fun j _ => ?_
    rw [look_set c s']
theorem Cns.snoc {D : Cst} {i : Int} {v : Tm} (c : Cns D) (h : D.lookup i = none ∨ D.lookup i = some v) : Cns (D ++ [(i, v)]) := by
  have key : ∀ w, (i, w) ∈ D → w = v := fun w hw => by
    rcases h with h | h
    · exact absurd hw (lookC_none h w)
    · exact c (i, w) hw (i, v) (lookC h) rfl
  intro p hp q hq e
  rcases List.mem_append.mp hp with a | a <;> rcases List.mem_append.mp hq with b | b
  · exact c p a q b e
  · rw [List.mem_singleton] at b
    subst b
    obtain ⟨p1, p2⟩ := p
    dsimp only at e ⊢
    subst e
    exact key p2 a
  · rw [List.mem_singleton] at a
    subst a
    obtain ⟨q1, q2⟩ := q
    dsimp only at e ⊢
    subst e
    exact (key q2 b).symm
  · rw [List.mem_singleton] at a b
    subst a b; rfl
/-! a hole at some place -/
mutual
def occT (j : Int) : Tm → Bool
  | .mk _ (.h i) _ => i == j
  | .mk _ (.b _) ps => occTs j ps
  | .mk _ (.c _) ps => occTs j ps
def occTs (j : Int) : List Tm → Bool
  | [] => false
  | p :: ps => occT j p || occTs j ps
end
end K07

namespace K07
open PySem PySem.Spec TV
open L2 (ixN atI Key)
variable {Φ : Fn → TV.Con} {k : Nat}
/-! _law_number, _law_named, _law_read, _law_more -/
theorem any_pos : ∀ {ms : List Nat} {j : Int}, (ms.map natT).any (fun z => peq z (.int j)) = (posN ms j).isSome
  | [], _ => rfl
  | m :: ms, j => by
    rw [List.map_cons, List.any_cons, any_pos, posN_cons]
    by_cases h : (m : Int) = j
    · rw [if_pos h]; simp [natT, peq, h]
    · rw [if_neg h]
      have : peq (natT m) (.int j) = false := by simp [natT, peq, h]
      rw [this, Bool.false_or]
      cases posN ms j <;> rfl
theorem clMs_snoc (ms : List Nat) (d : Int) (xs : List Tm) (x : Tm) : clMs ms d (xs ++ [x]) = clMs ms d xs ++ [clM ms d x] := by
  rw [clMs_map, clMs_map]; simp
structure NuX where
  n : Int
  i : Int
  ps : List Tm
def inNu (x : NuX) : List T := [(Tm.mk x.n (.b x.i) x.ps).t]
theorem inNu_inj (x y : NuX) (e : inNu x = inNu y) : x = y := by
  obtain ⟨a, b, c⟩ := x
  obtain ⟨a', b', c'⟩ := y
  simp only [inNu, List.cons.injEq, and_true] at e
  have := Tm.inj e
  injection this with e1 e2 e3
  injection e2 with e2
  rw [e1, e2, e3]
def cNu (k : Nat) : TV.Con := mkC inNu (fun _ _ => 1 ≤ k) (fun x μ t μ' => Ext μ μ' ∧ t = .int (x.i - x.n))
theorem v_law_number (x : NuX) (μ : Mu) (post : T → Mu → Prop) (q : ∀ μ', Ext μ μ' → post (.int (x.i - x.n)) μ') : wSs Φ b_law_number (endsOf post) (startT 1 (inNu x)) μ := by
  obtain ⟨n, i, ps⟩ := x
  refine (show wSs Φ _ _ (startT 1 [(Tm.mk n (.b i) ps).t]) μ from ?_)
  rw [tm_t]
  refine v_step rfl ?_
  walk_at "wgo"
  refine x_tup (l := [.str "b", .int i]) rfl ?_
  walk_at "wgo"
  exact q μ ExtX.refl
structure NmX where
  h : Hd
  ps : List Tm
  p : Addr
  ms : List Nat
  d : Int
def inNm (x : NmX) : List T := [x.h.t, .tup (x.ps.map Tm.t), .ref x.p, .int x.d]
structure NmP (k c : Nat) (x : NmX) (μ : Mu) : Prop where
  e : μ x.p = some (.lst (x.ms.map natT))
  tl : ∃ hg : Nat, x.ps.length ≤ 100 ∧ (∀ y ∈ x.ps, TLe hg y) ∧ (x.ps ≠ [] → hg + c + 1 ≤ k) ∧ c ≤ k
theorem inNm_inj {k c : Nat} (x y : NmX) (μ : Mu) (e : inNm x = inNm y) (p : NmP k c x μ) (p' : NmP k c y μ) : x = y := by
  obtain ⟨a, b, d, f, g⟩ := x
  obtain ⟨a', b', d', f', g'⟩ := y
  simp only [inNm, List.cons.injEq, T.ref.injEq, T.tup.injEq, T.int.injEq, and_true] at e
  obtain ⟨e1, e2, rfl, rfl⟩ := e
  have := p.e.symm.trans p'.e
  simp only [Option.some.injEq, MO.lst.injEq] at this
  rw [natT_inj this, Hd.inj e1, tms_inj e2]
def cNm (k : Nat) : TV.Con := mkC inNm (NmP k 2) (fun x μ t μ' => Ext μ μ' ∧ if (okH x.ms x.d x.h && okMs x.ms x.d x.ps) = true then ∃ r, t = .ref r ∧ μ r = none ∧ μ' r = some (.lst [(clH x.ms x.d x.h).t, .tup ((clMs x.ms x.d x.ps).map Tm.t)]) else t = .non)
theorem v_law_named (h1 : Φ .law_named = cNm k) (x : NmX) (μ : Mu) (pp : NmP k 1 x μ) (post : T → Mu → Prop)
    (q : ∀ t μ', Ext μ μ' → (if (okH x.ms x.d x.h && okMs x.ms x.d x.ps) = true then ∃ r, t = .ref r ∧ μ r = none ∧ μ' r = some (.lst [(clH x.ms x.d x.h).t, .tup ((clMs x.ms x.d x.ps).map Tm.t)]) else t = .non) → post t μ') : wSs Φ b_law_named (endsOf post) (startT 7 (inNm x)) μ := by
  obtain ⟨h, ps, p, ms, d⟩ := x
  obtain ⟨e, hg, lp, tl, hk, hk1⟩ := pp
  dsimp only at *
  refine (show wSs Φ _ _ (startT 7 [h.t, .tup (ps.map Tm.t), .ref p, .int d]) μ from ?_)
  have rest : ∀ (h' : Hd), okH ms d h = true → h' = clH ms d h → wSs Φ (Ss.drop 1 b_law_named) (endsOf post) [some h'.t, some (.tup (ps.map Tm.t)), some (.ref p), some (.int d), none, none, none] μ := by
    intro h' ok eh
    refine v_step rfl ?_
    walk_at "wgo"
    refine ⟨by rw [line_eq]; simp, fun p4 hp4 => ?_⟩
    refine v_step rfl ?_
    walk_at "wgo"
    refine forT_inv (f := Tm.t) (wSs_mono _) (fun rest τ μ' => ∃ done v5 v6, ps = done ++ rest ∧ τ = [some h'.t, some (.tup (ps.map Tm.t)), some (.ref p), some (.int d), some (.ref p4), v5, v6] ∧ Ext μ μ' ∧ μ' p4 = some (.lst ((clMs ms d done).map Tm.t)) ∧ okMs ms d done = true) (fun _ _ _ _ => trivial) ?_ ?_ ps _ _ ⟨[], none, none, rfl, rfl, ExtX.new hp4, mset_same, rfl⟩
    · rintro τ μ' ⟨done, v5, v6, e0, rfl, e1, hl, okd⟩
      rw [List.append_nil] at e0
      subst e0
      refine v_step rfl ?_
      walk_at "wgo"
      refine b_tuple (items_lst hl) ?_
      walk_at "wgo"
      refine ⟨by rw [line_eq]; simp, fun p5 hp5 => ?_⟩
      refine q (.ref p5) _ (e1.trans (ExtX.new hp5)) ?_
      rw [ok, okd, Bool.and_self, if_pos rfl]
      refine ⟨p5, rfl, none_of_ext e1 hp5, ?_⟩
      rw [mset_same, ← eh]
    · rintro part rest τ μ' ⟨done, v5, v6, e0, rfl, e1, hl, okd⟩
      have mem : part ∈ ps := by rw [e0]; simp
      have tp := tl part mem
      obtain ⟨n, hd, qs⟩ := part
      obtain ⟨lq, tq⟩ := tp.ps
      have ld : done.length < ps.length := by rw [e0]; simp
      rw [tm_t]
      walk_at "wgo"
      have pn : NmP k 2 ⟨hd, qs, p, ms, d + n⟩ μ' := ⟨Ext.at e1 e, hg - 1, lq, fun y hy => (tq y hy).1, fun z => by
        cases qs with
        | nil => exact absurd rfl z
        | cons y ys => have := (tq y List.mem_cons_self).2; have := hk (by rw [e0]; simp); omega, by have := hk (by rw [e0]; simp); omega⟩
      refine call_mk h1 ⟨hd, qs, p, ms, d + n⟩ rfl pn fun t μ2 ⟨e2, et⟩ => ?_
      dsimp only at et
      by_cases okp : (okH ms (d + n) hd && okMs ms (d + n) qs) = true
      · rw [if_pos okp] at et
        obtain ⟨r, rfl, hr, el⟩ := et
        walk_at "wgo"
        have hl2 := Ext.at e2 hl
        refine ⟨⟨_, hl2⟩, ?_⟩
        walk_at "wgo"
        refine x_lst el rfl ?_
        walk_at "wgo"
        refine x_lst el rfl ?_
        walk_at "wgo"
        refine ⟨by rw [line_eq]; simp, ?_⟩
        walk_at "wgo"
        refine m_append hl2 (by rw [line_eq, List.length_map, clMs_map ms d done, List.length_map]; omega) ?_
        walk_at "wgo"
        refine ⟨done ++ [.mk n hd qs], _, _, by rw [e0]; simp, rfl, (e1.trans e2).later hp4, ?_, ?_⟩
        · rw [mset_same, clMs_snoc, List.map_append, List.map_singleton, clM, tm_t]
        · rw [okMs_all, List.all_append, ← okMs_all, okd, List.all_cons, List.all_nil, okM, okp]; rfl
      · rw [if_neg okp] at et
        subst et
        walk_at "wgo"
        refine q .non μ2 (e1.trans e2) ?_
        rw [if_neg]
        intro z
        rw [Bool.and_eq_true, okMs_all, List.all_eq_true] at z
        have := z.2 _ mem
        rw [okM] at this
        exact okp this
  have bad : okH ms d h = false → post .non μ := fun z => q .non μ ExtX.refl (by rw [z, if_neg (by simp)])
  refine v_step rfl ?_
  walk_at "wgo"
  cases h with
  | c x =>
    refine x_tup (l := [.str "c", .str x]) rfl ?_
    walk_at "wgo"
    exact rest (.c x) rfl rfl
  | h x =>
    refine x_tup (l := [.str "h", .int x]) rfl ?_
    walk_at "wgo"
    exact rest (.h x) rfl rfl
  | b j =>
    refine x_tup (l := [.str "b", .int j]) rfl ?_
    walk_at "wgo"
    refine x_tup (l := [.str "b", .int j]) rfl ?_
    walk_at "wgo"
    refine ite_b (fun z => ?_) fun z => ?_
    · have z1 : d ≤ j := of_decide_eq_true z
      have oke : okH ms d (.b j) = (posN ms (j - d)).isSome := by unfold okH; exact if_pos z1
      walk_at "wgo"
      refine x_tup (l := [.str "b", .int j]) rfl ?_
      walk_at "wgo"
      refine c_notin (.inr (.inl ⟨ms.map natT, items_lst e, rfl, flat_nat, ?_⟩))
      refine ⟨_, rfl, ?_⟩
      rw [any_pos]
      cases hp : posN ms (j - d) with
      | none =>
        refine ite_tt rfl ?_
        walk_at "wgo"
        exact bad (by rw [oke, hp]; rfl)
      | some pz =>
        refine ite_ff rfl ?_
        walk_at "wgo"
        refine b_len (len_lst e) ?_
        rw [List.length_map]
        walk_at "wgo"
        refine ⟨⟨_, e⟩, ?_⟩
        walk_at "wgo"
        refine x_tup (l := [.str "b", .int j]) rfl ?_
        walk_at "wgo"
        obtain ⟨m, a1, a2, a3⟩ := posN_mem hp
        refine m_index (z := natT m) (j := pz) e rfl flat_nat (by rw [List.getElem?_map, a1]; rfl) (by simp [natT, peq, a2]) (fun q0 z' hq0 hz' => ?_) ?_
        · rw [List.getElem?_map] at hz'
          cases hm : ms[q0]? with
          | none => rw [hm] at hz'; cases hz'
          | some m' =>
            rw [hm] at hz'
            cases hz'
            have := a3 q0 hq0 m' hm
            simp [natT, peq, this]
        walk_at "wgo"
        refine ⟨by rw [line_eq]; simp, ?_⟩
        walk_at "wgo"
        refine (show wSs Φ (Ss.drop 1 b_law_named) (endsOf post) [some (Hd.b (d + (ms.length : Nat) - 1 - (pz : Nat))).t, _, _, _, _, _, _] μ from ?_)
        refine rest (.b (d + (ms.length : Nat) - 1 - (pz : Nat))) (by rw [oke, hp]; rfl) ?_
        have ec : clH ms d (.b j) = .b ((placeI ms (j - d)).getD 0 + d) := by simp only [clH]; rw [if_pos z1]
        rw [ec]
        unfold placeI
        rw [hp]
        show Hd.b _ = Hd.b (((ms.length : Int) - 1 - pz) + d)
        congr 1
        omega
    · have z1 : ¬ d ≤ j := of_decide_eq_false z
      walk_at "wgo"
      exact rest (.b j) (by unfold okH; exact if_neg z1) (by unfold clH; exact (if_neg z1).symm)
end K07

namespace K07
open PySem PySem.Spec TV
open L2 (ixN atI Key)
variable {Φ : Fn → TV.Con} {k : Nat}
/-! _law_read, _law_more -/
abbrev Dic := List (Key × T)
mutual
def rdM : Tm → Tm → Dic → Bool × Dic
  | .mk _ (.h i) ps, o, kvs => match closM (msOf ps) o with
    | none => (false, kvs)
    | some v => match lookT kvs (.inl i) with
      | some t => (peq t v.t, kvs)
      | none => (true, putT kvs (.inl i) v.t)
  | .mk _ (.b i) ps, .mk _ h' qs, kvs => if Hd.b i = h' then rdMs ps qs kvs else (false, kvs)
  | .mk _ (.c i) ps, .mk _ h' qs, kvs => if Hd.c i = h' then rdMs ps qs kvs else (false, kvs)
def rdMs : List Tm → List Tm → Dic → Bool × Dic
  | p :: ps, q :: qs, kvs => ((rdM p q kvs).1 && (rdMs ps qs (rdM p q kvs).2).1, (rdMs ps qs (rdM p q kvs).2).2)
  | [], _, kvs => (true, kvs)
  | _ :: _, [], kvs => (false, kvs)
end
/-- reading goes as constraints are added -/
def RdSpec (D : Cst) (c : Option Cst) (r : Bool × Dic) : Prop := (r.1 = true → ∃ C, c = some C ∧ RepC (D ++ C) r.2 ∧ Cns (D ++ C)) ∧ (r.1 = false → ∀ C, c = some C → ¬ Cns (D ++ C))
theorem RepC.snoc {D : Cst} {kvs : Dic} {i : Int} {v : Tm} (r : RepC D kvs) (e : D.lookup i = none) : RepC (D ++ [(i, v)]) (putT kvs (.inl i) v.t) := by
  intro j
  rw [lookT_put, look_snoc, r j]
  by_cases h : i = j
  · subst h
    rw [if_pos rfl, e]
    simp
  · rw [if_neg (fun z => h (Sum.inl.inj z)), if_neg h]
    cases D.lookup j <;> rfl
mutual
theorem rd_spec : ∀ (one other : Tm) (D : Cst) (kvs : Dic), RepC D kvs → Cns D → RdSpec D (consM one other) (rdM one other kvs)
  | .mk _ (.h i) ps, o, D, kvs, r, c => by
    unfold rdM consM
    cases e : closM (msOf ps) o with
    | none => exact ⟨fun z => (by cases z), fun _ C hC => (by cases hC)⟩
    | some v =>
      simp only [Option.map_some]
      have ri := r i
      cases e2 : D.lookup i with
      | some w =>
        rw [e2] at ri
        rw [ri]
        simp only [Option.map_some]
        refine ⟨fun z => ?_, fun z C hC cc => ?_⟩
        · have : w = v := (peq_tm _ _).mp z
          subst this
          refine ⟨_, rfl, ?_, c.snoc (.inr e2)⟩
          intro j
          rw [look_snoc]
          show lookT kvs _ = _
          rw [r j]
          cases e3 : D.lookup j with
          | some x => rfl
          | none =>
            by_cases h : i = j
            · subst h; rw [e2] at e3; cases e3
            · simp [h]
        · cases hC
          have : w = v := cc (i, w) (List.mem_append_left _ (lookC e2)) (i, v) (by simp) rfl
          rw [(peq_tm _ _).mpr this] at z
          cases z
      | none =>
        rw [e2] at ri
        rw [ri]
        simp only [Option.map_none]
        exact ⟨fun _ => ⟨_, rfl, r.snoc e2, c.snoc (.inl e2)⟩, fun z => (by cases z)⟩
  | .mk _ (.b i) ps, .mk _ h' qs, D, kvs, r, c => by
    unfold rdM consM
    split
    · exact rd_specs ps qs D kvs r c
    · exact ⟨fun z => (by cases z), fun _ C hC => (by cases hC)⟩
  | .mk _ (.c i) ps, .mk _ h' qs, D, kvs, r, c => by
    unfold rdM consM
    split
    · exact rd_specs ps qs D kvs r c
    · exact ⟨fun z => (by cases z), fun _ C hC => (by cases hC)⟩
theorem rd_specs : ∀ (ps qs : List Tm) (D : Cst) (kvs : Dic), RepC D kvs → Cns D → RdSpec D (consMs ps qs) (rdMs ps qs kvs)
  | [], qs, D, kvs, r, c => by
    unfold rdMs consMs
    exact ⟨fun _ => ⟨[], rfl, by simpa using r, by simpa using c⟩, fun z => (by cases z)⟩
  | _ :: _, [], D, kvs, r, c => by
    unfold rdMs consMs
    exact ⟨fun z => (by cases z), fun _ C hC => (by cases hC)⟩
  | p :: ps, q :: qs, D, kvs, r, c => by
    unfold rdMs consMs
    have h1 := rd_spec p q D kvs r c
    cases e1 : (rdM p q kvs).1 with
    | false =>
      simp only [Bool.false_and]
      refine ⟨fun z => (by cases z), fun _ C hC cc => ?_⟩
      cases e2 : consM p q with
      | none => rw [e2] at hC; cases hC
      | some A =>
        rw [e2] at hC
        simp only at hC
        cases e3 : consMs ps qs with
        | none => rw [e3] at hC; cases hC
        | some B =>
          rw [e3] at hC
          cases hC
          exact h1.2 e1 A e2 (cc.sub fun x hx => by rcases List.mem_append.mp hx with a | a <;> simp [a])
    | true =>
      obtain ⟨A, e2, r2, c2⟩ := h1.1 e1
      have h2 := rd_specs ps qs (D ++ A) _ r2 c2
      rw [e2]
      simp only [Bool.true_and]
      refine ⟨fun z => ?_, fun z C hC cc => ?_⟩
      · obtain ⟨B, e3, r3, c3⟩ := h2.1 z
        rw [e3]
        exact ⟨A ++ B, rfl, by rw [← List.append_assoc]; exact r3, by rw [← List.append_assoc]; exact c3⟩
      · cases e3 : consMs ps qs with
        | none => rw [e3] at hC; cases hC
        | some B =>
          rw [e3] at hC
          cases hC
          exact h2.2 z B e3 (by rw [List.append_assoc]; exact cc)
end
/-- what reading asks of two terms -/
def RdOk : Nat → Tm → Tm → Prop
  | 0, _, _ => False
  | h + 1, .mk n hd ps, .mk n' hd' qs => ((∃ i, hd = .h i) → (∃ (own a : List Kd) (ms : List Nat), All2 (NumOk own) a ms ∧ ms.Nodup ∧ a.length ≤ 3 ∧ (∀ y ∈ a, KOk 1 y) ∧ ps = longs a ms) ∧ qs.length ≤ 3 ∧ (∀ y ∈ qs, TLe 60 y ∧ y.t.depth ≤ 120)) ∧ ((∀ i, hd ≠ .h i) → n = n' ∧ ps.length ≤ 3 ∧ (hd = hd' → ps.length = qs.length ∧ All2 (RdOk h) ps qs))
theorem rdok_of {s : Sig} {hs hs' : List Kd} (ks : ∀ p ∈ s, KOk 2 p.2) (kh : ∀ x ∈ hs, KOk 2 x) : ∀ {h h' : Nat} {own : List Kd} {kd : Kd} {one other : Tm}, (∀ x ∈ own, KOk 2 x) → KOk 2 kd → DT s hs h own kd one → WT s hs' h' own kd other → h' ≤ 60 → RdOk h one other
  | 0, _, _, _, _, _, _, _, q, _, _ => q.elim
  | h + 1, 0, _, _, _, _, _, _, _, q, _ => q.elim
  | h + 1, h' + 1, own, .mk a z, .mk n hd ps, .mk n' hd' qs, ko, kk, ⟨q1, a', q2, q3, q4, q5⟩, ⟨r1, b', r2, r3, _, r5⟩, hh => by
    have ko2 : ∀ x ∈ own ++ a, KOk 2 x := fun x hx => by
      rcases List.mem_append.mp hx with hx | hx
      · exact ko x hx
      · exact (kk.2.2 x hx).succ
    refine ⟨fun ⟨i, e⟩ => ?_, fun ni => ?_⟩
    · obtain ⟨ms, m1, m2, m3⟩ := q4 i e
      refine ⟨⟨own ++ a, a', ms, m2, m1, q3, ?_, m3⟩, by rw [← r5.length]; exact r3, fun y hy => ?_⟩
      · subst e
        have : KOk 2 (.mk a' z) := hdK_kok ks kh ko2 q2
        exact this.2.2
      · obtain ⟨kd', _, w⟩ := all2_mem r5 hy
        have d := w.depth
        cases h' with
        | zero => exact w.elim
        | succ h' => exact ⟨w.tle.mono (by omega), by omega⟩
    · refine ⟨by rw [q1, r1], by rw [← q5.length]; exact q3, fun e => ?_⟩
      subst e
      have eq : hdK s hs (own ++ a) hd = hdK s hs' (own ++ a) hd := by
        cases hd with
        | b i => rfl
        | c i => rfl
        | h i => exact absurd rfl (ni i)
      have : a' = b' := by
        have := (q2.symm.trans eq).trans r2
        injection this with this
        injection this
      subst this
      refine ⟨by rw [← q5.length, ← r5.length], all2_of_get (by rw [← q5.length, ← r5.length]) fun j x y hx hy => ?_⟩
      obtain ⟨kd1, h1, w1⟩ := all2_nth' q5 hx
      obtain ⟨kd2, h2, w2⟩ := all2_nth' r5 hy
      rw [h1] at h2; cases h2
      have kk2 : KOk 2 (.mk a' z) := by
        cases hd with
        | b i => exact hdK_kok ks kh ko2 q2
        | c i => exact hdK_kok ks kh ko2 q2
        | h i => exact absurd rfl (ni i)
      exact rdok_of ks kh ko2 (kk2.2.2 kd1 (List.mem_of_getElem? h1)).succ w1 w2 (by omega)

mutual
theorem clM_depth (ms : List Nat) : ∀ (d : Int) (x : Tm), (clM ms d x).t.depth = x.t.depth
  | d, .mk n h ps => by
    unfold clM Tm.t
    have := clMs_depth ms (d + n) ps
    simp only [T.depth, depths, hd_depth, this]
theorem clMs_depth (ms : List Nat) : ∀ (d : Int) (x : List Tm), depths (Tm.ts (clMs ms d x)) = depths (Tm.ts x)
  | d, [] => by unfold clMs; rfl
  | d, x :: xs => by
    unfold clMs Tm.ts depths
    rw [clM_depth ms d x, clMs_depth ms d xs]
end
theorem closM_depth {ms : List Nat} {n : Int} {h : Hd} {ps : List Tm} {v : Tm} (e : closM ms (.mk n h ps) = some v) (hd : ∀ y ∈ ps, y.t.depth ≤ 120) : v.t.depth ≤ 150 := by
  have ec : closM ms (.mk n h ps) = if okM ms 0 (.mk 0 h ps) = true then some (.mk ms.length (clH ms 0 h) (clMs ms 0 ps)) else none := rfl
  rw [ec] at e
  split at e
  · cases e
    unfold Tm.t
    simp only [T.depth, depths, hd_depth]
    rw [clMs_depth]
    have : depths (Tm.ts ps) ≤ 120 := by
      rw [tms_map]
      refine depths_le fun x hx => ?_
      obtain ⟨y, hy, rfl⟩ := List.mem_map.mp hx
      exact hd y hy
    omega
  · cases e
def DicOk (kvs : Dic) : Prop := ∀ (i : Int) t, lookT kvs (.inl i) = some t → ∃ tm : Tm, t = tm.t
theorem DicOk.put {kvs : Dic} (h : DicOk kvs) (i : Int) (v : Tm) : DicOk (putT kvs (.inl i) v.t) := by
  intro j t e
  rw [lookT_put] at e
  split at e
  · cases e; exact ⟨v, rfl⟩
  · exact h j t e
mutual
theorem rd_ok : ∀ (one other : Tm) (kvs : Dic), DicOk kvs → DicOk (rdM one other kvs).2 ∧ (rdM one other kvs).2.length ≤ kvs.length + tsz one
  | .mk n (.h i) ps, o, kvs, d => by
    unfold rdM
    rw [tsz_mk]
    cases e : closM (msOf ps) o with
    | none => exact ⟨d, by simp only; omega⟩
    | some v =>
      simp only
      cases e2 : lookT kvs (.inl i) with
      | some t => exact ⟨d, by simp only; omega⟩
      | none =>
        have := putT_len (.inl i) v.t kvs
        exact ⟨d.put i v, by simp only; omega⟩
  | .mk n (.b i) ps, .mk _ h' qs, kvs, d => by
    unfold rdM
    rw [tsz_mk]
    split
    · have := rd_oks ps qs kvs d; rw [tszs_sum] at this; exact ⟨this.1, by omega⟩
    · exact ⟨d, by simp only; omega⟩
  | .mk n (.c i) ps, .mk _ h' qs, kvs, d => by
    unfold rdM
    rw [tsz_mk]
    split
    · have := rd_oks ps qs kvs d; rw [tszs_sum] at this; exact ⟨this.1, by omega⟩
    · exact ⟨d, by simp only; omega⟩
theorem rd_oks : ∀ (ps qs : List Tm) (kvs : Dic), DicOk kvs → DicOk (rdMs ps qs kvs).2 ∧ (rdMs ps qs kvs).2.length ≤ kvs.length + tszs ps
  | [], qs, kvs, d => by unfold rdMs; exact ⟨d, by simp only; omega⟩
  | p :: ps, [], kvs, d => by unfold rdMs; exact ⟨d, by simp only; omega⟩
  | p :: ps, q :: qs, kvs, d => by
    unfold rdMs tszs
    have h1 := rd_ok p q kvs d
    have h2 := rd_oks ps qs _ h1.1
    exact ⟨h2.1, by simp only; omega⟩
end
theorem sum_take : ∀ (l : List Tm) (j : Nat) (h : j < l.length), ((l.take j).map tsz).sum + tsz l[j] ≤ (l.map tsz).sum
  | x :: l, 0, _ => by simp
  | x :: l, j + 1, h => by
    have := sum_take l j (by simpa using h)
    simp only [List.take_succ_cons, List.map_cons, List.sum_cons, List.getElem_cons_succ]
    omega
theorem bls_self : ∀ bs : List Bool, blsOf (bs.map T.bl) = some bs
  | [] => rfl
  | b :: bs => by
    show (blsOf (bs.map T.bl)).map (b :: ·) = _
    rw [bls_self bs]; rfl
theorem longs_nums {own a : List Kd} {ms : List Nat} (h : All2 (NumOk own) a ms) : (longs a ms).map (fun p => T.int (numT p)) = ms.map natT := by
  unfold longs
  induction h with
  | nil => rfl
  | cons _ _ ih => rw [List.zipWith_cons_cons, List.map_cons, List.map_cons, ih, num_long]; rfl
structure RdX where
  one : Tm
  other : Tm
  f : Addr
  kvs : Dic
def inRd (x : RdX) : List T := [x.one.t, x.other.t, .ref x.f]
structure RdP (k c : Nat) (x : RdX) (μ : Mu) : Prop where
  e : μ x.f = some (.dic x.kvs)
  ok : ∃ h, RdOk h x.one x.other ∧ h + c ≤ k
  dk : DicOk x.kvs
  ln : x.kvs.length + tsz x.one < 900000
theorem inRd_inj {k c : Nat} (x y : RdX) (μ : Mu) (e : inRd x = inRd y) (p : RdP k c x μ) (p' : RdP k c y μ) : x = y := by
  obtain ⟨a, b, d, f⟩ := x
  obtain ⟨a', b', d', f'⟩ := y
  simp only [inRd, List.cons.injEq, T.ref.injEq, and_true] at e
  obtain ⟨e1, e2, rfl⟩ := e
  have := p.e.symm.trans p'.e
  simp only [Option.some.injEq, MO.dic.injEq] at this
  rw [this, Tm.inj e1, Tm.inj e2]
def cRd (k : Nat) : TV.Con := mkC inRd (RdP k 70) (fun x μ t μ' => ExtX (fun b => b = x.f) μ μ' ∧ t = .bl (rdM x.one x.other x.kvs).1 ∧ μ' x.f = some (.dic (rdM x.one x.other x.kvs).2))
theorem len_cl (ms : List Nat) (d : Int) (ps : List Tm) : (clMs ms d ps).length = ps.length := by rw [clMs_map, List.length_map]
theorem rdMs_snoc : ∀ (ps qs : List Tm) (p q : Tm) (kvs : Dic), ps.length = qs.length → rdMs (ps ++ [p]) (qs ++ [q]) kvs = ((rdMs ps qs kvs).1 && (rdM p q (rdMs ps qs kvs).2).1, (rdM p q (rdMs ps qs kvs).2).2)
  | [], [], p, q, kvs, _ => by simp [rdMs]
  | x :: ps, y :: qs, p, q, kvs, e => by
    rw [List.cons_append, List.cons_append, rdMs, rdMs_snoc ps qs p q _ (by simpa using e), rdMs]
    simp [Bool.and_assoc]
  | [], _ :: _, _, _, _, e => by cases e
  | _ :: _, [], _, _, _, e => by cases e
theorem v_law_read (h1 : Φ .law_read = cRd k) (h2 : Φ .law_named = cNm k) (h3 : Φ .law_number = cNu k) (x : RdX) (μ : Mu) (pp : RdP k 69 x μ) (post : T → Mu → Prop)
    (q : ∀ μ', ExtX (fun b => b = x.f) μ μ' → μ' x.f = some (.dic (rdM x.one x.other x.kvs).2) → post (.bl (rdM x.one x.other x.kvs).1) μ') : wSs Φ b_law_read (endsOf post) (startT 8 (inRd x)) μ := by
  obtain ⟨one, other, f, kvs⟩ := x
  obtain ⟨e, ⟨h, ok, hk⟩, dk, ln⟩ := pp
  obtain ⟨n, hd, ps⟩ := one
  obtain ⟨n', hd', qs⟩ := other
  cases h with
  | zero => exact ok.elim
  | succ h =>
  dsimp only at *
  obtain ⟨okh, okn⟩ := ok
  refine (show wSs Φ _ _ (startT 8 [(Tm.mk n hd ps).t, (Tm.mk n' hd' qs).t, .ref f]) μ from ?_)
  rw [tm_t n hd, tm_t n' hd']
  have plain : (∀ i, hd ≠ .h i) → (rdM (.mk n hd ps) (.mk n' hd' qs) kvs = if hd = hd' then rdMs ps qs kvs else (false, kvs)) → wSs Φ (Ss.drop 1 b_law_read) (endsOf post) [some (.tup [.int n, hd.t, .tup (ps.map Tm.t)]), some (.tup [.int n', hd'.t, .tup (qs.map Tm.t)]), some (.ref f), none, none, none, none, none] μ := by
    intro ni er
    rw [er] at q
    obtain ⟨rfl, lp3, okc⟩ := okn ni
    refine v_step rfl ?_
    walk_at "wgo"
    refine ite_ff (by simp) ?_
    walk_at "wgo"
    refine c_ne (eqok_left (hd_pure _) (hd_pure _) (by rw [hd_depth]; omega)) ?_
    refine ⟨_, rfl, ?_⟩
    by_cases eh : hd = hd'
    · rw [if_pos eh] at q
      obtain ⟨ll, all⟩ := okc eh
      refine ite_ff (by rw [(peq_hd _ _).mpr eh]; rfl) ?_
      walk_at "wgo"
      refine ite_ff (by simp [ll]) ?_
      walk_at "wgo"
      refine v_step rfl ?_
      walk_at "wgo"
      rw [List.length_map]
      refine ⟨⟨by omega, by omega⟩, fun D hD => ?_⟩
      have nD : f ≠ D := ne_of_new hD e
      refine lcT_ind (f := fun (j : Nat) => T.int (j : Int)) (wE_mono _) (fun b => b = f) (fun d a μ' => d.length ≤ ps.length ∧ (d = List.range d.length) ∧ μ' f = some (.dic (rdMs (ps.take d.length) (qs.take d.length) kvs).2) ∧ ∃ bs : List Bool, a = bs.map T.bl ∧ bs.all id = (rdMs (ps.take d.length) (qs.take d.length) kvs).1) hD nD.symm ⟨Nat.zero_le _, rfl, by simp [rdMs, e], [], rfl, by simp [rdMs]⟩ (fun d a μ' o ⟨i1, i2, i3, i4⟩ => ⟨i1, i2, by rw [mset_ne nD]; exact i3, i4⟩) (fun _ _ _ _ _ => trivial) (by rw [line_eq]; simp; omega) (fun d j r a μ2 ed la ex2 ⟨i1, i2, i3, bs, i4, i5⟩ => ?_) fun a μ2 ex2 ⟨i1, i2, i3, bs, i4, i5⟩ hl2 => ?_
      · have hj : j = d.length ∧ j < ps.length := by
          have e1 : (List.range ((ps.length : Nat) : Int).toNat)[d.length]? = some j := by rw [ed]; simp
          rw [Int.toNat_natCast] at e1
          have := (List.getElem?_eq_some_iff.mp e1).1
          simp at this
          rw [List.getElem?_range this] at e1
          cases e1
          exact ⟨rfl, this⟩
        obtain ⟨rfl, hj⟩ := hj
        have hj2 : d.length < qs.length := by omega
        walk_at "wgo"
        refine x_tup (t := (ps[d.length]).t) (L2.atI_nat (by rw [List.getElem?_map, List.getElem?_eq_getElem hj]; rfl)) ?_
        walk_at "wgo"
        refine x_tup (t := (qs[d.length]).t) (L2.atI_nat (by rw [List.getElem?_map, List.getElem?_eq_getElem hj2]; rfl)) ?_
        walk_at "wgo"
        have okj : RdOk h ps[d.length] qs[d.length] := by
          obtain ⟨y, hy, p⟩ := all2_nth all (List.getElem?_eq_getElem hj)
          rw [List.getElem?_eq_getElem hj2] at hy; cases hy
          exact p
        have dk2 := rd_oks (ps.take d.length) (qs.take d.length) kvs dk
        have wt := sum_take ps d.length hj
        rw [← tszs_sum] at wt
        rw [tsz_mk] at ln
        refine call_mk h1 ⟨ps[d.length], qs[d.length], f, (rdMs (ps.take d.length) (qs.take d.length) kvs).2⟩ rfl ⟨i3, ⟨h, okj, by omega⟩, dk2.1, by dsimp only; omega⟩ fun t μ3 ⟨e3, et, ef⟩ => ?_
        dsimp only at e3 et ef
        have sn := rdMs_snoc (ps.take d.length) (qs.take d.length) ps[d.length] qs[d.length] kvs (by simp; omega)
        rw [List.take_append_getElem, List.take_append_getElem] at sn
        refine ⟨e3, by simp; omega, ?_, ?_, bs ++ [(rdM ps[d.length] qs[d.length] (rdMs (ps.take d.length) (qs.take d.length) kvs).2).1], by rw [i4, et]; simp, ?_⟩
        · rw [List.length_append, List.length_singleton, List.range_succ, ← i2]
        · rw [List.length_append, List.length_singleton, sn]; exact ef
        · rw [List.length_append, List.length_singleton, sn, List.all_append, i5]; simp
      · walk_at "wgo"
        refine b_all (l := a) (bs := bs) hl2 (by rw [i4]; exact bls_self bs) ?_
        have ed : (List.range ((ps.length : Nat) : Int).toNat).length = ps.length := by simp
        rw [ed, List.take_length, ll, List.take_length] at i3 i5
        rw [i5]
        exact q μ2 ex2 i3
    · rw [if_neg eh] at q
      have : peq hd.t hd'.t = false := by
        cases hp : peq hd.t hd'.t with
        | false => rfl
        | true => exact absurd ((peq_hd _ _).mp hp) eh
      refine ite_tt (by rw [this]; rfl) ?_
      walk_at "wgo"
      exact q μ ExtX.refl e
  refine v_step rfl ?_
  walk_at "wgo"
  cases hd with
  | b i =>
    refine x_tup (l := [.str "b", .int i]) rfl ?_
    walk_at "wgo"
    exact plain (fun _ z => by cases z) (by rw [rdM])
  | c i =>
    refine x_tup (l := [.str "c", .str i]) rfl ?_
    walk_at "wgo"
    exact plain (fun _ z => by cases z) (by rw [rdM])
  | h i =>
    refine x_tup (l := [.str "h", .int i]) rfl ?_
    obtain ⟨⟨own, a, ms, nm, nd, la, ka, rfl⟩, lq, tq⟩ := okh ⟨i, rfl⟩
    walk_at "wgo"
    intro D hD
    have nD : f ≠ D := ne_of_new hD e
    have lm := nm.length
    have lps : (longs a ms).length ≤ 3 := by unfold longs; rw [List.length_zipWith]; omega
    refine lcT_pure (f := Tm.t) (wE_mono _) (fun p => T.int (numT p)) hD (fun _ _ => trivial) (by rw [line_eq]; omega) (fun p hp μ1 e1 => ?_) fun μ1 e1 hl1 => ?_
    · have : ∃ n1 i1 ps1, p = .mk n1 (.b i1) ps1 := by
        unfold longs at hp
        obtain ⟨j, hj⟩ := List.getElem?_of_mem hp
        rw [List.getElem?_zipWith] at hj
        split at hj
        · rename_i kd m _ _
          cases hj
          obtain ⟨a0, z0⟩ := kd
          exact ⟨_, _, _, long1 _⟩
        · cases hj
      obtain ⟨n1, i1, ps1, rfl⟩ := this
      walk_at "wgo"
      refine call_mk h3 ⟨n1, i1, ps1⟩ rfl (by omega) fun t μ2 ⟨e2, et⟩ => ?_
      exact ⟨e2, et⟩
    · have en := longs_nums nm
      rw [en] at hl1
      walk_at "wgo"
      refine call_mk h2 ⟨hd', qs, D, ms, 0⟩ rfl ⟨hl1, 60, by dsimp only; omega, fun y hy => (tq y hy).1, fun _ => by omega, by omega⟩ fun t μ2 ⟨e2, et⟩ => ?_
      dsimp only at et
      have ef := Ext.at e2 (Ext.at e1 e)
      have ex : ExtX (fun b => b = f) μ μ2 := (Ext.any e1).trans (Ext.any e2)
      have er : rdM (.mk n (.h i) (longs a ms)) (.mk n' hd' qs) kvs = match closM ms (.mk n' hd' qs) with
        | none => (false, kvs)
        | some v => match lookT kvs (.inl i) with
          | some t => (peq t v.t, kvs)
          | none => (true, putT kvs (.inl i) v.t) := by rw [rdM, msOf_longs nm]
      have ec : closM ms (.mk n' hd' qs) = if (okH ms 0 hd' && okMs ms 0 qs) = true then some (.mk ms.length (clH ms 0 hd') (clMs ms 0 qs)) else none := rfl
      rw [er] at q
      by_cases okp : (okH ms 0 hd' && okMs ms 0 qs) = true
      · rw [if_pos okp] at et ec
        obtain ⟨r, rfl, hr, el⟩ := et
        have dv := closM_depth ec fun y hy => (tq y hy).2
        rw [ec] at q
        simp only at q
        walk_at "wgo"
        refine b_len (len_lst (Ext.at e2 hl1)) ?_
        rw [List.length_map]
        walk_at "wgo"
        refine x_lst el rfl ?_
        walk_at "wgo"
        refine x_lst el rfl ?_
        walk_at "wgo"
        refine ⟨by rw [line_eq]; simp, ?_⟩
        have hvT := tm_t ms.length (clH ms 0 hd') (clMs ms 0 qs)
        generalize Tm.mk ms.length (clH ms 0 hd') (clMs ms 0 qs) = v at dv q hvT
        walk_at "wgo"
        refine ⟨⟨_, ef⟩, ?_⟩
        walk_at "wgo"
        refine x_tup (l := [.str "h", .int i]) rfl ?_
        walk_at "wgo"
        rw [← hvT]
        refine m_setd ef rfl (by omega) (fun t ht => ?_) fun hn => ?_
        · obtain ⟨tm, rfl⟩ := dk i t ht
          rw [ht] at q
          walk_at "wgo"
          refine c_eq (eqok_right (tm_pure _) (tm_pure _) dv) ?_
          exact q μ2 ex ef
        · rw [hn] at q
          walk_at "wgo"
          refine c_eq (eqok_right (tm_pure _) (tm_pure _) dv) ?_
          rw [(peq_tm v v).mpr rfl]
          exact q _ (ex.trans (ExtX.own rfl)) mset_same
      · rw [if_neg okp] at et ec
        subst et
        rw [ec] at q
        walk_at "wgo"
        exact q μ2 ex ef
/-- _law_more -/
structure MoX where
  vs : List Tm
  os : List Tm
  m : Nat
def inMo (x : MoX) : List T := [.tup (x.vs.map Tm.t), .tup (x.os.map Tm.t), .int x.m]
theorem inMo_inj (x y : MoX) (e : inMo x = inMo y) : x = y := by
  obtain ⟨a, b, c⟩ := x
  obtain ⟨a', b', c'⟩ := y
  simp only [inMo, List.cons.injEq, T.tup.injEq, T.int.injEq, and_true] at e
  obtain ⟨e1, e2, e3⟩ := e
  have : c = c' := by omega
  rw [tms_inj e1, tms_inj e2, this]
structure MoP (k c : Nat) (x : MoX) : Prop where
  ll : x.vs.length = x.os.length
  l3 : x.vs.length ≤ 3
  m3 : x.m ≤ 900000
  ok : ∃ h, All2 (RdOk h) x.vs x.os ∧ h + c ≤ k
  sz : (x.vs.map tsz).sum < 800000
  hk : c ≤ k
def cMo (k : Nat) : TV.Con := mkC inMo (fun x _ => MoP k 71 x) (fun x μ t μ' => Ext μ μ' ∧ t = resT (consMs x.vs x.os) x.m)
theorem consMs_snoc : ∀ (ps qs : List Tm) (p q : Tm), ps.length = qs.length → consMs (ps ++ [p]) (qs ++ [q]) = match consMs ps qs, consM p q with
    | some a, some b => some (a ++ b)
    | _, _ => none
  | [], [], p, q, _ => by
    simp only [List.nil_append, consMs]
    cases consM p q <;> simp
  | x :: ps, y :: qs, p, q, e => by
    rw [List.cons_append, List.cons_append, consMs, consMs_snoc ps qs p q (by simpa using e), consMs]
    cases consM x y with
    | none => simp
    | some a =>
      cases consMs ps qs with
      | none => simp
      | some b => cases consM p q <;> simp
  | [], _ :: _, _, _, e => by cases e
  | _ :: _, [], _, _, e => by cases e
theorem v_law_more (h1 : Φ .law_read = cRd k) (x : MoX) (μ : Mu) (pp : MoP k 70 x) (post : T → Mu → Prop) (q : ∀ μ', Ext μ μ' → post (resT (consMs x.vs x.os) x.m) μ') : wSs Φ b_law_more (endsOf post) (startT 5 (inMo x)) μ := by
  obtain ⟨vs, os, m⟩ := x
  obtain ⟨ll, l3, m3, ⟨h, ok, hk⟩, sz, hk2⟩ := pp
  dsimp only at *
  refine (show wSs Φ _ _ (startT 5 [.tup (vs.map Tm.t), .tup (os.map Tm.t), .int m]) μ from ?_)
  refine v_step rfl ?_
  walk_at "wgo"
  intro p hp
  refine v_step rfl ?_
  walk_at "wgo"
  rw [List.length_map]
  refine ⟨⟨by omega, by omega⟩, ?_⟩
  rw [Int.toNat_natCast]
  refine forT_inv (f := fun (j : Nat) => T.int (j : Int)) (wSs_mono _) (fun rest τ μ' => ∃ (d : Nat) (C : Cst) (kvs : Dic) (v4 : Option T), List.range vs.length = List.range d ++ rest ∧ d ≤ vs.length ∧ τ = [some (.tup (vs.map Tm.t)), some (.tup (os.map Tm.t)), some (.int m), some (.ref p), v4] ∧ Ext μ μ' ∧ μ' p = some (.dic kvs) ∧ consMs (vs.take d) (os.take d) = some C ∧ RepC C kvs ∧ Cns C ∧ DicOk kvs ∧ kvs.length ≤ ((vs.take d).map tsz).sum) (fun _ _ _ _ => trivial) ?_ ?_ (List.range vs.length) _ _ ⟨0, [], [], none, rfl, Nat.zero_le _, rfl, ExtX.new hp, mset_same, by simp [consMs], fun i => rfl, (fun p hp => by cases hp), (fun i t e => by cases e), by simp⟩
  · rintro τ μ' ⟨d, C, kvs, v4, e0, ld, rfl, e1, hl, ec, rc, cc, dk, ln⟩
    have ed : d = vs.length := by
      have := congrArg List.length e0
      simp at this; omega
    subst ed
    rw [List.take_length, ll, List.take_length] at ec
    refine v_step rfl ?_
    walk_at "wgo"
    refine ⟨⟨by omega, by omega⟩, fun D hD => ?_⟩
    have er : resT (consMs vs os) m = .tup ((List.range m).map fun (j : Nat) => optT (C.lookup (j : Int))) := by
      rw [ec]
      unfold resT
      simp only
      rw [if_pos cc]
    rw [er] at q
    refine lcT_pure (f := fun (j : Nat) => T.int (j : Int)) (wE_mono _) (fun (j : Nat) => optT (C.lookup (j : Int))) hD (fun _ _ => trivial) (by rw [line_eq]; simp; omega) (fun j hj μ2 e2 => ?_) fun μ2 e2 hl2 => ?_
    · walk_at "wgo"
      refine ⟨⟨_, Ext.at e2 hl⟩, ?_⟩
      walk_at "wgo"
      refine m_get2 (Ext.at e2 hl) rfl ?_
      refine ⟨ExtX.refl, ?_⟩
      rw [rc]
      cases C.lookup (j : Int) <;> rfl
    · walk_at "wgo"
      refine b_tuple (items_lst hl2) ?_
      rw [Int.toNat_natCast]
      exact q μ2 (e1.trans e2)
  · rintro j rest τ μ' ⟨d, C, kvs, v4, e0, ld, rfl, e1, hl, ec, rc, cc, dk, ln⟩
    have hj : j = d ∧ d < vs.length := by
      have h0 : (List.range vs.length)[d]? = some j := by rw [e0]; simp
      have := (List.getElem?_eq_some_iff.mp h0).1
      simp at this
      rw [List.getElem?_range this] at h0
      cases h0
      exact ⟨rfl, this⟩
    obtain ⟨rfl, hj⟩ := hj
    have hj2 : j < os.length := by omega
    have okj : RdOk h vs[j] os[j] := by
      obtain ⟨y, hy, p⟩ := all2_nth ok (List.getElem?_eq_getElem hj)
      rw [List.getElem?_eq_getElem hj2] at hy; cases hy
      exact p
    have tk : vs.take (j + 1) = vs.take j ++ [vs[j]] := by rw [List.take_append_getElem]
    have tk2 : os.take (j + 1) = os.take j ++ [os[j]] := by rw [List.take_append_getElem]
    have sn := consMs_snoc (vs.take j) (os.take j) vs[j] os[j] (by simp; omega)
    rw [← tk, ← tk2, ec] at sn
    have wt := sum_take vs j hj
    have wt2 : ((vs.take (j + 1)).map tsz).sum = ((vs.take j).map tsz).sum + tsz vs[j] := by rw [tk, List.map_append, List.sum_append]; simp
    walk_at "wgo"
    refine x_tup (t := (vs[j]).t) (L2.atI_nat (by rw [List.getElem?_map, List.getElem?_eq_getElem hj]; rfl)) ?_
    walk_at "wgo"
    refine x_tup (t := (os[j]).t) (L2.atI_nat (by rw [List.getElem?_map, List.getElem?_eq_getElem hj2]; rfl)) ?_
    walk_at "wgo"
    refine call_mk h1 ⟨vs[j], os[j], p, kvs⟩ rfl ⟨hl, ⟨h, okj, hk⟩, dk, by dsimp only; omega⟩ fun t μ2 ⟨e2, et, ef⟩ => ?_
    dsimp only at e2 et ef
    subst et
    have ex2 : Ext μ μ2 := fun b o nb eb => e2 b o (fun z => by
      have z : b = p := z
      subst z; rw [hp] at eb; cases eb) (Ext.at e1 eb)
    obtain ⟨sp1, sp2⟩ := rd_spec vs[j] os[j] C kvs rc cc
    have sz2 := rd_ok vs[j] os[j] kvs dk
    walk_at "wgo"
    cases hb : (rdM vs[j] os[j] kvs).1 with
    | true =>
      obtain ⟨B, eB, rB, cB⟩ := sp1 hb
      rw [eB] at sn
      walk_at "wgo"
      refine ⟨j + 1, C ++ B, _, _, ?_, hj, rfl, ex2, ef, sn, rB, cB, sz2.1, by omega⟩
      rw [e0, List.range_succ]; simp
    | false =>
      walk_at "wgo"
      have er : resT (consMs vs os) m = .non := by
        have sp := sp2 hb
        cases ea : consMs vs os with
        | none => rfl
        | some A =>
          have key : ∀ (ps qs : List Tm) (i : Nat) (A : Cst), ps.length = qs.length → consMs ps qs = some A → ∃ A1, consMs (ps.take i) (qs.take i) = some A1 ∧ ∀ x ∈ A1, x ∈ A := by
            intro ps
            induction ps with
            | nil => intro qs i A _ e; simp at e ⊢; simp [consMs]
            | cons p ps ih =>
              intro qs i A le e
              cases qs with
              | nil => cases le
              | cons q qs =>
                cases i with
                | zero => simp [consMs]
                | succ i =>
                  rw [consMs] at e
                  cases e1 : consM p q with
                  | none => rw [e1] at e; cases e
                  | some a =>
                    rw [e1] at e
                    simp only at e
                    cases e2 : consMs ps qs with
                    | none => rw [e2] at e; cases e
                    | some b =>
                      rw [e2] at e
                      cases e
                      obtain ⟨A1, f1, f2⟩ := ih qs i b (by simpa using le) e2
                      refine ⟨a ++ A1, by rw [List.take_succ_cons, List.take_succ_cons, consMs, e1, f1], fun x hx => ?_⟩
                      rcases List.mem_append.mp hx with g | g
                      · exact List.mem_append_left _ g
                      · exact List.mem_append_right _ (f2 x g)
          obtain ⟨A1, f1, f2⟩ := key vs os (j + 1) A ll ea
          rw [f1] at sn
          unfold resT
          simp only
          rw [if_neg]
          intro cA
          cases eB : consM vs[j] os[j] with
          | none => rw [eB] at sn; cases sn
          | some B =>
            rw [eB] at sn
            cases sn
            exact sp B eB (cA.sub f2)
      rw [er] at q
      exact q μ2 ex2
end K07

namespace K07
open PySem PySem.Spec TV
open L2 (ixN atI Key)
variable {Φ : Fn → TV.Con} {k : Nat}
/-! more_of -/
theorem bd_hd (hd : Hd) : Bd hd.t := ⟨hd_pure hd, by rw [hd_depth]; decide, by cases hd <;> exact (by decide : (2 : Nat) ≤ 100)⟩
structure Ent4 where
  own : List Kd
  kd : Kd
  one : Tm
  other : Tm
def e4T (e : Ent4) : T := .tup [.tup (e.own.map Kd.t), e.kd.t, e.one.t, e.other.t]
def e4P (e : Ent4) : Tm × Tm := (e.one, e.other)
structure Ty4 (s : Sig) (new last : List Kd) (e : Ent4) : Prop where
  ko : ∀ x ∈ e.own, KOk 2 x
  kk : KOk 2 e.kd
  ty : ∃ h h', DT s new h e.own e.kd e.one ∧ WT s last h' e.own e.kd e.other ∧ h' ≤ 50 ∧ e.own.length + 3 * h ≤ 900
  sz : tsz e.other ≤ 100000
structure MrX where
  s : Sig
  old : List Kd
  new : List Kd
  vs : List Tm
  os : List Tm
def inMr (x : MrX) : List T := [sigT x.s, .tup (x.old.map Kd.t), .tup (x.new.map Kd.t), .tup (x.vs.map Tm.t), .tup (x.os.map Tm.t)]
theorem inMr_inj (x y : MrX) (e : inMr x = inMr y) : x = y := by
  obtain ⟨a, b, c, d, f⟩ := x
  obtain ⟨a', b', c', d', f'⟩ := y
  simp only [inMr, List.cons.injEq, T.tup.injEq, and_true] at e
  obtain ⟨e1, e2, e3, e4, e5⟩ := e
  rw [sigT_inj e1, kds_inj e2, kds_inj e3, tms_inj e4, tms_inj e5]
structure MrP (k c : Nat) (x : MrX) : Prop where
  hk : c ≤ k
  so : SigOk x.s
  kn : ∀ y ∈ x.new, KOk 2 y
  ln : x.new.length ≤ 900000
  lo : x.old.length ≤ 3
  l1 : x.vs.length = x.old.length
  l2 : x.os.length = x.old.length
  ty : ∃ last, ∀ j < x.old.length, Ty4 x.s x.new last ⟨[], x.old[j]?.getD kA, x.vs[j]?.getD (.mk 0 (.b 0) []), x.os[j]?.getD (.mk 0 (.b 0) [])⟩
  oc : ∀ j : Nat, j < x.new.length → occTs j x.vs = true
  sz : (x.vs.map tsz).sum < 800000
def cMr (k : Nat) : TV.Con := mkC inMr (fun x _ => MrP k 10 x) (fun x μ t μ' => Ext μ μ' ∧ t = resT (consMs x.vs x.os) x.new.length)
theorem RepC.put {D : Cst} {kvs : Dic} {i : Int} {v : Tm} (r : RepC D kvs) (e : D.lookup i = none ∨ D.lookup i = some v) : RepC (D ++ [(i, v)]) (putT kvs (.inl i) v.t) := by
  intro j
  rw [lookT_put, look_snoc, r j]
  by_cases h : i = j
  · subst h
    rw [if_pos rfl]
    rcases e with e | e <;> rw [e] <;> simp
  · rw [if_neg (fun z => h (Sum.inl.inj z)), if_neg h]
    cases D.lookup j <;> rfl
mutual
theorem occ_cons (j : Int) : ∀ (one other : Tm) (C : Cst), occT j one = true → consM one other = some C → ∃ v, (j, v) ∈ C
  | .mk n (.h i) ps, o, C, oc, e => by
    unfold occT at oc
    have : i = j := by simpa using oc
    subst this
    unfold consM at e
    cases e2 : closM (msOf ps) o with
    | none => rw [e2] at e; cases e
    | some v => rw [e2] at e; cases e; exact ⟨v, by simp⟩
  | .mk n (.b i) ps, .mk n' h' qs, C, oc, e => by
    unfold occT at oc
    unfold consM at e
    split at e
    · exact occ_conss j ps qs C oc e
    · cases e
  | .mk n (.c i) ps, .mk n' h' qs, C, oc, e => by
    unfold occT at oc
    unfold consM at e
    split at e
    · exact occ_conss j ps qs C oc e
    · cases e
theorem occ_conss (j : Int) : ∀ (ps qs : List Tm) (C : Cst), occTs j ps = true → consMs ps qs = some C → ∃ v, (j, v) ∈ C
  | [], _, _, oc, _ => by unfold occTs at oc; cases oc
  | _ :: _, [], _, _, e => by unfold consMs at e; cases e
  | p :: ps, q :: qs, C, oc, e => by
    unfold occTs at oc
    unfold consMs at e
    cases e1 : consM p q with
    | none => rw [e1] at e; cases e
    | some a =>
      rw [e1] at e
      simp only at e
      cases e2 : consMs ps qs with
      | none => rw [e2] at e; cases e
      | some b =>
        rw [e2] at e
        cases e
        rcases Bool.or_eq_true_iff.mp oc with h | h
        · obtain ⟨v, hv⟩ := occ_cons j p q a h e1
          exact ⟨v, List.mem_append_left _ hv⟩
        · obtain ⟨v, hv⟩ := occ_conss j ps qs b h e2
          exact ⟨v, List.mem_append_right _ hv⟩
end
def wt4 (L : List Ent4) : Nat := (L.map fun e => tsz e.one).sum
theorem wt4_app (A B : List Ent4) : wt4 (A ++ B) = wt4 A + wt4 B := by unfold wt4; simp
theorem wt4_len : ∀ L : List Ent4, L.length ≤ wt4 L
  | [] => by simp [wt4]
  | e :: L => by
    have h1 := wt4_len L
    have h2 := tsz_pos e.one
    have : wt4 (e :: L) = tsz e.one + wt4 L := by simp [wt4]
    rw [List.length_cons, this]; omega
/-- the entries of a node's parts -/
def sub4 (own : List Kd) (a : List Kd) (ps qs : List Tm) : List Ent4 := (List.range ps.length).map fun (j : Nat) => ⟨own, a[j]?.getD kA, ps[j]?.getD (.mk 0 (.b 0) []), qs[j]?.getD (.mk 0 (.b 0) [])⟩
theorem sub4_zip {own a : List Kd} {ps qs : List Tm} (e : ps.length = qs.length) : (sub4 own a ps qs).map e4P = ps.zip qs := by
  refine List.ext_getElem? fun j => ?_
  unfold sub4
  rw [List.getElem?_map, List.getElem?_map]
  by_cases h : j < ps.length
  · have h2 : j < qs.length := by omega
    rw [List.getElem?_range h, List.getElem?_eq_getElem (l := ps.zip qs) (by simp; omega)]
    simp [e4P, h, h2]
  · rw [List.getElem?_eq_none (by simp; omega), List.getElem?_eq_none (by simp; omega)]; rfl
theorem sub4_wt {own a : List Kd} : ∀ {ps qs : List Tm}, wt4 (sub4 own a ps qs) = (ps.map tsz).sum := by
  intro ps qs
  unfold wt4 sub4
  rw [List.map_map]
  have : (List.range ps.length).map ((fun e : Ent4 => tsz e.one) ∘ fun (j : Nat) => ⟨own, a[j]?.getD kA, ps[j]?.getD (.mk 0 (.b 0) []), qs[j]?.getD (.mk 0 (.b 0) [])⟩) = ps.map tsz := by
    refine List.ext_getElem? fun j => ?_
    rw [List.getElem?_map, List.getElem?_map]
    by_cases h : j < ps.length
    · rw [List.getElem?_range h]; simp [h]
    · rw [List.getElem?_eq_none (by simp; omega), List.getElem?_eq_none (by omega)]; rfl
  rw [this]
theorem enum_rng {f : Tm → T} (ps : List Tm) : ((ps.map f).zipIdx.map fun p => T.tup [.int (p.2 : Nat), p.1]) = (List.range ps.length).map fun (j : Nat) => T.tup [.int j, f (ps[j]?.getD (.mk 0 (.b 0) []))] := by
  refine List.ext_getElem? fun j => ?_
  rw [List.getElem?_map, List.getElem?_map, List.getElem?_zipIdx, List.getElem?_map]
  by_cases h : j < ps.length
  · rw [List.getElem?_eq_getElem h, List.getElem?_range h]; simp [h]
  · rw [List.getElem?_eq_none (by omega), List.getElem?_eq_none (l := List.range ps.length) (by simp; omega)]; rfl
theorem enum_rngK (a : List Kd) : ((a.map Kd.t).zipIdx.map fun p => T.tup [.int (p.2 : Nat), p.1]) = (List.range a.length).map fun (j : Nat) => T.tup [.int j, (a[j]?.getD kA).t] := by
  refine List.ext_getElem? fun j => ?_
  rw [List.getElem?_map, List.getElem?_map, List.getElem?_zipIdx, List.getElem?_map]
  by_cases h : j < a.length
  · rw [List.getElem?_eq_getElem h, List.getElem?_range h]; simp [h]
  · rw [List.getElem?_eq_none (by omega), List.getElem?_eq_none (l := List.range a.length) (by simp; omega)]; rfl
theorem atT {ps : List Tm} {j : Nat} (h : j < ps.length) : atI (ps.map Tm.t) (j : Int) = some (ps[j]?.getD (.mk 0 (.b 0) [])).t := by
  refine L2.atI_nat ?_
  rw [List.getElem?_map, List.getElem?_eq_getElem h]
  rfl
theorem v_more_of (h1 : Φ .closed_over = cCo2 k) (h2 : Φ .binders_of = cBs k) (h3 : Φ .type_of_head = cHd 2 k) (x : MrX) (μ : Mu) (pp : MrP k 9 x) (post : T → Mu → Prop) (q : ∀ μ', Ext μ μ' → post (resT (consMs x.vs x.os) x.new.length) μ') : wSs Φ b_more_of (endsOf post) (startT 20 (inMr x)) μ := by
  obtain ⟨s, old, new, vs, os⟩ := x
  obtain ⟨hk, so, kn, ln, lo, l1, l2, ⟨last, ty⟩, oc, sz⟩ := pp
  dsimp only at *
  refine (show wSs Φ _ _ (startT 20 [sigT s, .tup (old.map Kd.t), .tup (new.map Kd.t), .tup (vs.map Tm.t), .tup (os.map Tm.t)]) μ from ?_)
  refine v_step rfl ?_
  walk_at "wgo"
  refine (show biS .dict [.tup (s.map rowT)] μ _ from ?_)
  refine ⟨_, pairs_sig s, fun tb htb => ?_⟩
  have edd := sigD_sig so
  have hdd : dictOf (s.map fun p => ((Sum.inr p.1 : Key), p.2.t)) = sigD (sigT s) := by rw [edd]; unfold sigD sigT at edd; simpa only [pairs_sig, Option.getD_some] using edd
  rw [hdd]
  refine v_step rfl ?_
  walk_at "wgo"
  intro pf hpf
  have ht1 := (mset_ne (o := .dic []) (ne_of_new hpf mset_same)).trans (mset_same (μ := μ) (a := tb) (o := .dic (sigD (sigT s))))
  have hf1 : (mset (mset μ tb (.dic (sigD (sigT s)))) pf (.dic [])) pf = some (.dic []) := mset_same
  have ex1 : Ext μ _ := (ExtX.new (o := .dic (sigD (sigT s))) htb).trans (ExtX.new (o := .dic []) hpf)
  have hpf0 : μ pf = none := by
    cases h : μ pf with
    | none => rfl
    | some o => rw [mset_ne (ne_of_new htb h)] at hpf; rw [h] at hpf; cases hpf
  have ntf : tb ≠ pf := ne_of_new hpf mset_same
  generalize mset (mset μ tb (.dic (sigD (sigT s)))) pf (.dic []) = μ1 at ht1 hf1 ex1 ⊢
  refine v_step rfl ?_
  walk_at "wgo"
  rw [enum_rngK]
  intro pl hpl
  have npt : tb ≠ pl := ne_of_new hpl ht1
  have npf : pf ≠ pl := ne_of_new hpl hf1
  refine lcT_pure (f := fun (j : Nat) => T.tup [.int j, (old[j]?.getD kA).t]) (wE_mono _) (fun (j : Nat) => e4T ⟨[], old[j]?.getD kA, vs[j]?.getD (.mk 0 (.b 0) []), os[j]?.getD (.mk 0 (.b 0) [])⟩) hpl (fun _ _ => trivial) (by rw [line_eq]; simp; omega) (fun j hj μ2 e2 => ?_) fun μ2 e2 hl2 => ?_
  · have hj2 : j < old.length := List.mem_range.mp hj
    walk_at "wgo"
    refine ⟨Nat.zero_le _, ?_⟩
    walk_at "wgo"
    refine x_tup (atT (by omega)) ?_
    walk_at "wgo"
    refine x_tup (atT (by omega)) ?_
    walk_at "wgo"
    refine ⟨by rw [line_eq]; simp, ?_⟩
    exact ⟨ExtX.refl, rfl⟩
  have hl3 : μ2 pl = some (.lst ((sub4 [] old vs os).map e4T)) := by
    rw [hl2]; unfold sub4; rw [List.map_map, l1]; rfl
  have ht2 := Ext.at e2 ht1
  have hf2 := Ext.at e2 hf1
  have exm : Ext μ μ2 := ex1.trans e2
  have hpl0 : μ pl = none := none_of_ext ex1 hpl
  clear hl2
  refine v_step rfl ?_
  have tys : ∀ e ∈ sub4 [] old vs os, Ty4 s new last e := by
    intro e he
    unfold sub4 at he
    obtain ⟨j, hj, rfl⟩ := List.mem_map.mp he
    have hj1 : j < vs.length := List.mem_range.mp hj
    exact ty j (by omega)
  have W0 : wt4 (sub4 [] old vs os) = (vs.map tsz).sum := sub4_wt
  refine v_whl (whl_inv (wT_mono _) (wSs_mono _) (fun n τ μ' => ∃ (L : List Ent4) (D : Cst) (kvs : Dic) (v8 v9 v10 v11 v12 v13 v14 v15 v16 v17 v18 v19 : Option T), n = wt4 L ∧ kvs.length + wt4 L ≤ 800000 ∧ (∀ e ∈ L, Ty4 s new last e) ∧ Same3 (consMs vs os) D (L.map e4P) ∧
    τ = [some (sigT s), some (.tup (old.map Kd.t)), some (.tup (new.map Kd.t)), some (.tup (vs.map Tm.t)), some (.tup (os.map Tm.t)), some (.ref tb), some (.ref pf), some (.ref pl), v8, v9, v10, v11, v12, v13, v14, v15, v16, v17, v18, v19] ∧ Ext μ μ' ∧ μ' tb = some (.dic (sigD (sigT s))) ∧ μ' pf = some (.dic kvs) ∧ μ' pl = some (.lst (L.map e4T)) ∧ RepC D kvs ∧ Cns D ∧ DicOk kvs) ?_ (n := wt4 (sub4 [] old vs os))
    ⟨sub4 [] old vs os, [], [], none, none, none, none, none, none, none, none, none, none, none, none, rfl, by rw [W0]; simp; omega, tys, Same3.start (by omega) (sub4_zip (by omega)), rfl, exm, ht2, hf2, hl3, fun i => rfl, (fun p hp => by cases hp), fun i t e => by cases e⟩)
  clear tys hl3 ht2 hf2 exm ht1 hf1 ex1 e2
  rintro n τ μ3 ⟨L, D, kvs, v8, v9, v10, v11, v12, v13, v14, v15, v16, v17, v18, v19, rfl, wL, tyL, sm, rfl, ex, ht, hf, hl, rc, cc, dk⟩
  walk_at "wgo"
  refine ⟨_, tru_lst hl, ?_⟩
  rcases List.eq_nil_or_concat L with rfl | ⟨L', ent, rfl⟩
  · refine ite_ff rfl ?_
    have er := sm.done cc new.length
    rw [er] at q
    refine v_step rfl ?_
    walk_at "wgo"
    rw [List.length_map]
    refine ⟨⟨by omega, by omega⟩, fun D5 hD5 => ?_⟩
    refine lcT_pure (f := fun (j : Nat) => T.int (j : Int)) (wE_mono _) (fun (j : Nat) => optT (D.lookup (j : Int))) hD5 (fun _ _ => trivial) (by rw [line_eq]; simp; omega) (fun j hj μ5 e5 => ?_) fun μ5 e5 hl5 => ?_
    · have hj2 : j < new.length := by have := List.mem_range.mp hj; omega
      -- each hole is told
      have told : ∃ v, D.lookup (j : Int) = some v := by
        cases eA : consMs vs os with
        | none => rw [eA] at sm; have := sm.2 rfl; cases this
        | some C =>
          rw [eA] at sm
          obtain ⟨CS, e6, st⟩ := sm.1 C rfl
          cases e6
          obtain ⟨v, hv⟩ := occ_conss (j : Int) vs os C (oc j hj2) eA
          cases e7 : D.lookup (j : Int) with
          | some w => exact ⟨w, rfl⟩
          | none => rcases (st _).mp hv with h | h; exact absurd h (lookC_none e7 v); cases h
      obtain ⟨v, hv⟩ := told
      walk_at "wgo"
      refine x_dic (Ext.at e5 hf) rfl (t := v.t) (by rw [rc, hv]; rfl) ?_
      exact ⟨ExtX.refl, by rw [hv]; rfl⟩
    · walk_at "wgo"
      refine b_tuple (items_lst hl5) ?_
      rw [Int.toNat_natCast]
      exact q μ5 (ex.trans e5)
  · rw [List.concat_eq_append] at wL hl sm tyL ⊢
    have tyE := tyL ent (by simp)
    obtain ⟨own, kd, one, other⟩ := ent
    obtain ⟨ko, kk, ⟨h, h', w1, w2, h17, lown⟩, szo⟩ := tyE
    dsimp only at ko kk w1 w2 h17 lown szo
    obtain ⟨a, z⟩ := kd
    obtain ⟨n1, hd1, ps⟩ := one
    cases h with
    | zero => exact w1.elim
    | succ h =>
    cases h' with
    | zero => exact w2.elim
    | succ h' =>
    obtain ⟨n2, hd2, qs⟩ := other
    obtain ⟨q1, a', q2, q3, q4, q5⟩ := w1
    obtain ⟨r1, b', r2, r3, _, r5⟩ := w2
    have w2d : ∀ y ∈ qs, y.t.depth ≤ 120 := by
      intro y hy
      obtain ⟨kd', _, w⟩ := all2_mem r5 hy
      have := w.depth; omega
    have oo : ∀ y ∈ own ++ a, KOk 2 y := fun y hy => by
      rcases List.mem_append.mp hy with hy | hy
      · exact ko y hy
      · exact (kk.2.2 y hy).succ
    have la : a.length ≤ 3 := kk.2.1
    refine ite_tt (by simp) ?_
    walk_at "wgo"
    refine ⟨⟨_, hl⟩, ?_⟩
    walk_at "wgo"
    refine m_pop (l := L'.map e4T) (x := e4T ⟨own, .mk a z, .mk n1 hd1 ps, .mk n2 hd2 qs⟩) (by rw [hl, List.map_append]; rfl) ?_
    refine (show wUn _ (T.tup [.tup (own.map Kd.t), (Kd.mk a z).t, (Tm.mk n1 hd1 ps).t, (Tm.mk n2 hd2 qs).t]) _ _ _ from ?_)
    rw [kd_t, tm_t n1, tm_t n2]
    have np1 : tb ≠ pl := npt
    have ht2 : (mset μ3 pl (.lst (L'.map e4T))) tb = some (.dic (sigD (sigT s))) := by rw [mset_ne np1]; exact ht
    have hf2 : (mset μ3 pl (.lst (L'.map e4T))) pf = some (.dic kvs) := by rw [mset_ne npf]; exact hf
    have hl2 : (mset μ3 pl (.lst (L'.map e4T))) pl = some (.lst (L'.map e4T)) := mset_same
    have ex2 : Ext μ (mset μ3 pl (.lst (L'.map e4T))) := ex.later hpl0
    generalize mset μ3 pl (.lst (L'.map e4T)) = μ4 at ht2 hf2 hl2 ex2 ⊢
    clear ht hf hl ex
    have w0 : wt4 (L' ++ [⟨own, .mk a z, .mk n1 hd1 ps, .mk n2 hd2 qs⟩]) = wt4 L' + (1 + (ps.map tsz).sum) := by rw [wt4_app]; simp [wt4, tsz_mk]
    have tyL' : ∀ e ∈ L', Ty4 s new last e := fun e he => tyL e (List.mem_append_left _ he)
    rw [List.map_append, List.map_singleton] at sm
    have sm : Same3 (consMs vs os) D (L'.map e4P ++ [(.mk n1 hd1 ps, .mk n2 hd2 qs)]) := sm
    walk_at "wgo"
    refine o_addT (by rw [line_eq, List.length_map, List.length_map]; omega) ?_
    rw [← List.map_append]
    walk_at "wgo"
    cases hd1 with
    | h i =>
      refine (show wUn _ (T.tup [.str "h", .int i]) _ _ _ from ?_)
      obtain ⟨ms, m1, m2, m3⟩ := q4 i rfl
      subst m3
      have ka' : KOk 2 (.mk a' z) := hdK_kok so.kd kn oo q2
      have lms := m2.length
      have ec : consM (.mk n1 (.h i) (longs a' ms)) (.mk n2 hd2 qs) = (closM ms (.mk n2 hd2 qs)).map fun v => [(i, v)] := by rw [consM, msOf_longs m2]
      walk_at "wgo"
      refine call_mk h2 ⟨own ++ a, a', ms⟩ rfl ⟨by omega, q3, ka'.2.2, m2, m1, by rw [List.length_append]; omega⟩ fun t μ5 ⟨e5, p5, et, hp5, hl5⟩ => ?_
      subst et
      dsimp only at hl5
      walk_at "wgo"
      refine call_mk h1 ⟨p5, ms, .mk n2 hd2 qs⟩ (by rw [inCo, tm_t]) ⟨by omega, hl5, m1, by dsimp only; omega, by dsimp only; omega⟩ fun t μ6 ⟨e6, et⟩ => ?_
      subst et
      dsimp only
      have ht6 := Ext.at e6 (Ext.at e5 ht2)
      have hf6 := Ext.at e6 (Ext.at e5 hf2)
      have hl6 := Ext.at e6 (Ext.at e5 hl2)
      have ex6 := (ex2.trans e5).trans e6
      cases ev : closM ms (.mk n2 hd2 qs) with
      | none =>
        rw [ev] at ec
        have er := sm.bad ec new.length
        rw [er] at q
        unfold optT
        walk_at "wgo"
        exact q μ6 ex6
      | some v =>
        rw [ev] at ec
        have dv := closM_depth ev w2d
        unfold optT
        walk_at "wgo"
        have nn : isNon v.t = false := by cases v; rfl
        rw [nn]
        walk_at "wgo"
        refine ⟨⟨_, hf6⟩, ?_⟩
        walk_at "wgo"
        refine m_get2 hf6 rfl ?_
        rw [rc i]
        have store : (D.lookup i = none ∨ D.lookup i = some v) → ∀ (τ : TV.Env) (D0 : En), τ[6]? = some (some (.ref pf)) → τ[14]? = some (some (.int i)) → τ[15]? = some (some v.t) → (D0.nx τ (mset μ6 pf (.dic (putT kvs (.inl i) v.t)))) → wSs Φ (.cons (.sub (.var 6) (.var 14) (.var 15)) .nil) D0 τ μ6 := by
          intro hD τ D0 t6 t14 t15 nx
          refine v_cons (v_subD ?_)
          refine w_var t15 ?_
          refine w_var t6 ?_
          refine w_var t14 ?_
          exact ⟨pf, kvs, .inl i, rfl, hf6, rfl, by omega, v_nil (Φ := Φ) nx⟩
        have nx : (D.lookup i = none ∨ D.lookup i = some v) → ∀ τ : TV.Env, (∃ (v8 v9 v10 v11 v12 v13 v14 v15 v16 v17 v18 v19 : Option T), τ = [some (sigT s), some (.tup (old.map Kd.t)), some (.tup (new.map Kd.t)), some (.tup (vs.map Tm.t)), some (.tup (os.map Tm.t)), some (.ref tb), some (.ref pf), some (.ref pl), v8, v9, v10, v11, v12, v13, v14, v15, v16, v17, v18, v19]) → ∃ n', n' < wt4 (L' ++ [⟨own, .mk a z, .mk n1 (.h i) (longs a' ms), .mk n2 hd2 qs⟩]) ∧ ∃ (L : List Ent4) (D : Cst) (kvs0 : Dic) (v8 v9 v10 v11 v12 v13 v14 v15 v16 v17 v18 v19 : Option T), n' = wt4 L ∧ kvs0.length + wt4 L ≤ 800000 ∧ (∀ e ∈ L, Ty4 s new last e) ∧ Same3 (consMs vs os) D (L.map e4P) ∧
            τ = [some (sigT s), some (.tup (old.map Kd.t)), some (.tup (new.map Kd.t)), some (.tup (vs.map Tm.t)), some (.tup (os.map Tm.t)), some (.ref tb), some (.ref pf), some (.ref pl), v8, v9, v10, v11, v12, v13, v14, v15, v16, v17, v18, v19] ∧ Ext μ (mset μ6 pf (.dic (putT kvs (.inl i) v.t))) ∧ (mset μ6 pf (.dic (putT kvs (.inl i) v.t))) tb = some (.dic (sigD (sigT s))) ∧ (mset μ6 pf (.dic (putT kvs (.inl i) v.t))) pf = some (.dic kvs0) ∧ (mset μ6 pf (.dic (putT kvs (.inl i) v.t))) pl = some (.lst (L.map e4T)) ∧ RepC D kvs0 ∧ Cns D ∧ DicOk kvs0 := by
          rintro hD τ ⟨v8, v9, v10, v11, v12, v13, v14, v15, v16, v17, v18, v19, rfl⟩
          have pl1 := putT_len (.inl i) v.t kvs
          refine ⟨wt4 L', by rw [w0]; omega, L', D ++ [(i, v)], putT kvs (.inl i) v.t, _, _, _, _, _, _, _, _, _, _, _, _, rfl, by rw [w0] at wL; omega, tyL', sm.hole ec, rfl, ex6.later hpf0, ?_, mset_same, ?_, rc.put hD, cc.snoc hD, dk.put i v⟩
          · rw [mset_ne ntf]; exact ht6
          · rw [mset_ne npf.symm]; exact hl6
        have vv : peq v.t v.t = true := (peq_tm v v).mpr rfl
        cases hD : D.lookup i with
        | none =>
          simp only [Option.map_none, Option.getD_none]
          walk_at "wgo"
          refine c_ne (eqok_right (tm_pure _) (tm_pure _) dv) ?_
          refine ⟨_, rfl, ?_⟩
          rw [vv]
          refine ite_ff rfl ?_
          refine v_nil ?_
          exact store (.inl hD) _ _ rfl rfl rfl (nx (.inl hD) _ ⟨_, _, _, _, _, _, _, _, _, _, _, _, rfl⟩)
        | some w =>
          simp only [Option.map_some, Option.getD_some]
          walk_at "wgo"
          refine c_ne (eqok_right (tm_pure _) (tm_pure _) dv) ?_
          refine ⟨_, rfl, ?_⟩
          by_cases ew : w = v
          · subst ew
            rw [vv]
            refine ite_ff rfl ?_
            refine v_nil ?_
            exact store (.inr hD) _ _ rfl rfl rfl (nx (.inr hD) _ ⟨_, _, _, _, _, _, _, _, _, _, _, _, rfl⟩)
          · have pw : peq w.t v.t = false := by
              cases hp : peq w.t v.t with
              | false => rfl
              | true => exact absurd ((peq_tm _ _).mp hp) ew
            rw [pw]
            have er := sm.clash ec hD ew new.length
            rw [er] at q
            refine ite_tt rfl ?_
            walk_at "wgo"
            exact q μ6 ex6
    | b i =>
      refine (show wUn _ (T.tup [.str "b", .int i]) _ _ _ from ?_)
      have ec : consM (.mk n1 (.b i) ps) (.mk n2 hd2 qs) = if Hd.b i = hd2 then consMs ps qs else none := by rw [consM]
      walk_at "wgo"
      refine c_ne (eqok_left (hd_pure (.b i)) (hd_pure _) (by rw [hd_depth]; omega)) ?_
      refine ⟨_, rfl, ?_⟩
      by_cases eh : Hd.b i = hd2
      · subst eh
        rw [if_pos rfl] at ec
        refine ite_ff (by rw [(peq_hd _ _).mpr rfl]; rfl) ?_
        walk_at "wgo"
        refine call_Hd h3 (by omega) ht2 (bd_hd (.b i)) fun μ5 e5 => ?_
        rw [hdTy_hdK so q2, kd_t]
        walk_at "wgo"
        have ea : a' = b' := by
          have : hdK s new (own ++ a) (.b i) = hdK s last (own ++ a) (.b i) := rfl
          rw [this, r2] at q2
          injection q2 with q2
          injection q2 with q2 _
          exact q2.symm
        subst ea
        have l1' := q5.length
        have l2' := r5.length
        have ht5 := Ext.at e5 ht2
        have hf5 := Ext.at e5 hf2
        have hl5 := Ext.at e5 hl2
        refine ⟨⟨_, hl5⟩, ?_⟩
        walk_at "wgo"
        rw [enum_rng]
        intro D5 hD5
        refine lcT_pure (f := fun (j : Nat) => T.tup [.int j, (ps[j]?.getD (.mk 0 (.b 0) [])).t]) (wE_mono _) (fun (j : Nat) => e4T ⟨own ++ a, a'[j]?.getD kA, ps[j]?.getD (.mk 0 (.b 0) []), qs[j]?.getD (.mk 0 (.b 0) [])⟩) hD5 (fun _ _ => trivial) (by rw [line_eq]; simp; omega) (fun j hj μ6 e6 => ?_) fun μ6 e6 hl6 => ?_
        · have hj2 : j < ps.length := List.mem_range.mp hj
          walk_at "wgo"
          refine x_tup (hs_at (by omega)) ?_
          walk_at "wgo"
          refine x_tup (atT (by omega)) ?_
          walk_at "wgo"
          refine ⟨by rw [line_eq]; simp, ?_⟩
          exact ⟨ExtX.refl, rfl⟩
        · walk_at "wgo"
          have lw := wt4_len L'
          have lps : (sub4 (own ++ a) a' ps qs).length ≤ 3 := by unfold sub4; simp; omega
          have hl7 : μ6 D5 = some (.lst ((sub4 (own ++ a) a' ps qs).map e4T)) := by rw [hl6]; unfold sub4; rw [List.map_map]; rfl
          refine m_extend (Ext.at e6 hl5) (items_lst hl7) (by rw [line_eq, List.length_map, List.length_map]; omega) ?_
          walk_at "wgo"
          have ws : wt4 (sub4 (own ++ a) a' ps qs) = (ps.map tsz).sum := sub4_wt
          have ka' : KOk 2 (.mk a' z) := hdK_kok so.kd kn oo q2
          refine ⟨wt4 (L' ++ sub4 (own ++ a) a' ps qs), by rw [w0, wt4_app, ws]; omega, L' ++ sub4 (own ++ a) a' ps qs, D, kvs, _, _, _, _, _, _, _, _, _, _, _, _, rfl, by rw [w0] at wL; rw [wt4_app, ws]; omega, fun e he => ?_, ?_, rfl, ?_, ?_, ?_, ?_, rc, cc, dk⟩
          · rcases List.mem_append.mp he with he | he
            · exact tyL' e he
            · unfold sub4 at he
              obtain ⟨j, hj, rfl⟩ := List.mem_map.mp he
              have hj2 : j < ps.length := List.mem_range.mp hj
              have hj3 : j < qs.length := by omega
              have hj4 : j < a'.length := by omega
              rw [List.getElem?_eq_getElem hj2, List.getElem?_eq_getElem hj3, List.getElem?_eq_getElem hj4]
              obtain ⟨y, hy, wy⟩ := all2_nth q5 (List.getElem?_eq_getElem hj4)
              rw [List.getElem?_eq_getElem hj2] at hy; cases hy
              obtain ⟨y, hy, wz⟩ := all2_nth r5 (List.getElem?_eq_getElem hj4)
              rw [List.getElem?_eq_getElem hj3] at hy; cases hy
              refine ⟨oo, (ka'.2.2 _ (List.getElem_mem hj4)).succ, ⟨h, h', wy, wz, by omega, by simp; omega⟩, ?_⟩
              have := sum_take qs j hj3
              rw [tsz_mk] at szo
              have s1 : ((qs.take j).map tsz).sum + tsz qs[j] ≤ (qs.map tsz).sum := this
              show tsz qs[j] ≤ 100000
              omega
          · rw [List.map_append]
            refine sm.parts ?_
            rw [ec, sub4_zip (by omega), consS_zip _ _ (by omega)]
          · exact ((ex2.trans e5).trans e6).later hpl0
          · rw [mset_ne npt]; exact Ext.at e6 ht5
          · rw [mset_ne npf]; exact Ext.at e6 hf5
          · rw [mset_same, List.map_append]
      · rw [if_neg eh] at ec
        have er := sm.bad ec new.length
        rw [er] at q
        have : peq (Hd.b i).t hd2.t = false := by
          cases hp : peq (Hd.b i).t hd2.t with
          | false => rfl
          | true => exact absurd ((peq_hd _ _).mp hp) eh
        refine ite_tt (by rw [this]; rfl) ?_
        walk_at "wgo"
        exact q μ4 ex2
    | c i =>
      refine (show wUn _ (T.tup [.str "c", .str i]) _ _ _ from ?_)
      have ec : consM (.mk n1 (.c i) ps) (.mk n2 hd2 qs) = if Hd.c i = hd2 then consMs ps qs else none := by rw [consM]
      walk_at "wgo"
      refine c_ne (eqok_left (hd_pure (.c i)) (hd_pure _) (by rw [hd_depth]; omega)) ?_
      refine ⟨_, rfl, ?_⟩
      by_cases eh : Hd.c i = hd2
      · subst eh
        rw [if_pos rfl] at ec
        refine ite_ff (by rw [(peq_hd _ _).mpr rfl]; rfl) ?_
        walk_at "wgo"
        refine call_Hd h3 (by omega) ht2 (bd_hd (.c i)) fun μ5 e5 => ?_
        rw [hdTy_hdK so q2, kd_t]
        walk_at "wgo"
        have ea : a' = b' := by
          have : hdK s new (own ++ a) (.c i) = hdK s last (own ++ a) (.c i) := rfl
          rw [this, r2] at q2
          injection q2 with q2
          injection q2 with q2 _
          exact q2.symm
        subst ea
        have l1' := q5.length
        have l2' := r5.length
        have ht5 := Ext.at e5 ht2
        have hf5 := Ext.at e5 hf2
        have hl5 := Ext.at e5 hl2
        refine ⟨⟨_, hl5⟩, ?_⟩
        walk_at "wgo"
        rw [enum_rng]
        intro D5 hD5
        refine lcT_pure (f := fun (j : Nat) => T.tup [.int j, (ps[j]?.getD (.mk 0 (.b 0) [])).t]) (wE_mono _) (fun (j : Nat) => e4T ⟨own ++ a, a'[j]?.getD kA, ps[j]?.getD (.mk 0 (.b 0) []), qs[j]?.getD (.mk 0 (.b 0) [])⟩) hD5 (fun _ _ => trivial) (by rw [line_eq]; simp; omega) (fun j hj μ6 e6 => ?_) fun μ6 e6 hl6 => ?_
        · have hj2 : j < ps.length := List.mem_range.mp hj
          walk_at "wgo"
          refine x_tup (hs_at (by omega)) ?_
          walk_at "wgo"
          refine x_tup (atT (by omega)) ?_
          walk_at "wgo"
          refine ⟨by rw [line_eq]; simp, ?_⟩
          exact ⟨ExtX.refl, rfl⟩
        · walk_at "wgo"
          have lw := wt4_len L'
          have lps : (sub4 (own ++ a) a' ps qs).length ≤ 3 := by unfold sub4; simp; omega
          have hl7 : μ6 D5 = some (.lst ((sub4 (own ++ a) a' ps qs).map e4T)) := by rw [hl6]; unfold sub4; rw [List.map_map]; rfl
          refine m_extend (Ext.at e6 hl5) (items_lst hl7) (by rw [line_eq, List.length_map, List.length_map]; omega) ?_
          walk_at "wgo"
          have ws : wt4 (sub4 (own ++ a) a' ps qs) = (ps.map tsz).sum := sub4_wt
          have ka' : KOk 2 (.mk a' z) := hdK_kok so.kd kn oo q2
          refine ⟨wt4 (L' ++ sub4 (own ++ a) a' ps qs), by rw [w0, wt4_app, ws]; omega, L' ++ sub4 (own ++ a) a' ps qs, D, kvs, _, _, _, _, _, _, _, _, _, _, _, _, rfl, by rw [w0] at wL; rw [wt4_app, ws]; omega, fun e he => ?_, ?_, rfl, ?_, ?_, ?_, ?_, rc, cc, dk⟩
          · rcases List.mem_append.mp he with he | he
            · exact tyL' e he
            · unfold sub4 at he
              obtain ⟨j, hj, rfl⟩ := List.mem_map.mp he
              have hj2 : j < ps.length := List.mem_range.mp hj
              have hj3 : j < qs.length := by omega
              have hj4 : j < a'.length := by omega
              rw [List.getElem?_eq_getElem hj2, List.getElem?_eq_getElem hj3, List.getElem?_eq_getElem hj4]
              obtain ⟨y, hy, wy⟩ := all2_nth q5 (List.getElem?_eq_getElem hj4)
              rw [List.getElem?_eq_getElem hj2] at hy; cases hy
              obtain ⟨y, hy, wz⟩ := all2_nth r5 (List.getElem?_eq_getElem hj4)
              rw [List.getElem?_eq_getElem hj3] at hy; cases hy
              refine ⟨oo, (ka'.2.2 _ (List.getElem_mem hj4)).succ, ⟨h, h', wy, wz, by omega, by simp; omega⟩, ?_⟩
              have := sum_take qs j hj3
              rw [tsz_mk] at szo
              have s1 : ((qs.take j).map tsz).sum + tsz qs[j] ≤ (qs.map tsz).sum := this
              show tsz qs[j] ≤ 100000
              omega
          · rw [List.map_append]
            refine sm.parts ?_
            rw [ec, sub4_zip (by omega), consS_zip _ _ (by omega)]
          · exact ((ex2.trans e5).trans e6).later hpl0
          · rw [mset_ne npt]; exact Ext.at e6 ht5
          · rw [mset_ne npf]; exact Ext.at e6 hf5
          · rw [mset_same, List.map_append]
      · rw [if_neg eh] at ec
        have er := sm.bad ec new.length
        rw [er] at q
        have : peq (Hd.c i).t hd2.t = false := by
          cases hp : peq (Hd.c i).t hd2.t with
          | false => rfl
          | true => exact absurd ((peq_hd _ _).mp hp) eh
        refine ite_tt (by rw [this]; rfl) ?_
        walk_at "wgo"
        exact q μ4 ex2
end K07

namespace K07
open PySem PySem.Spec TV
open L2 (ixN atI Key)
variable {Φ : Fn → TV.Con} {k : Nat}
/-! patterns filled: the binders have other numbers, nothing else -/
def renH (ms : List Nat) (d : Int) : Hd → Hd
  | .b i => if i < d then .b i else .b ((ms[ms.length - 1 - (i - d).toNat]?.getD 0 : Nat) + d)
  | x => x
theorem renH_b (ms : List Nat) (d i : Int) : renH ms d (.b i) = if i < d then .b i else .b ((ms[ms.length - 1 - (i - d).toNat]?.getD 0 : Nat) + d) := rfl
theorem clH_b (ms : List Nat) (d i : Int) : clH ms d (.b i) = if d ≤ i then .b ((placeI ms (i - d)).getD 0 + d) else .b i := rfl
theorem okH_b (ms : List Nat) (d i : Int) : okH ms d (.b i) = if d ≤ i then (posN ms (i - d)).isSome else true := rfl
mutual
def renM (ms : List Nat) : Int → Tm → Tm
  | d, .mk n h ps => .mk n (renH ms (d + n) h) (renMs ms (d + n) ps)
def renMs (ms : List Nat) : Int → List Tm → List Tm
  | _, [] => []
  | d, x :: xs => renM ms d x :: renMs ms d xs
end
theorem renMs_map (ms : List Nat) (d : Int) : ∀ l : List Tm, renMs ms d l = l.map (renM ms d)
  | [] => by unfold renMs; rfl
  | x :: xs => by unfold renMs; rw [renMs_map ms d xs]; rfl
theorem longs_at {own a : List Kd} {ms : List Nat} (h : All2 (NumOk own) a ms) {j : Nat} {kd : Kd} (e : a[j]? = some kd) : ∃ m, ms[j]? = some m ∧ NumOk own kd m ∧ (longs a ms)[j]? = some (longM 1 (.b m) kd) := by
  obtain ⟨m, hm, n⟩ := all2_nth h e
  refine ⟨m, hm, n, ?_⟩
  unfold longs
  rw [List.getElem?_zipWith, e, hm]
theorem longs_len {own a : List Kd} {ms : List Nat} (h : All2 (NumOk own) a ms) : (longs a ms).length = a.length := by
  unfold longs; rw [List.length_zipWith, ← h.length]; omega
theorem bod_ren {s : Sig} {hs own args : List Kd} {ms : List Nat} (so : ∀ p ∈ s, KOk 2 p.2) (ho : ∀ x ∈ hs, KOk 2 x) (ok : ∀ x ∈ args, KOk 1 x) (l3 : args.length ≤ 3) (vs : All2 (NumOk own) args ms) : ∀ (h : Nat) {f : Nat} {D : List Kd} {hd : Hd} {a' : List Kd} {z : Str} {ps : List Tm},
    (∀ x ∈ D, KOk 1 x) → hdK s hs (args ++ D) hd = some (.mk a' z) → a'.length ≤ 3 → All2 (fun k p => WT s hs h (args ++ D) k p) a' ps → h + 5 ≤ f → h ≤ 30 →
    bodM f hd ps (longs args ms) D.length = some (renH ms D.length hd, renMs ms D.length ps) ∧ hdK s hs (own ++ D) (renH ms D.length hd) = some (.mk a' z) ∧ All2 (fun k p => WT s hs h (own ++ D) k p) a' (renMs ms D.length ps)
  | h, 0, _, _, _, _, _, _, _, _, _, e, _ => by omega
  | h, f + 1, D, hd, a', z, ps, hD, eh, la, w, e, h30 => by
    have lt := longs_len vs
    have lms := vs.length
    have kk : ∀ x ∈ a', KOk 1 x := by
      have : KOk 2 (.mk a' z) := hdK_kok (h := 2) so ho (fun x hx => by
        rcases List.mem_append.mp hx with hx | hx
        · exact (ok x hx).succ
        · exact (hD x hx).succ) eh
      exact this.2.2
    have parts : optAll (fun p => witM f p (longs args ms) D.length) ps = some (renMs ms D.length ps) ∧ All2 (fun k p => WT s hs h (own ++ D) k p) a' (renMs ms D.length ps) := by
      have go : ∀ {a' : List Kd} {ps : List Tm}, (∀ x ∈ a', KOk 1 x) → All2 (fun k p => WT s hs h (args ++ D) k p) a' ps → optAll (fun p => witM f p (longs args ms) D.length) ps = some (renMs ms D.length ps) ∧ All2 (fun k p => WT s hs h (own ++ D) k p) a' (renMs ms D.length ps) := by
        intro a' ps kk w
        induction w with
        | nil => exact ⟨rfl, .nil⟩
        | @cons k p ks qs hp _ ih =>
          obtain ⟨e1, e2⟩ := ih fun x hx => kk x (List.mem_cons_of_mem _ hx)
          have k1 := kk k List.mem_cons_self
          obtain ⟨ak, zk⟩ := k
          obtain ⟨n, h2, p2⟩ := p
          cases h with
          | zero => exact hp.elim
          | succ h =>
          obtain ⟨rfl, b', q2, q3, _, q5⟩ := hp
          obtain ⟨e3, e4, e5⟩ := bod_ren so ho ok l3 vs h (f := f) (D := D ++ ak) (hd := h2) (a' := b') (z := zk) (ps := p2) (fun x hx => by
            rcases List.mem_append.mp hx with hx | hx
            · exact hD x hx
            · exact (k1.2.2 x hx).succ) (by rw [← List.append_assoc]; exact q2) q3 (by rw [← List.append_assoc]; exact q5) (by omega) (by omega)
          rw [← List.append_assoc] at e4 e5
          have eD : (D.length : Int) + (ak.length : Nat) = ((D ++ ak).length : Nat) := by rw [List.length_append]; omega
          unfold renMs renM
          rw [eD]
          refine ⟨?_, .cons ⟨rfl, b', e4, q3, trivial, e5⟩ e2⟩
          unfold optAll
          rw [e1]
          rw [witM_eq, eD, e3]
      exact go kk w
    obtain ⟨e1, e2⟩ := parts
    have ld := e2.length
    have lw := w.length
    rw [bodM_eq, if_neg (by omega), e1]
    cases hd with
    | c x => exact ⟨rfl, eh, e2⟩
    | h i => exact ⟨rfl, eh, e2⟩
    | b i =>
      simp only [hdK] at eh
      split at eh
      · rename_i hi
        rw [List.length_append] at hi eh
        by_cases c1 : i < D.length
        · have er : renH ms D.length (.b i) = .b i := by unfold renH; exact if_pos c1
          rw [er]
          refine ⟨by simp only; rw [if_pos c1], ?_, e2⟩
          simp only [hdK]
          rw [if_pos (by rw [List.length_append]; omega), List.length_append]
          rw [List.getElem?_append_right (by omega)] at eh ⊢
          rw [← eh]
          congr 1
          omega
        · rw [List.getElem?_append_left (by omega)] at eh
          obtain ⟨m, hm0, ⟨hm, em⟩, hy⟩ := longs_at vs eh
          have ei : ms.length - 1 - (i - (D.length : Nat)).toNat = args.length + D.length - 1 - i.toNat := by omega
          have er : renH ms D.length (.b i) = .b ((m : Int) + (D.length : Nat)) := by
            rw [renH_b, if_neg c1, ei, hm0]
            rfl
          have k1 := ok _ (List.mem_of_getElem? eh)
          have t40 : TLeB 40 (longM 1 (.b m) (.mk a' z)) = true := tleB.mpr (WG.tle (h := 40) (WG.mono (by omega) (WG.long (P := fun _ _ _ _ => True) (s := s) (hs := hs) (fun _ _ _ _ => trivial) k1 hm em)))
          rw [er]
          refine ⟨?_, ?_, e2⟩
          · simp only
            rw [if_neg c1, if_neg (by omega)]
            have : (longs args ms).length - 1 - (i - (D.length : Nat)).toNat = args.length + D.length - 1 - i.toNat := by omega
            rw [this, hy]
            simp only [t40, if_true]
            rw [long1' _ k1, lift_mk]
            have hm1 : liftH (D.length : Int) (0 + (a'.length : Nat)) (.b ((m : Int) + (a'.length : Nat))) = .b (((m + D.length : Nat) : Int) + (a'.length : Nat)) := by
              simp only [liftH]
              rw [if_pos (by omega)]
              congr 1; omega
            have hm2 : ((List.range a'.length).map fun (j : Nat) => Tm.mk 0 (.b ((a'.length - 1 - j : Nat) : Int)) []).map (liftM (D.length : Int) (0 + (a'.length : Nat))) = ((List.range a'.length).map fun (j : Nat) => Tm.mk 0 (.b ((a'.length - 1 - j : Nat) : Int)) []) := by
              rw [List.map_map]
              refine List.map_congr_left fun j hj => ?_
              have hj2 : j < a'.length := List.mem_range.mp hj
              show liftM _ _ _ = _
              rw [lift_mk]
              simp only [liftH]
              rw [if_neg (by omega)]
              rfl
            rw [hm1, hm2]
            have := bod_var (P := fun _ _ _ _ => True) (s := s) (hs := hs) (own := own ++ D) (f := f) (m := ((m + D.length : Nat) : Int)) a'.length rfl (fun x hx => k1.2.2 x hx) la e2 (by omega) (by omega) (by omega)
            refine Eq.trans this ?_
            congr 3
          · simp only [hdK]
            rw [if_pos (by rw [List.length_append]; omega), List.length_append]
            rw [List.getElem?_append_left (by omega), ← em]
            congr 1
            omega
      · cases eh
/-! filled -/
mutual
def fillP (vals : List Tm) : Tm → Tm
  | .mk n (.h i) ps => match vals[i.toNat]? with
    | some (.mk _ h2 ps2) => .mk n (renH (msOf ps) 0 h2) (renMs (msOf ps) 0 ps2)
    | none => .mk n (.h i) ps
  | .mk n (.b i) ps => .mk n (.b i) (fillPs vals ps)
  | .mk n (.c i) ps => .mk n (.c i) (fillPs vals ps)
def fillPs (vals : List Tm) : List Tm → List Tm
  | [] => []
  | x :: xs => fillP vals x :: fillPs vals xs
end
theorem fillPs_map (vals : List Tm) : ∀ l : List Tm, fillPs vals l = l.map (fillP vals)
  | [] => by unfold fillPs; rfl
  | x :: xs => by unfold fillPs; rw [fillPs_map vals xs]; rfl
theorem fillP_b (vals : List Tm) (n i : Int) (ps : List Tm) : fillP vals (.mk n (.b i) ps) = .mk n (.b i) (ps.map (fillP vals)) := by
  rw [fillP, fillPs_map]
theorem fillP_c (vals : List Tm) (n : Int) (i : Str) (ps : List Tm) : fillP vals (.mk n (.c i) ps) = .mk n (.c i) (ps.map (fillP vals)) := by
  rw [fillP, fillPs_map]
theorem fill_long (vals : List Tm) {m : Int} {kd : Kd} (ok : KOk 1 kd) : fillP vals (longM 1 (.b m) kd) = longM 1 (.b m) kd := by
  obtain ⟨a, z⟩ := kd
  rw [long1' _ ok, fillP_b, List.map_map]
  refine congrArg (Tm.mk _ _) ?_
  refine List.map_congr_left fun j _ => ?_
  show fillP vals (.mk 0 (.b _) []) = _
  rw [fillP_b]; rfl
/-- the values of a filling of these types -/
def Vals2 (s : Sig) (last types : List Kd) (hv : Nat) (vals : List Tm) : Prop := All2 (fun kd v => WT s last hv [] kd v) types vals
theorem hole_fill {s : Sig} {types last own a' : List Kd} {hv : Nat} {vals : List Tm} {i : Int} {z : Str} {ms : List Nat} (so : ∀ p ∈ s, KOk 2 p.2) (hl : ∀ x ∈ last, KOk 2 x) (ht : ∀ x ∈ types, KOk 2 x) (vv : Vals2 s last types hv vals) (h30 : hv ≤ 30) (e : hdK s types own (.h i) = some (.mk a' z)) (m2 : All2 (NumOk own) a' ms) :
    ∃ h2 ps2, vals[i.toNat]? = some (.mk a'.length h2 ps2) ∧ 0 ≤ i ∧ i.toNat < types.length ∧ bodM (hv + 5) h2 ps2 (longs a' ms) 0 = some (renH ms 0 h2, renMs ms 0 ps2) ∧ ∃ b', hdK s last a' h2 = some (.mk b' z) ∧ b'.length ≤ 3 ∧ All2 (fun k p => WT s last (hv - 1) a' k p) b' ps2 ∧ hdK s last own (renH ms 0 h2) = some (.mk b' z) ∧ All2 (fun k p => WT s last (hv - 1) own k p) b' (renMs ms 0 ps2) := by
  simp only [hdK] at e
  split at e
  · rename_i hi
    obtain ⟨v, hv1, w⟩ := all2_nth vv e
    obtain ⟨n2, h2, ps2⟩ := v
    cases hv with
    | zero => exact w.elim
    | succ hv =>
    obtain ⟨rfl, b', q2, q3, _, q5⟩ := w
    rw [List.nil_append] at q2 q5
    have k2 : KOk 2 (.mk a' z) := ht _ (List.mem_of_getElem? e)
    have r := bod_ren (own := own) so hl k2.2.2 k2.2.1 m2 hv (f := hv + 1 + 5) (D := []) (hd := h2) (a' := b') (z := z) (ps := ps2) (by simp) (by rw [List.append_nil]; exact q2) q3 (by rw [List.append_nil]; exact q5) (by omega) (by omega)
    rw [List.append_nil] at r
    exact ⟨h2, ps2, hv1, hi.1, by omega, r.1, b', q2, q3, q5, r.2.1, r.2.2⟩
  · cases e
theorem fill_ok {s : Sig} {types last : List Kd} {hv : Nat} {vals : List Tm} (so : ∀ p ∈ s, KOk 2 p.2) (hl : ∀ x ∈ last, KOk 2 x) (ht : ∀ x ∈ types, KOk 2 x) (vv : Vals2 s last types hv vals) (h30 : hv ≤ 30) (hv1 : 1 ≤ hv) : ∀ {h : Nat} {own : List Kd} {kd : Kd} {tm : Tm}, DT s types h own kd tm → WT s last (h + hv) own kd (fillP vals tm)
  | 0, _, _, _, q => q.elim
  | h + 1, own, .mk a z, .mk n (.h i) ps, ⟨q1, a', q2, q3, q4, q5⟩ => by
    obtain ⟨ms, m1, m2, m3⟩ := q4 i rfl
    obtain ⟨h2, ps2, e1, _, _, _, b', _, q3', _, f1, f2⟩ := hole_fill so hl ht vv h30 q2 m2
    rw [fillP, e1]
    subst m3
    rw [msOf_longs m2]
    have : h + 1 + hv = (h + hv) + 1 := by omega
    rw [this]
    exact ⟨q1, b', f1, q3', trivial, f2.imp fun k p _ w => w.mono (by omega)⟩
  | h + 1, own, .mk a z, .mk n (.b i) ps, ⟨q1, a', q2, q3, q4, q5⟩ => by
    rw [fillP_b]
    have : h + 1 + hv = (h + hv) + 1 := by omega
    rw [this]
    refine ⟨q1, a', q2, q3, trivial, all2_of_get (by rw [List.length_map]; exact q5.length) fun j x y hx hy => ?_⟩
    obtain ⟨p, hp, w⟩ := all2_nth q5 hx
    rw [List.getElem?_map, hp] at hy
    cases hy
    exact fill_ok so hl ht vv h30 hv1 w
  | h + 1, own, .mk a z, .mk n (.c i) ps, ⟨q1, a', q2, q3, q4, q5⟩ => by
    rw [fillP_c]
    have : h + 1 + hv = (h + hv) + 1 := by omega
    rw [this]
    refine ⟨q1, a', q2, q3, trivial, all2_of_get (by rw [List.length_map]; exact q5.length) fun j x y hx hy => ?_⟩
    obtain ⟨p, hp, w⟩ := all2_nth q5 hx
    rw [List.getElem?_map, hp] at hy
    cases hy
    exact fill_ok so hl ht vv h30 hv1 w
/-! what was put in is read off -/
theorem cl_ren_H {s : Sig} {hs args D : List Kd} {ms : List Nat} {hd : Hd} {kd : Kd} (nd : ms.Nodup) (lm : args.length = ms.length) (e : hdK s hs (args ++ D) hd = some kd) : clH ms D.length (renH ms D.length hd) = hd ∧ okH ms D.length (renH ms D.length hd) = true := by
  cases hd with
  | c x => exact ⟨rfl, rfl⟩
  | h x => exact ⟨rfl, rfl⟩
  | b i =>
    simp only [hdK] at e
    split at e
    · rename_i hi
      rw [List.length_append] at hi
      by_cases c1 : i < D.length
      · have er : renH ms D.length (.b i) = .b i := by unfold renH; exact if_pos c1
        rw [er]
        exact ⟨by unfold clH; exact if_neg (by omega), by unfold okH; exact if_neg (by omega)⟩
      · have hj : ms.length - 1 - (i - (D.length : Nat)).toNat < ms.length := by omega
        have hm := List.getElem?_eq_getElem hj
        have er : renH ms D.length (.b i) = .b ((ms[ms.length - 1 - (i - (D.length : Nat)).toNat] : Nat) + (D.length : Nat)) := by
          rw [renH_b, if_neg c1, hm]; rfl
        rw [er]
        have pp := posN_at nd hm
        have es : ((ms[ms.length - 1 - (i - (D.length : Nat)).toNat] : Nat) : Int) + (D.length : Nat) - (D.length : Nat) = (ms[ms.length - 1 - (i - (D.length : Nat)).toNat] : Nat) := by omega
        constructor
        · rw [clH_b, if_pos (by omega), es]
          unfold placeI
          rw [pp]
          refine congrArg Hd.b ?_
          show ((ms.length : Int) - 1 - ((ms.length - 1 - (i - (D.length : Nat)).toNat : Nat) : Int)) + (D.length : Nat) = i
          omega
        · rw [okH_b, if_pos (by omega), es, pp]
          rfl
    · cases e
theorem cl_ren {s : Sig} {hs args : List Kd} {ms : List Nat} (nd : ms.Nodup) (lm : args.length = ms.length) : ∀ (h : Nat) {D : List Kd} {a' : List Kd} {ps : List Tm}, All2 (fun k p => WT s hs h (args ++ D) k p) a' ps → clMs ms D.length (renMs ms D.length ps) = ps ∧ okMs ms D.length (renMs ms D.length ps) = true := by
  intro h
  induction h with
  | zero =>
    intro D a' ps w
    cases w with
    | nil => exact ⟨rfl, rfl⟩
    | cons p _ => exact p.elim
  | succ h ih =>
    intro D a' ps w
    induction w with
    | nil => exact ⟨rfl, rfl⟩
    | @cons k p ks qs hp _ ihw =>
      obtain ⟨ak, zk⟩ := k
      obtain ⟨n, hd, p2⟩ := p
      obtain ⟨rfl, b', q2, q3, _, q5⟩ := hp
      rw [List.append_assoc] at q2 q5
      have eD : (D.length : Int) + (ak.length : Nat) = ((D ++ ak).length : Nat) := by rw [List.length_append]; omega
      obtain ⟨c1, c2⟩ := cl_ren_H nd lm q2
      obtain ⟨d1, d2⟩ := ih q5
      unfold renMs renM clMs clM okMs okM
      rw [eD, c1, c2, d1, d2, ihw.1, ihw.2]
      exact ⟨rfl, rfl⟩
theorem cons_fill {s : Sig} {types last : List Kd} {hv : Nat} {vals : List Tm} (so : ∀ p ∈ s, KOk 2 p.2) (hl : ∀ x ∈ last, KOk 2 x) (ht : ∀ x ∈ types, KOk 2 x) (vv : Vals2 s last types hv vals) (h30 : hv ≤ 30) : ∀ {h : Nat} {own : List Kd} {kd : Kd} {tm : Tm}, DT s types h own kd tm → ∃ C, consM tm (fillP vals tm) = some C ∧ ∀ x ∈ C, 0 ≤ x.1 ∧ vals[x.1.toNat]? = some x.2
  | 0, _, _, _, q => q.elim
  | h + 1, own, .mk a z, .mk n (.h i) ps, ⟨q1, a', q2, q3, q4, q5⟩ => by
    obtain ⟨ms, m1, m2, m3⟩ := q4 i rfl
    obtain ⟨h2, ps2, e1, e2, _, _, b', g1, q3', g2, f1, f2⟩ := hole_fill so hl ht vv h30 q2 m2
    subst m3
    rw [fillP, e1]
    simp only
    rw [consM, msOf_longs m2]
    have c1 := cl_ren_H (D := []) m1 m2.length (by rw [List.append_nil]; exact g1)
    have c2 := cl_ren (D := []) m1 m2.length (hv - 1) (by rw [List.append_nil]; exact g2)
    have ec : closM ms (.mk n (renH ms 0 h2) (renMs ms 0 ps2)) = if (okH ms 0 (renH ms 0 h2) && okMs ms 0 (renMs ms 0 ps2)) = true then some (.mk ms.length (clH ms 0 (renH ms 0 h2)) (clMs ms 0 (renMs ms 0 ps2))) else none := rfl
    have z0 : (([] : List Kd).length : Int) = 0 := rfl
    rw [z0] at c1 c2
    rw [ec, c1.2, c2.2, Bool.and_self, if_pos rfl, c1.1, c2.1]
    refine ⟨_, rfl, fun x hx => ?_⟩
    rw [List.mem_singleton] at hx
    subst hx
    refine ⟨e2, ?_⟩
    rw [e1, ← m2.length]
  | h + 1, own, .mk a z, .mk n (.b i) ps, ⟨q1, a', q2, q3, q4, q5⟩ => by
    rw [fillP_b, consM, if_pos rfl]
    exact cons_fills so hl ht vv h30 h q5 (fun {own kd tm} w => cons_fill so hl ht vv h30 w)
  | h + 1, own, .mk a z, .mk n (.c i) ps, ⟨q1, a', q2, q3, q4, q5⟩ => by
    rw [fillP_c, consM, if_pos rfl]
    exact cons_fills so hl ht vv h30 h q5 (fun {own kd tm} w => cons_fill so hl ht vv h30 w)
where
  cons_fills {s : Sig} {types last : List Kd} {hv : Nat} {vals : List Tm} (so : ∀ p ∈ s, KOk 2 p.2) (hl : ∀ x ∈ last, KOk 2 x) (ht : ∀ x ∈ types, KOk 2 x) (vv : Vals2 s last types hv vals) (h30 : hv ≤ 30) (h : Nat) {own : List Kd} {a' : List Kd} {ps : List Tm} (q5 : All2 (fun k p => DT s types h own k p) a' ps) (ih : ∀ {own : List Kd} {kd : Kd} {tm : Tm}, DT s types h own kd tm → ∃ C, consM tm (fillP vals tm) = some C ∧ ∀ x ∈ C, 0 ≤ x.1 ∧ vals[x.1.toNat]? = some x.2) : ∃ C, consMs ps (ps.map (fillP vals)) = some C ∧ ∀ x ∈ C, 0 ≤ x.1 ∧ vals[x.1.toNat]? = some x.2 := by
    induction q5 with
    | nil => exact ⟨[], by simp [consMs], by simp⟩
    | cons p _ ih2 =>
      obtain ⟨A, e1, f1⟩ := ih p
      obtain ⟨B, e2, f2⟩ := ih2
      rw [List.map_cons, consMs, e1, e2]
      refine ⟨_, rfl, fun x hx => ?_⟩
      rcases List.mem_append.mp hx with hx | hx
      · exact f1 x hx
      · exact f2 x hx
end K07

namespace K07
open PySem PySem.Spec TV
open L2 (ixN atI Key)
variable {Φ : Fn → TV.Con} {k : Nat}
/-! _law_filled, _law_size, _law_met -/
structure FlX where
  p : Addr
  vals : List Tm
  tm : Tm
def inFl (x : FlX) : List T := [.ref x.p, x.tm.t]
structure FlP (k c : Nat) (x : FlX) (μ : Mu) : Prop where
  e : μ x.p = some (.lst (x.vals.map Tm.t))
  ty : ∃ (s : Sig) (types last own : List Kd) (kd : Kd) (h hv : Nat), (∀ p ∈ s, KOk 2 p.2) ∧ (∀ x ∈ last, KOk 2 x) ∧ (∀ x ∈ types, KOk 2 x) ∧ (∀ x ∈ own, KOk 2 x) ∧ KOk 2 kd ∧ Vals2 s last types hv x.vals ∧ hv ≤ 8 ∧ DT s types h own kd x.tm ∧ h + c ≤ k
theorem inFl_inj {k c : Nat} (x y : FlX) (μ : Mu) (e : inFl x = inFl y) (p : FlP k c x μ) (p' : FlP k c y μ) : x = y := by
  obtain ⟨a, b, d⟩ := x
  obtain ⟨a', b', d'⟩ := y
  simp only [inFl, List.cons.injEq, T.ref.injEq, and_true] at e
  obtain ⟨rfl, e2⟩ := e
  have := p.e.symm.trans p'.e
  simp only [Option.some.injEq, MO.lst.injEq] at this
  rw [tms_inj this, Tm.inj e2]
def cFl (k : Nat) : TV.Con := mkC inFl (FlP k 72) (fun x μ t μ' => Ext μ μ' ∧ t = (fillP x.vals x.tm).t)
theorem v_law_filled (h1 : Φ .law_filled = cFl k) (h2 : Φ .law_body = cBo k) (x : FlX) (μ : Mu) (pp : FlP k 71 x μ) (post : T → Mu → Prop) (q : ∀ μ', Ext μ μ' → post (fillP x.vals x.tm).t μ') : wSs Φ b_law_filled (endsOf post) (startT 8 (inFl x)) μ := by
  obtain ⟨p, vals, tm⟩ := x
  obtain ⟨e, s, types, last, own, kd, h, hv, so, hl, ht, ko, kk, vv, h8, w, hk⟩ := pp
  dsimp only at *
  cases h with
  | zero => exact w.elim
  | succ h =>
  obtain ⟨n, hd, ps⟩ := tm
  obtain ⟨a, z⟩ := kd
  obtain ⟨q1, a', q2, q3, q4, q5⟩ := w
  have oo : ∀ y ∈ own ++ a, KOk 2 y := fun y hy => by
    rcases List.mem_append.mp hy with hy | hy
    · exact ko y hy
    · exact (kk.2.2 y hy).succ
  have ka' : KOk 2 (.mk a' z) := hdK_kok so ht oo q2
  refine (show wSs Φ _ _ (startT 8 [.ref p, (Tm.mk n hd ps).t]) μ from ?_)
  rw [tm_t]
  refine v_step rfl ?_
  walk_at "wgo"
  refine v_step rfl ?_
  walk_at "wgo"
  intro D hD
  have l5 := q5.length
  refine lcT_pure (f := Tm.t) (wE_mono _) (fun y => (fillP vals y).t) hD (fun _ _ => trivial) (by rw [line_eq]; omega) (fun y hy μ1 e1 => ?_) fun μ1 e1 hl1 => ?_
  · walk_at "wgo"
    obtain ⟨j, hj⟩ := List.getElem?_of_mem hy
    obtain ⟨kd', hk', w'⟩ := all2_nth' q5 hj
    refine call_mk h1 ⟨p, vals, y⟩ rfl ⟨Ext.at e1 e, s, types, last, own ++ a, kd', h, hv, so, hl, ht, oo, (ka'.2.2 kd' (List.mem_of_getElem? hk')).succ, vv, h8, w', by omega⟩ fun t μ2 ⟨e2, et⟩ => ?_
    exact ⟨e2, et⟩
  · walk_at "wgo"
    refine b_tuple (items_lst hl1) ?_
    refine v_step rfl ?_
    walk_at "wgo"
    have em : (ps.map fun y => (fillP vals y).t) = (ps.map (fillP vals)).map Tm.t := by rw [List.map_map]; rfl
    rw [em]
    cases hd with
    | b i =>
      refine x_tup (l := [.str "b", .int i]) rfl ?_
      walk_at "wgo"
      refine ⟨by rw [line_eq]; simp, ?_⟩
      have := q μ1 e1
      rw [fillP_b, tm_t] at this
      exact this
    | c i =>
      refine x_tup (l := [.str "c", .str i]) rfl ?_
      walk_at "wgo"
      refine ⟨by rw [line_eq]; simp, ?_⟩
      have := q μ1 e1
      rw [fillP_c, tm_t] at this
      exact this
    | h i =>
      obtain ⟨ms, m1, m2, m3⟩ := q4 i rfl
      obtain ⟨h2', ps2, g1, g2, g3, g4, _⟩ := hole_fill so hl ht vv (by omega) q2 m2
      have ef : ps.map (fillP vals) = ps := by
        rw [m3]
        refine (List.map_congr_left fun y hy => ?_).trans (List.map_id _)
        obtain ⟨j, hj⟩ := List.getElem?_of_mem hy
        unfold longs at hj
        rw [List.getElem?_zipWith] at hj
        split at hj
        · rename_i kd m hkd _
          cases hj
          exact fill_long vals (ka'.2.2 kd (List.mem_of_getElem? hkd))
        · cases hj
      rw [ef]
      refine x_tup (l := [.str "h", .int i]) rfl ?_
      walk_at "wgo"
      refine v_step rfl ?_
      walk_at "wgo"
      have hp := Ext.at e1 e
      have ei : i = ((i.toNat : Nat) : Int) := by omega
      have atv : atI (vals.map Tm.t) i = some (Tm.mk a'.length h2' ps2).t := by
        rw [ei]
        exact L2.atI_nat (by rw [List.getElem?_map, g1]; rfl)
      refine x_tup (l := [.str "h", .int i]) rfl ?_
      walk_at "wgo"
      refine x_lst hp atv ?_
      rw [tm_t]
      walk_at "wgo"
      refine x_tup (l := [.str "h", .int i]) rfl ?_
      walk_at "wgo"
      refine x_lst hp atv ?_
      rw [tm_t]
      walk_at "wgo"
      rw [m3]
      refine call_Bo h2 g4 (by omega) fun r μ2 e2 hr hl2 => ?_
      refine v_step rfl ?_
      walk_at "wgo"
      refine x_lst hl2 rfl ?_
      walk_at "wgo"
      refine x_lst hl2 rfl ?_
      walk_at "wgo"
      refine ⟨by rw [line_eq]; simp, ?_⟩
      have := q μ2 (e1.trans e2)
      rw [fillP, g1] at this
      simp only at this
      rw [tm_t, m3, msOf_longs m2] at this
      exact this
/-- _law_size -/
structure SzX where
  tm : Tm
theorem inSz_inj (x y : SzX) (e : [x.tm.t] = [y.tm.t]) : x = y := by
  obtain ⟨a⟩ := x
  obtain ⟨b⟩ := y
  simp only [List.cons.injEq, and_true] at e
  rw [Tm.inj e]
def cSz (k : Nat) : TV.Con := mkC (fun x : SzX => [x.tm.t]) (fun x _ => ∃ h, TLe h x.tm ∧ h + 2 ≤ k) (fun x μ t μ' => Ext μ μ' ∧ t = .int (tsz x.tm))
theorem ints_map {α : Type} (f : α → Int) : ∀ l : List α, intsOf (l.map fun x => T.int (f x)) = some (l.map f)
  | [] => rfl
  | x :: xs => by
    show (intsOf (xs.map fun x => T.int (f x))).map (f x :: ·) = _
    rw [ints_map f xs]; rfl
theorem sum_cast : ∀ l : List Tm, (l.map fun x => (tsz x : Int)).sum = ((l.map tsz).sum : Nat)
  | [] => rfl
  | x :: xs => by
    rw [List.map_cons, List.sum_cons, sum_cast xs, List.map_cons, List.sum_cons]
    omega
theorem v_law_size (h1 : Φ .law_size = cSz k) (tm : Tm) (h : Nat) (μ : Mu) (tl : TLe h tm) (hk : h + 1 ≤ k) (post : T → Mu → Prop) (q : ∀ μ', Ext μ μ' → post (.int (tsz tm)) μ') : wSs Φ b_law_size (endsOf post) (startT 2 [tm.t]) μ := by
  obtain ⟨n, hd, ps⟩ := tm
  obtain ⟨lp, tp⟩ := tl.ps
  rw [tm_t]
  rw [tsz_mk] at q
  refine v_step rfl ?_
  walk_at "wgo"
  intro D hD
  refine lcT_pure (f := Tm.t) (wE_mono _) (fun y => T.int (tsz y)) hD (fun _ _ => trivial) (by rw [line_eq]; omega) (fun y hy μ1 e1 => ?_) fun μ1 e1 hl1 => ?_
  · walk_at "wgo"
    refine call_mk h1 ⟨y⟩ rfl ⟨h - 1, (tp y hy).1, by have := (tp y hy).2; omega⟩ fun t μ2 ⟨e2, et⟩ => ?_
    exact ⟨e2, et⟩
  · walk_at "wgo"
    refine ⟨_, _, hl1, ints_map (fun y => (tsz y : Int)) ps, ?_⟩
    walk_at "wgo"
    rw [sum_cast]
    have := q μ1 e1
    have e2 : ((1 + (ps.map tsz).sum : Nat) : Int) = 1 + ((ps.map tsz).sum : Nat) := by omega
    rw [e2] at this
    exact this
/-! _law_met: the nodes with holes, in the order of reading -/
mutual
def metM : Tm → List Tm
  | .mk n (.h i) ps => .mk n (.h i) ps :: metMs ps
  | .mk _ (.b _) ps => metMs ps
  | .mk _ (.c _) ps => metMs ps
def metMs : List Tm → List Tm
  | [] => []
  | x :: xs => metM x ++ metMs xs
end
theorem metMs_app : ∀ a b : List Tm, metMs (a ++ b) = metMs a ++ metMs b
  | [], b => rfl
  | x :: a, b => by rw [List.cons_append, metMs, metMs, metMs_app a b, List.append_assoc]
mutual
theorem met_len : ∀ t : Tm, (metM t).length ≤ tsz t
  | .mk n (.h i) ps => by unfold metM; rw [tsz_mk, ← tszs_sum, List.length_cons]; have := mets_len ps; omega
  | .mk _ (.b _) ps => by unfold metM; rw [tsz_mk, ← tszs_sum]; have := mets_len ps; omega
  | .mk _ (.c _) ps => by unfold metM; rw [tsz_mk, ← tszs_sum]; have := mets_len ps; omega
theorem mets_len : ∀ l : List Tm, (metMs l).length ≤ tszs l
  | [] => Nat.le_refl _
  | x :: xs => by unfold metMs tszs; rw [List.length_append]; have := met_len x; have := mets_len xs; omega
end
structure MtX where
  tm : Tm
  p : Addr
  l : List Tm
def inMt (x : MtX) : List T := [x.tm.t, .ref x.p]
structure MtP (k c : Nat) (x : MtX) (μ : Mu) : Prop where
  e : μ x.p = some (.lst (x.l.map Tm.t))
  tl : ∃ h, TLe h x.tm ∧ h + c ≤ k
  ln : x.l.length + tsz x.tm ≤ 1000000
theorem inMt_inj {k c : Nat} (x y : MtX) (μ : Mu) (e : inMt x = inMt y) (p : MtP k c x μ) (p' : MtP k c y μ) : x = y := by
  obtain ⟨a, b, d⟩ := x
  obtain ⟨a', b', d'⟩ := y
  simp only [inMt, List.cons.injEq, T.ref.injEq, and_true] at e
  obtain ⟨e1, rfl⟩ := e
  have := p.e.symm.trans p'.e
  simp only [Option.some.injEq, MO.lst.injEq] at this
  rw [tms_inj this, Tm.inj e1]
def cMt (k : Nat) : TV.Con := mkC inMt (MtP k 2) (fun x μ t μ' => ExtX (fun b => b = x.p) μ μ' ∧ t = .ref x.p ∧ μ' x.p = some (.lst ((x.l ++ metM x.tm).map Tm.t)))
theorem v_law_met (h1 : Φ .law_met = cMt k) (x : MtX) (μ : Mu) (pp : MtP k 1 x μ) (post : T → Mu → Prop) (q : ∀ μ', ExtX (fun b => b = x.p) μ μ' → μ' x.p = some (.lst ((x.l ++ metM x.tm).map Tm.t)) → post (.ref x.p) μ') : wSs Φ b_law_met (endsOf post) (startT 3 (inMt x)) μ := by
  obtain ⟨tm, p, l⟩ := x
  obtain ⟨e, ⟨h, tl, hk⟩, ln⟩ := pp
  obtain ⟨n, hd, ps⟩ := tm
  obtain ⟨lp, tp⟩ := tl.ps
  dsimp only at *
  rw [tsz_mk] at ln
  refine (show wSs Φ _ _ (startT 3 [(Tm.mk n hd ps).t, .ref p]) μ from ?_)
  rw [tm_t]
  have rest : ∀ (l0 : List Tm) (μ1 : Mu), ExtX (fun b => b = p) μ μ1 → μ1 p = some (.lst (l0.map Tm.t)) → l0 ++ metMs ps = l ++ metM (.mk n hd ps) → l0.length ≤ l.length + 1 → wSs Φ (Ss.drop 1 b_law_met) (endsOf post) [some (.tup [.int n, hd.t, .tup (ps.map Tm.t)]), some (.ref p), none] μ1 := by
    intro l0 μ1 e1 hl1 el ll
    refine v_step rfl ?_
    walk_at "wgo"
    refine forT_inv (f := Tm.t) (wSs_mono _) (fun rest τ μ' => ∃ done v2, ps = done ++ rest ∧ τ = [some (.tup [.int n, hd.t, .tup (ps.map Tm.t)]), some (.ref p), v2] ∧ ExtX (fun b => b = p) μ μ' ∧ μ' p = some (.lst ((l0 ++ metMs done).map Tm.t))) (fun _ _ _ _ => trivial) ?_ ?_ ps _ _ ⟨[], none, rfl, rfl, e1, by rw [metMs, List.append_nil]; exact hl1⟩
    · rintro τ μ' ⟨done, v2, e0, rfl, ex, hl⟩
      rw [List.append_nil] at e0
      subst e0
      refine v_step rfl ?_
      walk_at "wgo"
      rw [el] at hl
      exact q μ' ex hl
    · rintro y rest τ μ' ⟨done, v2, e0, rfl, ex, hl⟩
      have hy : y ∈ ps := by rw [e0]; simp
      have sz : tszs done + tsz y ≤ (ps.map tsz).sum := by
        rw [e0, tszs_sum]; simp <;> omega
      have lm := mets_len done
      walk_at "wgo"
      refine call_mk h1 ⟨y, p, l0 ++ metMs done⟩ rfl ⟨hl, ⟨h - 1, (tp y hy).1, by have := (tp y hy).2; omega⟩, by dsimp only; rw [List.length_append]; omega⟩ fun t μ2 ⟨e2, et, hl2⟩ => ?_
      dsimp only at e2 hl2
      walk_at "wgo"
      refine ⟨done ++ [y], _, by rw [e0]; simp, rfl, ex.trans e2, ?_⟩
      rw [hl2, metMs_app, List.append_assoc]
      simp [metMs]
  refine v_step rfl ?_
  walk_at "wgo"
  cases hd with
  | b i =>
    refine x_tup (l := [.str "b", .int i]) rfl ?_
    walk_at "wgo"
    exact rest l μ ExtX.refl e (by rw [metM]) (by omega)
  | c i =>
    refine x_tup (l := [.str "c", .str i]) rfl ?_
    walk_at "wgo"
    exact rest l μ ExtX.refl e (by rw [metM]) (by omega)
  | h i =>
    refine x_tup (l := [.str "h", .int i]) rfl ?_
    walk_at "wgo"
    refine ⟨⟨_, e⟩, ?_⟩
    walk_at "wgo"
    refine m_append e (by rw [line_eq, List.length_map]; omega) ?_
    walk_at "wgo"
    refine rest (l ++ [.mk n (.h i) ps]) _ (ExtX.own rfl) ?_ (by rw [metM]; simp) (by simp)
    rw [mset_same, List.map_append, List.map_singleton, tm_t]
end K07

namespace K07
open PySem PySem.Spec TV
open L2 (ixN atI Key)
variable {Φ : Fn → TV.Con} {k : Nat}
/-! the holes of a filling in the order of their first places, with the order of their parts -/
abbrev Row := Int × List Nat
def permK (new : List Kd) (row : Row) : Kd := match new[row.1.toNat]? with
  | some (.mk a z) => .mk (row.2.map fun (j : Nat) => a[j]?.getD kA) z
  | none => kA
structure RowOk (new : List Kd) (row : Row) : Prop where
  i0 : 0 ≤ row.1
  ex : ∃ a z, new[row.1.toNat]? = some (.mk a z) ∧ row.2.Perm (List.range a.length)
structure RowsOk (R : List Row) (kvs : Dic) (μ : Mu) : Prop where
  len : kvs.length = R.length
  at_ : ∀ (p : Nat) row, R[p]? = some row → ∃ r o, lookT kvs (.inl row.1) = some (.ref r) ∧ μ r = some (.lst [.int p, .ref o]) ∧ μ o = some (.lst (row.2.map natT))
  no : ∀ i, (∀ row ∈ R, row.1 ≠ i) → lookT kvs (.inl i) = none
theorem RowsOk.ext {R : List Row} {kvs : Dic} {μ μ' : Mu} {A : Addr → Prop} (h : RowsOk R kvs μ) (e : Ext μ μ') : RowsOk R kvs μ' :=
  ⟨h.len, fun p row hr => let ⟨r, o, a, b, c⟩ := h.at_ p row hr; ⟨r, o, a, Ext.at e b, Ext.at e c⟩, h.no⟩
theorem rows_one {R R' : List Row} {kvs : Dic} {μ : Mu} (h : RowsOk R kvs μ) (h' : RowsOk R' kvs μ) : R = R' := by
  refine List.ext_getElem? fun p => ?_
  have ll := h.len.symm.trans h'.len
  cases e : R[p]? with
  | none =>
    have := List.getElem?_eq_none_iff.mp e
    rw [List.getElem?_eq_none (by omega)]
  | some row =>
    obtain ⟨r, o, a1, a2, a3⟩ := h.at_ p row e
    have : ∃ row' ∈ R', row'.1 = row.1 := by
      refine Classical.byContradiction fun z => ?_
      rw [h'.no row.1 fun row' hr' e' => z ⟨row', hr', e'⟩] at a1
      cases a1
    obtain ⟨row', hm, e1⟩ := this
    obtain ⟨p', hp'⟩ := List.getElem?_of_mem hm
    obtain ⟨r', o', b1, b2, b3⟩ := h'.at_ p' row' hp'
    rw [e1, a1] at b1
    cases b1
    rw [a2] at b2
    simp only [Option.some.injEq, MO.lst.injEq, List.cons.injEq, T.int.injEq, T.ref.injEq, and_true] at b2
    obtain ⟨c1, rfl⟩ := b2
    have : p = p' := by omega
    subst this
    rw [a3] at b3
    simp only [Option.some.injEq, MO.lst.injEq] at b3
    rw [hp']
    obtain ⟨x, y⟩ := row
    obtain ⟨x', y'⟩ := row'
    dsimp only at e1 b3 ⊢
    rw [e1, natT_inj b3]
theorem look_none_keys : ∀ {kvs : Dic} {k : Key}, lookT kvs k = none → ∀ p ∈ kvs, p.1 ≠ k
  | [], _, _, _, h => by cases h
  | (k', v) :: r, k, e, p, h => by
    unfold lookT at e
    rw [List.find?_cons] at e
    by_cases hk : k' = k
    · rw [decide_eq_true hk] at e; cases e
    · rw [decide_eq_false hk] at e
      rcases List.mem_cons.mp h with rfl | h
      · exact hk
      · exact look_none_keys (kvs := r) e p h
theorem put_len_new {kvs : Dic} {k : Key} {v : T} (e : lookT kvs k = none) : (putT kvs k v).length = kvs.length + 1 := by
  rw [putT_new (look_none_keys e)]; simp
/-- one more row -/
theorem RowsOk.snoc {R : List Row} {kvs : Dic} {μ μ' : Mu} {i : Int} {o : List Nat} {r oa : Addr} (h : RowsOk R kvs μ) (e : Ext μ μ') (nw : ∀ row ∈ R, row.1 ≠ i) (hr : μ' r = some (.lst [.int (R.length : Nat), .ref oa])) (ho : μ' oa = some (.lst (o.map natT))) : RowsOk (R ++ [(i, o)]) (putT kvs (.inl i) (.ref r)) μ' := by
  have en := h.no i nw
  refine ⟨by rw [put_len_new en, h.len]; simp, fun p row hp => ?_, fun j hj => ?_⟩
  · by_cases c : p < R.length
    · rw [List.getElem?_append_left c] at hp
      obtain ⟨r', o', a, b, c'⟩ := h.at_ p row hp
      refine ⟨r', o', ?_, Ext.at e b, Ext.at e c'⟩
      rw [lookT_put, if_neg (fun z => nw row (List.mem_of_getElem? hp) (Sum.inl.inj z).symm)]
      exact a
    · rw [List.getElem?_append_right (by omega)] at hp
      have : p = R.length := by
        have := (List.getElem?_eq_some_iff.mp hp).1
        simp at this; omega
      subst this
      simp at hp
      subst hp
      exact ⟨r, oa, by rw [lookT_put, if_pos rfl], hr, ho⟩
  · rw [lookT_put, if_neg (fun z => hj (i, o) (by simp) (Sum.inl.inj z))]
    exact h.no j fun row hr' => hj row (List.mem_append_left _ hr')
/-- a node with a hole -/
def NodeOk (new : List Kd) (nd : Tm) : Prop := ∃ (n i : Int) (a' : List Kd) (z : Str) (ms : List Nat) (own : List Kd), nd = .mk n (.h i) (longs a' ms) ∧ 0 ≤ i ∧ new[i.toNat]? = some (.mk a' z) ∧ a'.length ≤ 3 ∧ ms.Nodup ∧ All2 (NumOk own) a' ms ∧ ∀ y ∈ a', KOk 1 y
theorem met_long {m : Int} {kd : Kd} (ok : KOk 1 kd) : metM (longM 1 (.b m) kd) = [] := by
  obtain ⟨a, z⟩ := kd
  rw [long1' _ ok, metM]
  generalize List.range a.length = l
  induction l with
  | nil => rfl
  | cons j l ih => rw [List.map_cons, metMs, ih, metM]; rfl
theorem mets_longs {own a : List Kd} {ms : List Nat} (ok : ∀ y ∈ a, KOk 1 y) (h : All2 (NumOk own) a ms) : metMs (longs a ms) = [] := by
  unfold longs
  induction h with
  | nil => rfl
  | cons _ _ ih => rw [List.zipWith_cons_cons, metMs, met_long (ok _ List.mem_cons_self), ih fun y hy => ok y (List.mem_cons_of_mem _ hy)]; rfl
theorem met_ok {s : Sig} {new : List Kd} (so : ∀ p ∈ s, KOk 2 p.2) (kn : ∀ x ∈ new, KOk 2 x) : ∀ (h : Nat) {own : List Kd} {kd : Kd} {tm : Tm}, (∀ x ∈ own, KOk 2 x) → KOk 2 kd → DT s new h own kd tm → ∀ nd ∈ metM tm, NodeOk new nd ∧ ∃ i, (∃ n ps, nd = .mk n (.h i) ps) ∧ occT i tm = true
  | 0, _, _, _, _, _, q => q.elim
  | h + 1, own, .mk a z, .mk n hd ps, ko, kk, ⟨q1, a', q2, q3, q4, q5⟩ => by
    have oo : ∀ y ∈ own ++ a, KOk 2 y := fun y hy => by
      rcases List.mem_append.mp hy with hy | hy
      · exact ko y hy
      · exact (kk.2.2 y hy).succ
    have ka' : KOk 2 (.mk a' z) := hdK_kok so kn oo q2
    have parts : ∀ nd ∈ metMs ps, NodeOk new nd ∧ ∃ i, (∃ n ps, nd = .mk n (.h i) ps) ∧ occTs i ps = true := by
      have go : ∀ {a' : List Kd} {ps : List Tm}, (∀ y ∈ a', KOk 1 y) → All2 (fun k p => DT s new h (own ++ a) k p) a' ps → ∀ nd ∈ metMs ps, NodeOk new nd ∧ ∃ i, (∃ n ps, nd = .mk n (.h i) ps) ∧ occTs i ps = true := by
        intro a' ps ok w
        induction w with
        | nil => intro nd h; cases h
        | @cons k p ks qs hp _ ih =>
          intro nd hnd
          rw [metMs] at hnd
          rcases List.mem_append.mp hnd with hnd | hnd
          · obtain ⟨r1, i, r2, r3⟩ := met_ok so kn h oo (ok k List.mem_cons_self).succ hp nd hnd
            exact ⟨r1, i, r2, by rw [occTs, r3]; rfl⟩
          · obtain ⟨r1, i, r2, r3⟩ := ih (fun y hy => ok y (List.mem_cons_of_mem _ hy)) nd hnd
            exact ⟨r1, i, r2, by rw [occTs, r3, Bool.or_true]⟩
      exact go ka'.2.2 q5
    cases hd with
    | b i => intro nd hnd; rw [metM] at hnd; obtain ⟨r1, j, r2, r3⟩ := parts nd hnd; exact ⟨r1, j, r2, by rw [occT]; exact r3⟩
    | c i => intro nd hnd; rw [metM] at hnd; obtain ⟨r1, j, r2, r3⟩ := parts nd hnd; exact ⟨r1, j, r2, by rw [occT]; exact r3⟩
    | h i =>
      obtain ⟨ms, m1, m2, m3⟩ := q4 i rfl
      intro nd hnd
      rw [metM, m3, mets_longs ka'.2.2 m2, List.mem_singleton] at hnd
      subst hnd
      simp only [hdK] at q2
      split at q2
      · rename_i hi
        exact ⟨⟨n, i, a', z, ms, own ++ a, rfl, hi.1, q2, q3, m1, m2, ka'.2.2⟩, i, ⟨n, _, rfl⟩, by rw [occT]; simp⟩
      · cases q2
mutual
theorem occ_met (i : Int) : ∀ t : Tm, occT i t = true → ∃ n ps, Tm.mk n (.h i) ps ∈ metM t
  | .mk n (.h j) ps, h => by
    rw [occT] at h
    have : j = i := by simpa using h
    subst this
    exact ⟨n, ps, by rw [metM]; simp⟩
  | .mk n (.b j) ps, h => by rw [occT] at h; rw [metM]; exact occ_mets i ps h
  | .mk n (.c j) ps, h => by rw [occT] at h; rw [metM]; exact occ_mets i ps h
theorem occ_mets (i : Int) : ∀ l : List Tm, occTs i l = true → ∃ n ps, Tm.mk n (.h i) ps ∈ metMs l
  | [], h => by rw [occTs] at h; cases h
  | x :: xs, h => by
    rw [occTs] at h
    rw [metMs]
    rcases Bool.or_eq_true_iff.mp h with h | h
    · obtain ⟨n, ps, m⟩ := occ_met i x h
      exact ⟨n, ps, List.mem_append_left _ m⟩
    · obtain ⟨n, ps, m⟩ := occ_mets i xs h
      exact ⟨n, ps, List.mem_append_right _ m⟩
end
theorem occTs_app (i : Int) : ∀ a b : List Tm, occTs i (a ++ b) = (occTs i a || occTs i b)
  | [], b => by rw [List.nil_append, occTs, Bool.false_or]
  | x :: a, b => by rw [List.cons_append, occTs, occTs, occTs_app i a b, Bool.or_assoc]
structure RoX where
  new : List Kd
  p : Addr
  ts : List Tm
def inRo (x : RoX) : List T := [.tup (x.new.map Kd.t), .ref x.p]
structure RoP (k c : Nat) (x : RoX) (μ : Mu) : Prop where
  e : μ x.p = some (.lst (x.ts.map Tm.t))
  kn : ∀ y ∈ x.new, KOk 2 y
  ty : ∃ s h, SigOk s ∧ (∀ t ∈ x.ts, ∃ kd, KOk 2 kd ∧ DT s x.new h [] kd t) ∧ h + c ≤ k ∧ h ≤ 8
  l3 : x.ts.length ≤ 3
theorem inRo_inj {k c : Nat} (x y : RoX) (μ : Mu) (e : inRo x = inRo y) (p : RoP k c x μ) (p' : RoP k c y μ) : x = y := by
  obtain ⟨a, b, d⟩ := x
  obtain ⟨a', b', d'⟩ := y
  simp only [inRo, List.cons.injEq, T.ref.injEq, T.tup.injEq, and_true] at e
  obtain ⟨e1, rfl⟩ := e
  have := p.e.symm.trans p'.e
  simp only [Option.some.injEq, MO.lst.injEq] at this
  rw [tms_inj this, kds_inj e1]
/-- the rows are those of the terms -/
structure RowsOf (new : List Kd) (ts : List Tm) (R : List Row) : Prop where
  nd : (R.map (·.1)).Nodup
  ok : ∀ row ∈ R, RowOk new row ∧ occTs row.1 ts = true
  all : ∀ i, occTs i ts = true → ∃ row ∈ R, row.1 = i
def cRo (k : Nat) : TV.Con := mkC inRo (RoP k 4) (fun x μ t μ' => Ext μ μ' ∧ ∃ r rd kvs R, t = .ref r ∧ μ' r = some (.lst [.ref rd, .tup ((R.map (permK x.new)).map Kd.t)]) ∧ μ' rd = some (.dic kvs) ∧ RowsOk R kvs μ' ∧ RowsOf x.new x.ts R)
end K07

namespace K07
open PySem PySem.Spec TV
open L2 (ixN atI Key)
variable {Φ : Fn → TV.Con} {k : Nat}
/-! _law_rows_of, walked -/
structure RInv (new : List Kd) (μ0 : Mu) (rd ty : Addr) (all M : List Tm) (μ' : Mu) (R : List Row) (kvs : Dic) : Prop where
  d : μ' rd = some (.dic kvs)
  t : μ' ty = some (.lst ((R.map (permK new)).map Kd.t))
  r : RowsOk R kvs μ'
  nd : (R.map (·.1)).Nodup
  ok : ∀ row ∈ R, RowOk new row ∧ occTs row.1 all = true
  al : ∀ n i ps, Tm.mk n (.h i) ps ∈ M → ∃ row ∈ R, row.1 = i
  ln : R.length ≤ M.length
  ex : Ext μ0 μ'
theorem new_at {new : List Kd} {i : Int} {a : List Kd} {z : Str} (i0 : 0 ≤ i) (e : new[i.toNat]? = some (.mk a z)) : atI (new.map Kd.t) i = some (T.tup [.tup (a.map Kd.t), .str z]) := by
  have ei : i = ((i.toNat : Nat) : Int) := by omega
  have := L2.atI_nat (xs := new.map Kd.t) (j := i.toNat) (v := (Kd.mk a z).t) (by rw [List.getElem?_map, e]; rfl)
  rw [← ei, kd_t] at this
  exact this
theorem kt_no_int {l : List Kd} {i : Int} {r : List T} : l.map Kd.t ≠ T.int i :: r := by
  cases l with
  | nil => intro e; cases e
  | cons x xs =>
    intro e
    obtain ⟨a, z⟩ := x
    rw [List.map_cons, kd_t] at e
    cases e
theorem perm_nats {n : Nat} {f : Nat → Int} {ks : List (Int × Int)} (h : ks.Perm ((List.range n).map fun (j : Nat) => (f j, (j : Int)))) : ∃ o : List Nat, ks.map (fun p => T.int p.2) = o.map natT ∧ o.Perm (List.range n) := by
  refine ⟨ks.map fun p => p.2.toNat, ?_, ?_⟩
  · rw [List.map_map]
    refine List.map_congr_left fun p hp => ?_
    have := h.mem_iff.mp hp
    obtain ⟨j, _, rfl⟩ := List.mem_map.mp this
    simp [natT]
  · have := h.map fun p : Int × Int => p.2.toNat
    rw [List.map_map] at this
    have e : (List.range n).map ((fun p : Int × Int => p.2.toNat) ∘ fun (j : Nat) => (f j, (j : Int))) = List.range n := by
      refine (List.map_congr_left fun j _ => ?_).trans (List.map_id _)
      simp
    rw [e] at this
    exact this
theorem inner_rows (h3 : Φ .law_number = cNu k) (hk : 1 ≤ k) {new : List Kd} {μ0 : Mu} {rd ty : Addr} {all M : List Tm} {R : List Row} {kvs : Dic} {μ : Mu} {nd : Tm} (kn : ∀ y ∈ new, KOk 2 y) (hrd : μ0 rd = none) (hty : μ0 ty = none) (nrt : rd ≠ ty) (I : RInv new μ0 rd ty all M μ R kvs) (no : NodeOk new nd) (oc : ∀ i, (∃ n ps, nd = .mk n (.h i) ps) → occTs i all = true) (lM : M.length < 100000)
    {τ : TV.Env} {D : En} (v1 v4 v6 v7 v8 v9 v10 : Option T) (eτ : τ = [some (.tup (new.map Kd.t)), v1, some (.ref rd), some (.ref ty), v4, some nd.t, v6, v7, v8, v9, v10])
    (nx : ∀ (μ' : Mu) (v6 v7 v8 v9 v10 : Option T) R' kvs', Ext μ0 μ' → (∀ b o, b ≠ rd → b ≠ ty → μ b = some o → μ' b = some o) → RInv new μ0 rd ty all (M ++ [nd]) μ' R' kvs' → D.nx [some (.tup (new.map Kd.t)), v1, some (.ref rd), some (.ref ty), v4, some nd.t, v6, v7, v8, v9, v10] μ') :
    wSs Φ (.cons (.set 6 (.ix (.ix (.var 5) (.int 1)) (.int 1)))
    (.cons (.ite (.cmp .NotIn (.var 6) (.var 2)) (.cons (.set 7 (.bi .sorted (.cons (.lc (.tup (.cons (.bin .Sub (.int 0) (.call .law_number (.cons (.ix (.ix (.var 5) (.int 2)) (.var 10)) .nil))) (.cons (.var 10) .nil))) (.nm 10) (.rng1 (.bi .len (.cons (.ix (.var 5) (.int 2)) .nil))) .none [10]) .nil)))
    (.cons (.set 8 (.lc (.ix (.var 9) (.int 1)) (.nm 9) (.val (.var 7)) .none [9]))
    (.cons (.sub (.var 2) (.var 6) (.lst (.cons (.bi .len (.cons (.var 2) .nil)) (.cons (.var 8) .nil))))
    (.cons (.ex (.me .append (.var 3) (.cons (.tup (.cons (.bi .tuple (.cons (.lc (.ix (.ix (.ix (.var 0) (.var 6)) (.int 0)) (.var 10)) (.nm 10) (.val (.var 8)) .none [10]) .nil)) (.cons (.ix (.ix (.var 0) (.var 6)) (.int 1)) .nil))) .nil))) .nil)))) (.nil)) .nil)) D τ μ := by
  subst eτ
  obtain ⟨n, i, a', z, ms, own, rfl, i0, en, la, m1, m2, ka⟩ := no
  have oci := oc i ⟨n, _, rfl⟩
  have lms := m2.length
  have lps : (longs a' ms).length = a'.length := longs_len m2
  have okI := I
  obtain ⟨hd, ht, hr, hnd, hok, hal, hln, hex⟩ := I
  rw [tm_t]
  walk_at "wgo"
  refine x_tup (l := [.str "h", .int i]) rfl ?_
  walk_at "wgo"
  refine c_notin (in_dicI hd ?_)
  refine ⟨_, rfl, ?_⟩
  rw [lookT_any]
  cases e0 : lookT kvs (.inl i) with
  | some t0 =>
    refine ite_ff rfl ?_
    refine v_nil (Φ := Φ) (v_nil (Φ := Φ) ?_)
    have : ∃ row ∈ R, row.1 = i := by
      refine Classical.byContradiction fun zz => ?_
      rw [hr.no i fun row' hr' e' => zz ⟨row', hr', e'⟩] at e0
      cases e0
    have := nx μ (some (.int i)) v7 v8 v9 v10 R kvs hex (fun b o _ _ e => e) ⟨hd, ht, hr, hnd, hok, fun n' i' ps' hm => by
      rcases List.mem_append.mp hm with hm | hm
      · exact hal n' i' ps' hm
      · rw [List.mem_singleton] at hm
        injection hm with _ hm _
        injection hm with hm
        rw [hm]; exact this, by rw [List.length_append]; omega, hex⟩
    rw [tm_t] at this
    exact this
  | none =>
    refine ite_tt rfl ?_
    walk_at "wgo"
    rw [List.length_map, lps]
    refine ⟨⟨by omega, by omega⟩, fun D7 hD7 => ?_⟩
    rw [Int.toNat_natCast]
    have em : (List.range a'.length).map (fun (j : Nat) => pairI (0 - (ms[j]?.getD 0 : Nat), (j : Int))) = ((List.range a'.length).map fun (j : Nat) => ((0 : Int) - (ms[j]?.getD 0 : Nat), (j : Int))).map pairI := by rw [List.map_map]; rfl
    refine lcT_pure (f := fun (j : Nat) => T.int (j : Int)) (wE_mono _) (fun (j : Nat) => pairI ((0 : Int) - (ms[j]?.getD 0 : Nat), (j : Int))) hD7 (fun _ _ => trivial) (by rw [line_eq]; simp; omega) (fun j hj μ1 e1 => ?_) fun μ1 e1 hl1 => ?_
    · have hj2 : j < a'.length := List.mem_range.mp hj
      obtain ⟨m, hm, hnm, hlg⟩ := longs_at m2 (List.getElem?_eq_getElem hj2)
      obtain ⟨n9, i9, ps9, e9⟩ : ∃ n9 i9 ps9, longM 1 (.b m) a'[j] = .mk n9 (.b i9) ps9 ∧ i9 - n9 = m := by
        generalize a'[j] = kd
        obtain ⟨a0, z0⟩ := kd
        exact ⟨_, _, _, long1 _, by omega⟩
      walk_at "wgo"
      refine x_tup (t := (longM 1 (.b m) a'[j]).t) (L2.atI_nat (by rw [List.getElem?_map, hlg]; rfl)) ?_
      walk_at "wgo"
      rw [e9.1]
      refine call_mk h3 ⟨n9, i9, ps9⟩ rfl hk fun t μ2 ⟨e2, et⟩ => ?_
      subst et
      dsimp only
      walk_at "wgo"
      refine ⟨by rw [line_eq]; simp, ?_⟩
      rw [e9.2, hm]
      exact ⟨e2, rfl⟩
    · rw [em] at hl1
      walk_at "wgo"
      refine b_sorted hl1 fun ks p hks hso hp => ?_
      obtain ⟨o, eo, po⟩ := perm_nats hks
      have hl2 : (mset μ1 p (.lst (ks.map pairI))) p = some (.lst (ks.map pairI)) := mset_same
      have e2 : Ext μ _ := e1.trans (ExtX.new (o := .lst (ks.map pairI)) hp)
      generalize mset μ1 p (.lst (ks.map pairI)) = μ2 at hl2 e2 ⊢
      have lk : ks.length = a'.length := by rw [hks.length_eq]; simp
      walk_at "wgo"
      refine ⟨_, hl2, fun D8 hD8 => ?_⟩
      refine lcT_pure (f := pairI) (wE_mono _) (fun q => T.int q.2) hD8 (fun _ e => Ext.at e hl2) (by rw [line_eq]; omega) (fun q hq μ3 e3 => ?_) fun μ3 e3 hl3 => ?_
      · walk_at "wgo"
        refine x_tup (l := [.int q.1, .int q.2]) rfl ?_
        exact ⟨ExtX.refl, rfl⟩
      · rw [eo] at hl3
        have lo : o.length = a'.length := by rw [po.length_eq]; simp
        have ex3 := e2.trans e3
        have hd3 := Ext.at ex3 hd
        have ht3 := Ext.at ex3 ht
        refine v_cons (v_subD ?_)
        walk_at "wgo"
        refine b_len (len_dic hd3) ?_
        walk_at "wgo"
        refine ⟨by rw [line_eq]; simp, fun r hr4 => ?_⟩
        rw [hr.len]
        have nrd : rd ≠ r := ne_of_new hr4 hd3
        have nty : ty ≠ r := ne_of_new hr4 ht3
        have hl4 := (mset_ne (o := .lst [.int (R.length : Nat), .ref D8]) (ne_of_new hr4 hl3)).trans hl3
        have hd4 := (mset_ne (o := .lst [.int (R.length : Nat), .ref D8]) nrd).trans hd3
        have ht4 := (mset_ne (o := .lst [.int (R.length : Nat), .ref D8]) nty).trans ht3
        have hr4' : (mset μ3 r (.lst [.int (R.length : Nat), .ref D8])) r = some (.lst [.int (R.length : Nat), .ref D8]) := mset_same
        have ex4 : Ext μ _ := ex3.trans (ExtX.new (o := .lst [.int (R.length : Nat), .ref D8]) hr4)
        generalize mset μ3 r (.lst [.int (R.length : Nat), .ref D8]) = μ4 at hl4 hd4 ht4 hr4' ex4 ⊢
        walk_at "wgo"
        refine ⟨rd, kvs, .inl i, rfl, hd4, rfl, by rw [hr.len]; omega, ?_⟩
        have nD8 : D8 ≠ rd := fun zz => by subst zz; rw [hd4] at hl4; cases hl4
        have nr8 : r ≠ rd := nrd.symm
        have hl5 := (mset_ne (μ := μ4) (o := .dic (putT kvs (.inl i) (.ref r))) nD8).trans hl4
        have ht5 := (mset_ne (μ := μ4) (o := .dic (putT kvs (.inl i) (.ref r))) nrt.symm).trans ht4
        have hr5 := (mset_ne (μ := μ4) (o := .dic (putT kvs (.inl i) (.ref r))) nr8).trans hr4'
        have hd5 : (mset μ4 rd (.dic (putT kvs (.inl i) (.ref r)))) rd = some (.dic (putT kvs (.inl i) (.ref r))) := mset_same
        have keep5 : ∀ b o', b ≠ rd → μ4 b = some o' → (mset μ4 rd (.dic (putT kvs (.inl i) (.ref r)))) b = some o' := fun b o' hb e => by rw [mset_ne hb]; exact e
        have ex5 : Ext μ0 (mset μ4 rd (.dic (putT kvs (.inl i) (.ref r)))) := (hex.trans ex4).later hrd
        generalize mset μ4 rd (.dic (putT kvs (.inl i) (.ref r))) = μ5 at hl5 ht5 hr5 hd5 keep5 ex5 ⊢
        walk_at "wgo"
        refine ⟨⟨_, ht5⟩, ?_⟩
        walk_at "wgo"
        refine ⟨_, hl5, fun D9 hD9 => ?_⟩
        refine lcT_pure (f := natT) (l := o) (wE_mono _) (fun (j : Nat) => (a'[j]?.getD kA).t) hD9 (fun _ e => Ext.at e hl5) (by rw [line_eq]; omega) (fun j hj μ6 e6 => ?_) fun μ6 e6 hl6 => ?_
        · have hj2 : j < a'.length := List.mem_range.mp (po.mem_iff.mp hj)
          walk_at "wgo"
          refine x_tup (new_at i0 en) ?_
          walk_at "wgo"
          refine x_tup (hs_at hj2) ?_
          exact ⟨ExtX.refl, rfl⟩
        · have e8 : (o.map fun (j : Nat) => (a'[j]?.getD kA).t) = (o.map fun (j : Nat) => a'[j]?.getD kA).map Kd.t := by rw [List.map_map]; rfl
          rw [e8] at hl6
          walk_at "wgo"
          refine b_tuple (items_lst hl6) ?_
          walk_at "wgo"
          refine x_tup (new_at i0 en) ?_
          walk_at "wgo"
          refine ⟨by rw [line_eq]; simp, ?_⟩
          rw [← kd_t]
          walk_at "wgo"
          have ht6 := Ext.at e6 ht5
          refine m_append ht6 (by rw [line_eq, List.length_map, List.length_map]; omega) ?_
          refine v_nil (Φ := Φ) (v_nil (Φ := Φ) ?_)
          have pk : permK new (i, o) = .mk (o.map fun (j : Nat) => a'[j]?.getD kA) z := by unfold permK; rw [en]
          have nw : ∀ row ∈ R, row.1 ≠ i := fun row hm ei => by
            obtain ⟨p', hp'⟩ := List.getElem?_of_mem hm
            obtain ⟨r', o', a1, _⟩ := hr.at_ p' row hp'
            rw [ei, e0] at a1
            cases a1
          have ext7 : ∀ b o', b ≠ rd → b ≠ ty → μ b = some o' → (mset μ6 ty (.lst ((R.map (permK new)).map Kd.t ++ [(Kd.mk (o.map fun (j : Nat) => a'[j]?.getD kA) z).t]))) b = some o' := fun b o' hb hb2 e => by
            rw [mset_ne hb2]; exact Ext.at e6 (keep5 b o' hb (Ext.at ex4 e))
          have ex7 : Ext μ0 (mset μ6 ty (.lst ((R.map (permK new)).map Kd.t ++ [(Kd.mk (o.map fun (j : Nat) => a'[j]?.getD kA) z).t]))) := (ex5.trans e6).later hty
          have nr1 : r ≠ ty := nty.symm
          have nD1 : D8 ≠ ty := fun zz => by subst zz; rw [ht5] at hl5; simp only [Option.some.injEq, MO.lst.injEq] at hl5; exact absurd hD8 (by rw [Ext.at e2 ht]; exact fun z => by cases z)
          have rows : RowsOk (R ++ [(i, o)]) (putT kvs (.inl i) (.ref r)) (mset μ6 ty (.lst ((R.map (permK new)).map Kd.t ++ [(Kd.mk (o.map fun (j : Nat) => a'[j]?.getD kA) z).t]))) := by
            -- the rows' own lists are neither the dict nor the types
            have old : RowsOk R kvs (mset μ6 ty (.lst ((R.map (permK new)).map Kd.t ++ [(Kd.mk (o.map fun (j : Nat) => a'[j]?.getD kA) z).t]))) := by
              refine ⟨hr.len, fun p' row hp' => ?_, hr.no⟩
              obtain ⟨r', o', a1, a2, a3⟩ := hr.at_ p' row hp'
              refine ⟨r', o', a1, ext7 r' _ (fun zz => by subst zz; rw [hd] at a2; cases a2) (fun zz => by subst zz; rw [ht] at a2; exact kt_no_int (MO.lst.inj (Option.some.inj a2))) a2, ext7 o' _ (fun zz => by subst zz; rw [hd] at a3; cases a3) (fun zz => by
                subst zz
                rw [ht] at a3
                have a4 := MO.lst.inj (Option.some.inj a3)
                obtain ⟨ri, ro⟩ := row
                cases ro with
                | nil =>
                  have h8 := congrArg List.length a4
                  have h9 := (List.getElem?_eq_some_iff.mp hp').1
                  rw [List.length_map, List.length_map] at h8
                  have h8 : R.length = 0 := h8
                  omega
                | cons x xs => exact kt_no_int a4) a3⟩
            refine old.snoc ExtX.refl nw ?_ ?_ (oa := D8)
            · rw [mset_ne nr1]; exact Ext.at e6 hr5
            · rw [mset_ne nD1]; exact Ext.at e6 hl5
          have := nx _ (some (.int i)) (some (.ref p)) (some (.ref D8)) v9 v10 (R ++ [(i, o)]) (putT kvs (.inl i) (.ref r)) ex7 ext7 ⟨?_, ?_, rows, ?_, ?_, ?_, ?_, ex7⟩
          · rw [tm_t] at this
            exact this
          · rw [mset_ne nrt]; exact Ext.at e6 hd5
          · rw [mset_same, List.map_append, List.map_append, List.map_singleton, List.map_singleton, pk]
          · rw [List.map_append, List.nodup_append]
            refine ⟨hnd, by simp, fun x hx y hy => ?_⟩
            simp only [List.map_cons, List.map_nil, List.mem_singleton] at hy
            subst hy
            obtain ⟨row, hm, rfl⟩ := List.mem_map.mp hx
            exact nw row hm
          · intro row hm
            rcases List.mem_append.mp hm with hm | hm
            · exact hok row hm
            · rw [List.mem_singleton] at hm
              subst hm
              exact ⟨⟨i0, a', z, en, po⟩, oci⟩
          · intro n' i' ps' hm
            rcases List.mem_append.mp hm with hm | hm
            · obtain ⟨row, h1, h2⟩ := hal n' i' ps' hm
              exact ⟨row, List.mem_append_left _ h1, h2⟩
            · rw [List.mem_singleton] at hm
              injection hm with _ hm _
              injection hm with hm
              exact ⟨(i, o), by simp, hm.symm⟩
          · rw [List.length_append, List.length_append]; simp; exact hln

theorem v_law_rows_of (h1 : Φ .law_met = cMt k) (h3 : Φ .law_number = cNu k) (x : RoX) (μ : Mu) (pp : RoP k 3 x μ) (post : T → Mu → Prop)
    (q : ∀ r rd kvs R μ', Ext μ μ' → μ' r = some (.lst [.ref rd, .tup ((R.map (permK x.new)).map Kd.t)]) → μ' rd = some (.dic kvs) → RowsOk R kvs μ' → RowsOf x.new x.ts R → post (.ref r) μ') : wSs Φ b_law_rows_of (endsOf post) (startT 11 (inRo x)) μ := by
  obtain ⟨new, p, ts⟩ := x
  obtain ⟨e, kn, ⟨s, h, so, ty, hk, h8⟩, l3⟩ := pp
  dsimp only at *
  have cap : ∀ t ∈ ts, tsz t ≤ 10000 := fun t ht => by
    obtain ⟨kd, _, w⟩ := ty t ht
    have mono : ∀ n m : Nat, n ≤ m → capB n ≤ capB m := by
      intro n m hnm
      induction hnm with
      | refl => exact Nat.le_refl _
      | step _ ih => exact Nat.le_trans ih (by show _ ≤ 1 + 3 * capB _; omega)
    exact Nat.le_trans w.size (Nat.le_trans (mono h 8 h8) (by decide))
  have lmt : ∀ l : List Tm, (∀ t ∈ l, t ∈ ts) → (metMs l).length ≤ 10000 * l.length := by
    intro l
    induction l with
    | nil => intro _; simp [metMs]
    | cons t l ih =>
      intro hl
      have a := met_len t
      have b := cap t (hl t List.mem_cons_self)
      have c := ih fun y hy => hl y (List.mem_cons_of_mem _ hy)
      rw [metMs, List.length_append, List.length_cons, Nat.mul_succ]; omega
  refine (show wSs Φ _ _ (startT 11 [.tup (new.map Kd.t), .ref p]) μ from ?_)
  refine v_step rfl ?_
  walk_at "wgo"
  intro rd hrd
  refine v_step rfl ?_
  walk_at "wgo"
  refine ⟨by rw [line_eq]; simp, fun ty0 hty => ?_⟩
  have nrt : rd ≠ ty0 := ne_of_new hty mset_same
  have hty0 : μ ty0 = none := by rw [mset_ne nrt.symm] at hty; exact hty
  have hd1 := (mset_ne (o := .lst []) nrt).trans (mset_same (μ := μ) (a := rd) (o := .dic []))
  have ht1 : (mset (mset μ rd (.dic [])) ty0 (.lst [])) ty0 = some (.lst []) := mset_same
  have ex1 : Ext μ _ := (ExtX.new (o := .dic []) hrd).trans (ExtX.new (o := .lst []) hty)
  generalize mset (mset μ rd (.dic [])) ty0 (.lst []) = μ1 at hd1 ht1 ex1 ⊢
  have I0 : RInv new μ rd ty0 ts [] μ1 [] [] := ⟨hd1, ht1, ⟨rfl, fun p row hp => by simp at hp, fun i _ => rfl⟩, List.nodup_nil, (fun row hm => by cases hm), (fun n i ps hm => by cases hm), Nat.le_refl _, ex1⟩
  have npr : p ≠ rd := ne_of_new hrd e
  have npt : p ≠ ty0 := ne_of_new hty0 e
  refine v_step rfl ?_
  walk_at "wgo"
  refine ⟨_, Ext.at ex1 e, ?_⟩
  refine forT_inv (f := Tm.t) (wSs_mono _) (fun rest τ μ' => ∃ done R kvs v4 v5 v6 v7 v8 v9 v10, ts = done ++ rest ∧ τ = [some (.tup (new.map Kd.t)), some (.ref p), some (.ref rd), some (.ref ty0), v4, v5, v6, v7, v8, v9, v10] ∧ RInv new μ rd ty0 ts (metMs done) μ' R kvs) (fun _ _ _ ⟨done, R, kvs, v4, v5, v6, v7, v8, v9, v10, _, _, I⟩ => Ext.at I.ex e) ?_ ?_ ts _ _ ⟨[], [], [], none, none, none, none, none, none, none, rfl, rfl, I0⟩
  · rintro τ μ' ⟨done, R, kvs, v4, v5, v6, v7, v8, v9, v10, e0, rfl, I⟩
    rw [List.append_nil] at e0
    subst e0
    obtain ⟨hd, ht, hr, hnd, hok, hal, hln, hex⟩ := I
    refine v_step rfl ?_
    walk_at "wgo"
    refine b_tuple (items_lst ht) ?_
    walk_at "wgo"
    refine ⟨by rw [line_eq]; simp, fun r hr5 => ?_⟩
    refine q r rd kvs R _ (hex.trans (ExtX.new hr5)) mset_same ?_ (hr.ext (A := NoA) (ExtX.new hr5)) ⟨hnd, hok, fun i hi => ?_⟩
    · rw [mset_ne (ne_of_new hr5 hd)]; exact hd
    · obtain ⟨n, ps, hm⟩ := occ_mets i _ hi
      exact hal n i ps hm
  · rintro t rest τ μ' ⟨done, R, kvs, v4, v5, v6, v7, v8, v9, v10, e0, rfl, I⟩
    have mt : t ∈ ts := by rw [e0]; simp
    obtain ⟨kd, kk, w⟩ := ty t mt
    cases h with
    | zero => exact w.elim
    | succ h =>
    have mo := met_ok so.kd kn (h + 1) (by simp) kk w
    have ocs : ∀ i, occT i t = true → occTs i ts = true := fun i hi => by
      rw [e0, occTs_app, occTs, hi]; simp
    have ldone : (metMs done).length + tsz t ≤ 40000 := by
      have a := lmt done fun y hy => by rw [e0]; exact List.mem_append_left _ hy
      have b := cap t mt
      have c : done.length ≤ 3 := by have : done.length < ts.length := by { rw [e0]; simp }; omega
      omega
    walk_at "wgo"
    refine ⟨by rw [line_eq]; simp, fun p9 hp9 => ?_⟩
    walk_at "wgo"
    have hl9 : (mset μ' p9 (.lst ([] : List T))) p9 = some (.lst (([] : List Tm).map Tm.t)) := mset_same
    refine call_mk h1 ⟨t, p9, []⟩ rfl ⟨hl9, ⟨h, w.tle, by omega⟩, by dsimp only; simp; omega⟩ fun t9 μ2 ⟨e2, et, hl2⟩ => ?_
    subst et
    dsimp only at hl2 e2
    rw [List.nil_append] at hl2
    have ex2 : Ext μ' μ2 := fun b o nb eb => e2 b o (fun z => by
      have z : b = p9 := z
      subst z; rw [hp9] at eb; cases eb) (Ext.at (ExtX.new hp9) eb)
    obtain ⟨hd, ht, hr, hnd, hok, hal, hln, hex⟩ := I
    have n9d : p9 ≠ rd := (ne_of_new hp9 hd).symm
    have n9t : p9 ≠ ty0 := (ne_of_new hp9 ht).symm
    walk_at "wgo"
    refine ⟨_, hl2, ?_⟩
    refine forT_inv (f := Tm.t) (wSs_mono _) (fun rest9 τ μ3 => ∃ done9 R kvs v5 v6 v7 v8 v9 v10, metM t = done9 ++ rest9 ∧ τ = [some (.tup (new.map Kd.t)), some (.ref p), some (.ref rd), some (.ref ty0), some t.t, v5, v6, v7, v8, v9, v10] ∧ RInv new μ rd ty0 ts (metMs done ++ done9) μ3 R kvs ∧ μ3 p9 = some (.lst ((metM t).map Tm.t))) (fun _ _ _ ⟨_, _, _, _, _, _, _, _, _, _, _, _, z⟩ => z) ?_ ?_ (metM t) _ _ ⟨[], R, kvs, v5, v6, v7, v8, v9, v10, rfl, rfl, ⟨Ext.at ex2 hd, Ext.at ex2 ht, hr.ext (A := NoA) ex2, hnd, hok, by rw [List.append_nil]; exact hal, by rw [List.append_nil]; exact hln, hex.trans ex2⟩, hl2⟩
    · rintro τ μ3 ⟨done9, R, kvs, v5, v6, v7, v8, v9, v10, e9, rfl, I, hl⟩
      rw [List.append_nil] at e9
      subst e9
      refine v_nil (Φ := Φ) ?_
      refine ⟨done ++ [t], R, kvs, _, v5, v6, v7, v8, v9, v10, by rw [e0]; simp, rfl, ?_⟩
      rw [metMs_app]
      simp only [metMs, List.append_nil]
      exact I
    · rintro nd rest9 τ μ3 ⟨done9, R, kvs, v5, v6, v7, v8, v9, v10, e9, rfl, I, hl⟩
      have mnd : nd ∈ metM t := by rw [e9]; simp
      obtain ⟨no, i, ei, oi⟩ := mo nd mnd
      have l9 : done9.length ≤ tsz t := by
        have := met_len t
        rw [e9, List.length_append] at this; omega
      walk_at "w1"
      refine inner_rows h3 (by omega) kn hrd hty0 nrt I no (fun i' ⟨n', ps', e'⟩ => ?_) (by rw [List.length_append]; omega) _ _ _ _ _ _ _ rfl fun μ' v6 v7 v8 v9 v10 R' kvs' ex7 keep I' => ?_
      · obtain ⟨n2, ps2, e2'⟩ := ei
        rw [e2'] at e'
        injection e' with _ e' _
        injection e' with e'
        rw [← e']
        exact ocs i oi
      · exact ⟨done9 ++ [nd], R', kvs', _, v6, v7, v8, v9, v10, by rw [e9]; simp, rfl, by rw [← List.append_assoc]; exact I', keep p9 _ n9d n9t hl⟩
end K07

namespace K07
open PySem PySem.Spec TV
open L2 (ixN atI Key)
variable {Φ : Fn → TV.Con} {k : Nat}
/-! _law_ordered, _law_tidied -/
theorem mem_occTs {y : Tm} {i : Int} : ∀ {l : List Tm}, y ∈ l → occT i y = true → occTs i l = true
  | x :: l, hy, hi => by
    rw [occTs]
    rcases List.mem_cons.mp hy with rfl | hl
    · rw [hi]; rfl
    · rw [mem_occTs hl hi, Bool.or_true]
def findR : List Row → Int → Option (Nat × List Nat)
  | [], _ => none
  | (j, o) :: r, i => if j = i then some (0, o) else (findR r i).map fun q => (q.1 + 1, q.2)
theorem findR_some : ∀ {R : List Row} {i : Int}, (∃ row ∈ R, row.1 = i) → ∃ p o, findR R i = some (p, o) ∧ R[p]? = some (i, o)
  | [], _, ⟨_, h, _⟩ => by cases h
  | (j, o) :: r, i, ⟨row, h, e⟩ => by
    unfold findR
    by_cases hj : j = i
    · rw [if_pos hj]; subst hj; exact ⟨0, o, rfl, rfl⟩
    · rw [if_neg hj]
      have : ∃ row ∈ r, row.1 = i := by
        rcases List.mem_cons.mp h with rfl | h
        · exact absurd e hj
        · exact ⟨row, h, e⟩
      obtain ⟨p, o', a, b⟩ := findR_some this
      rw [a]
      exact ⟨p + 1, o', rfl, by simpa using b⟩
theorem findR_at : ∀ {R : List Row} {i : Int} {p : Nat} {o : List Nat}, (R.map (·.1)).Nodup → R[p]? = some (i, o) → findR R i = some (p, o)
  | [], _, _, _, _, e => by simp at e
  | (j, o') :: r, i, 0, o, _, e => by
    simp at e
    obtain ⟨rfl, rfl⟩ := e
    unfold findR
    rw [if_pos rfl]
  | (j, o') :: r, i, p + 1, o, nd, e => by
    rw [List.map_cons, List.nodup_cons] at nd
    have e' : r[p]? = some (i, o) := by simpa using e
    unfold findR
    rw [if_neg (fun z => nd.1 (by
      have z : j = i := z
      show j ∈ _
      rw [z]; exact List.mem_map.mpr ⟨(i, o), List.mem_of_getElem? e', rfl⟩)), findR_at nd.2 e']
    rfl
def tm0 : Tm := .mk 0 (.b 0) []
mutual
def ordM (R : List Row) : Tm → Tm
  | .mk n (.h i) ps => match findR R i with
    | some (p, o) => .mk n (.h p) (o.map fun (j : Nat) => (ordMs R ps)[j]?.getD tm0)
    | none => .mk n (.h i) ps
  | .mk n (.b i) ps => .mk n (.b i) (ordMs R ps)
  | .mk n (.c i) ps => .mk n (.c i) (ordMs R ps)
def ordMs (R : List Row) : List Tm → List Tm
  | [] => []
  | x :: xs => ordM R x :: ordMs R xs
end
theorem ordMs_map (R : List Row) : ∀ l : List Tm, ordMs R l = l.map (ordM R)
  | [] => by unfold ordMs; rfl
  | x :: xs => by unfold ordMs; rw [ordMs_map R xs]; rfl
theorem ord_long (R : List Row) {m : Int} {kd : Kd} (ok : KOk 1 kd) : ordM R (longM 1 (.b m) kd) = longM 1 (.b m) kd := by
  obtain ⟨a, z⟩ := kd
  rw [long1' _ ok, ordM, ordMs_map, List.map_map]
  refine congrArg (Tm.mk _ _) ?_
  refine List.map_congr_left fun j _ => ?_
  show ordM R (.mk 0 (.b _) []) = _
  rw [ordM]; rfl
theorem ord_longs (R : List Row) {own a : List Kd} {ms : List Nat} (ok : ∀ y ∈ a, KOk 1 y) (h : All2 (NumOk own) a ms) : ordMs R (longs a ms) = longs a ms := by
  unfold longs
  induction h with
  | nil => rfl
  | cons _ _ ih => rw [List.zipWith_cons_cons, ordMs, ord_long R (ok _ List.mem_cons_self), ih fun y hy => ok y (List.mem_cons_of_mem _ hy)]
theorem longs_perm {own a : List Kd} {ms : List Nat} (h : All2 (NumOk own) a ms) : ∀ {o : List Nat}, (∀ j ∈ o, j < a.length) → (o.map fun (j : Nat) => (longs a ms)[j]?.getD tm0) = longs (o.map fun (j : Nat) => a[j]?.getD kA) (o.map fun (j : Nat) => ms[j]?.getD 0) ∧ All2 (NumOk own) (o.map fun (j : Nat) => a[j]?.getD kA) (o.map fun (j : Nat) => ms[j]?.getD 0)
  | [], _ => ⟨rfl, .nil⟩
  | j :: o, ho => by
    have hj := ho j List.mem_cons_self
    obtain ⟨m, hm, n, hl⟩ := longs_at h (List.getElem?_eq_getElem hj)
    obtain ⟨i1, i2⟩ := longs_perm h fun x hx => ho x (List.mem_cons_of_mem _ hx)
    constructor
    · rw [List.map_cons, i1, hl, List.map_cons, List.map_cons, hm, List.getElem?_eq_getElem hj]
      unfold longs
      rw [List.zipWith_cons_cons]
      rfl
    · rw [List.map_cons, List.map_cons, hm, List.getElem?_eq_getElem hj]
      exact .cons n i2
theorem perm_nodup {ms o : List Nat} (nd : ms.Nodup) (h : o.Perm (List.range ms.length)) : (o.map fun (j : Nat) => ms[j]?.getD 0).Nodup := by
  have p := h.map fun (j : Nat) => ms[j]?.getD 0
  have e : (List.range ms.length).map (fun (j : Nat) => ms[j]?.getD 0) = ms := by
    refine List.ext_getElem? fun j => ?_
    rw [List.getElem?_map]
    by_cases hj : j < ms.length
    · rw [List.getElem?_range hj]; simp [hj]
    · rw [List.getElem?_eq_none (by simp; omega), List.getElem?_eq_none (by omega)]; rfl
  rw [e] at p
  exact p.nodup_iff.mpr nd
theorem ord_ok {s : Sig} {new : List Kd} {R : List Row} (so : ∀ p ∈ s, KOk 2 p.2) (kn : ∀ x ∈ new, KOk 2 x) (ro : ∀ row ∈ R, RowOk new row) : ∀ (h : Nat) {own : List Kd} {kd : Kd} {tm : Tm}, (∀ x ∈ own, KOk 2 x) → KOk 2 kd → DT s new (h + 1) own kd tm → (∀ i, occT i tm = true → ∃ row ∈ R, row.1 = i) → DT s (R.map (permK new)) (h + 2) own kd (ordM R tm)
  | h, own, .mk a z, .mk n hd ps, ko, kk, ⟨q1, a', q2, q3, q4, q5⟩, oc => by
    have oo : ∀ y ∈ own ++ a, KOk 2 y := fun y hy => by
      rcases List.mem_append.mp hy with hy | hy
      · exact ko y hy
      · exact (kk.2.2 y hy).succ
    have ka' : KOk 2 (.mk a' z) := hdK_kok so kn oo q2
    have parts : (∀ i, occTs i ps = true → ∃ row ∈ R, row.1 = i) → All2 (fun k p => DT s (R.map (permK new)) (h + 1) (own ++ a) k p) a' (ordMs R ps) := by
      intro oc
      rw [ordMs_map]
      refine all2_of_get (by rw [List.length_map]; exact q5.length) fun j x y hx hy => ?_
      obtain ⟨p, hp, w⟩ := all2_nth q5 hx
      rw [List.getElem?_map, hp] at hy
      cases hy
      cases h with
      | zero => exact w.elim
      | succ h =>
      refine ord_ok so kn ro h oo (ka'.2.2 x (List.mem_of_getElem? hx)).succ w fun i hi => oc i ?_
      have : ∀ {l : List Tm}, p ∈ l → occTs i l = true := by
        intro l hl
        induction l with
        | nil => cases hl
        | cons y l ih =>
          rw [occTs]
          rcases List.mem_cons.mp hl with rfl | hl
          · rw [hi]; rfl
          · rw [ih hl, Bool.or_true]
      exact this (List.mem_of_getElem? hp)
    cases hd with
    | b i =>
      rw [ordM]
      exact ⟨q1, a', q2, q3, fun _ e => (by cases e), parts fun i hi => oc i (by rw [occT]; exact hi)⟩
    | c i =>
      rw [ordM]
      exact ⟨q1, a', q2, q3, fun _ e => (by cases e), parts fun i hi => oc i (by rw [occT]; exact hi)⟩
    | h i =>
      obtain ⟨ms, m1, m2, m3⟩ := q4 i rfl
      obtain ⟨p, o, f1, f2⟩ := findR_some (oc i (by rw [occT]; simp))
      obtain ⟨i0, a2, z2, en, po⟩ := ro _ (List.mem_of_getElem? f2)
      dsimp only at i0 en po
      have q2' := q2
      simp only [hdK] at q2'
      split at q2'
      · rename_i hi
        rw [en] at q2'
        injection q2' with q2'
        injection q2' with e1 e2
        subst e1 e2
        rw [ordM, f1]
        simp only
        rw [m3, ord_longs R ka'.2.2 m2]
        have ho : ∀ j ∈ o, j < a2.length := fun j hj => List.mem_range.mp (po.mem_iff.mp hj)
        obtain ⟨g1, g2⟩ := longs_perm m2 ho
        rw [g1]
        have lo : o.length = a2.length := by rw [po.length_eq]; simp
        have nd' : (o.map fun (j : Nat) => ms[j]?.getD 0).Nodup := perm_nodup m1 (by rw [← m2.length]; exact po)
        have pk : permK new (i, o) = .mk (o.map fun (j : Nat) => a2[j]?.getD kA) z2 := by unfold permK; simp only [en]
        refine ⟨q1, o.map fun (j : Nat) => a2[j]?.getD kA, ?_, by rw [List.length_map, lo]; exact q3, fun _ _ => ⟨_, nd', g2, rfl⟩, ?_⟩
        · simp only [hdK]
          have hp : p < R.length := (List.getElem?_eq_some_iff.mp f2).1
          rw [if_pos (by rw [List.length_map] <;> omega), List.getElem?_map]
          have : ((p : Nat) : Int).toNat = p := by omega
          rw [this, f2]
          show some (permK new (i, o)) = _
          rw [pk]
        · refine all2_of_get (by rw [longs_len g2]) fun j x y hx hy => ?_
          obtain ⟨m, _, n', hl⟩ := longs_at g2 hx
          rw [hl] at hy
          cases hy
          have kx : KOk 1 x := by
            rw [List.getElem?_map] at hx
            cases ej : o[j]? with
            | none => rw [ej] at hx; cases hx
            | some j' =>
              rw [ej] at hx
              have hj' := ho j' (List.mem_of_getElem? ej)
              simp only [Option.map_some, Option.some.injEq] at hx
              rw [List.getElem?_eq_getElem hj'] at hx
              subst hx
              exact ka'.2.2 _ (List.getElem_mem hj')
          have h1 : 1 ≤ h := by
            cases h with
            | succ h => omega
            | zero =>
              exfalso
              cases o with
              | nil => simp at hx
              | cons j0 o =>
                obtain ⟨y, _, w⟩ := all2_nth q5 (List.getElem?_eq_getElem (ho j0 List.mem_cons_self))
                exact w.elim
          exact (WG.long (fun _ _ _ _ _ e => (by cases e)) kx n'.1 n'.2).mono (by omega)
      · cases q2'
mutual
theorem occ_ord {R : List Row} (nd : (R.map (·.1)).Nodup) {i : Int} {p : Nat} {o : List Nat} (e : R[p]? = some (i, o)) : ∀ t : Tm, occT i t = true → occT p (ordM R t) = true
  | .mk n (.h j) ps, h => by
    rw [occT] at h
    have : j = i := by simpa using h
    subst this
    rw [ordM, findR_at nd e]
    simp only
    rw [occT]
    simp
  | .mk n (.b j) ps, h => by rw [occT] at h; rw [ordM, occT]; exact occ_ords nd e ps h
  | .mk n (.c j) ps, h => by rw [occT] at h; rw [ordM, occT]; exact occ_ords nd e ps h
theorem occ_ords {R : List Row} (nd : (R.map (·.1)).Nodup) {i : Int} {p : Nat} {o : List Nat} (e : R[p]? = some (i, o)) : ∀ l : List Tm, occTs i l = true → occTs p (ordMs R l) = true
  | [], h => by rw [occTs] at h; cases h
  | x :: xs, h => by
    rw [occTs] at h
    rw [ordMs, occTs]
    rcases Bool.or_eq_true_iff.mp h with h | h
    · rw [occ_ord nd e x h]; rfl
    · rw [occ_ords nd e xs h, Bool.or_true]
end
structure OrX where
  tm : Tm
  rd : Addr
  kvs : Dic
  R : List Row
def inOr (x : OrX) : List T := [x.tm.t, .ref x.rd]
structure OrP (k c : Nat) (x : OrX) (μ : Mu) : Prop where
  e : μ x.rd = some (.dic x.kvs)
  r : RowsOk x.R x.kvs μ
  ty : ∃ s new own kd h, (∀ p ∈ s, KOk 2 p.2) ∧ (∀ y ∈ new, KOk 2 y) ∧ (∀ y ∈ own, KOk 2 y) ∧ KOk 2 kd ∧ DT s new h own kd x.tm ∧ (∀ row ∈ x.R, RowOk new row) ∧ (∀ i, occT i x.tm = true → ∃ row ∈ x.R, row.1 = i) ∧ h + c ≤ k
theorem inOr_inj {k c : Nat} (x y : OrX) (μ : Mu) (e : inOr x = inOr y) (p : OrP k c x μ) (p' : OrP k c y μ) : x = y := by
  obtain ⟨a, b, d, f⟩ := x
  obtain ⟨a', b', d', f'⟩ := y
  simp only [inOr, List.cons.injEq, T.ref.injEq, and_true] at e
  obtain ⟨e1, rfl⟩ := e
  have := p.e.symm.trans p'.e
  simp only [Option.some.injEq, MO.dic.injEq] at this
  subst this
  have := rows_one p.r p'.r
  dsimp only at this
  rw [Tm.inj e1, this]
def cOr (k : Nat) : TV.Con := mkC inOr (OrP k 3) (fun x μ t μ' => Ext μ μ' ∧ t = (ordM x.R x.tm).t)
theorem v_law_ordered (h1 : Φ .law_ordered = cOr k) (x : OrX) (μ : Mu) (pp : OrP k 2 x μ) (post : T → Mu → Prop) (q : ∀ μ', Ext μ μ' → post (ordM x.R x.tm).t μ') : wSs Φ b_law_ordered (endsOf post) (startT 6 (inOr x)) μ := by
  obtain ⟨tm, rd, kvs, R⟩ := x
  obtain ⟨e, r, s, new, own, kd, h, so, kn, ko, kk, w, ro, oc, hk⟩ := pp
  dsimp only at *
  cases h with
  | zero => exact w.elim
  | succ h =>
  obtain ⟨n, hd, ps⟩ := tm
  obtain ⟨a, z⟩ := kd
  obtain ⟨q1, a', q2, q3, q4, q5⟩ := w
  have oo : ∀ y ∈ own ++ a, KOk 2 y := fun y hy => by
    rcases List.mem_append.mp hy with hy | hy
    · exact ko y hy
    · exact (kk.2.2 y hy).succ
  have ka' : KOk 2 (.mk a' z) := hdK_kok so kn oo q2
  have l5 := q5.length
  refine (show wSs Φ _ _ (startT 6 [(Tm.mk n hd ps).t, .ref rd]) μ from ?_)
  rw [tm_t]
  have occ_in : ∀ {y : Tm} {i : Int}, y ∈ ps → occT i y = true → occTs i ps = true := by
    intro y i hy hi
    clear q q2 q5 q4 l5 oc
    induction ps with
    | nil => cases hy
    | cons x l ih =>
      rw [occTs]
      rcases List.mem_cons.mp hy with rfl | hl
      · rw [hi]; rfl
      · rw [ih hl, Bool.or_true]
  have plain : (∀ i, hd ≠ .h i) → ordM R (.mk n hd ps) = .mk n hd (ordMs R ps) → (∀ i, occT i (.mk n hd ps) = occTs i ps) → wSs Φ (Ss.drop 1 b_law_ordered) (endsOf post) [some (.tup [.int n, hd.t, .tup (ps.map Tm.t)]), some (.ref rd), none, none, none, none] μ := by
    intro ni eo eoc
    rw [eo] at q
    refine v_step rfl ?_
    walk_at "wgo"
    intro D hD
    refine lcT_pure (f := Tm.t) (wE_mono _) (fun y => (ordM R y).t) hD (fun _ _ => trivial) (by rw [line_eq]; omega) (fun y hy μ1 e1 => ?_) fun μ1 e1 hl1 => ?_
    · walk_at "wgo"
      obtain ⟨j, hj⟩ := List.getElem?_of_mem hy
      obtain ⟨kd', hk', w'⟩ := all2_nth' q5 hj
      refine call_mk h1 ⟨y, rd, kvs, R⟩ rfl ⟨Ext.at e1 e, r.ext (A := NoA) e1, s, new, own ++ a, kd', h, so, kn, oo, (ka'.2.2 kd' (List.mem_of_getElem? hk')).succ, w', ro, fun i hi => oc i (by rw [eoc]; exact occ_in hy hi), by omega⟩ fun t μ2 ⟨e2, et⟩ => ?_
      exact ⟨e2, et⟩
    · walk_at "wgo"
      refine b_tuple (items_lst hl1) ?_
      walk_at "wgo"
      refine ⟨by rw [line_eq]; simp, ?_⟩
      have := q μ1 e1
      rw [tm_t, ordMs_map, List.map_map] at this
      exact this
  refine v_step rfl ?_
  walk_at "wgo"
  cases hd with
  | b i =>
    refine x_tup (l := [.str "b", .int i]) rfl ?_
    walk_at "wgo"
    exact plain (fun _ z => by cases z) (by rw [ordM]) (fun _ => by rw [occT])
  | c i =>
    refine x_tup (l := [.str "c", .str i]) rfl ?_
    walk_at "wgo"
    exact plain (fun _ z => by cases z) (by rw [ordM]) (fun _ => by rw [occT])
  | h i =>
    obtain ⟨ms, m1, m2, m3⟩ := q4 i rfl
    obtain ⟨p, o, f1, f2⟩ := findR_some (oc i (by rw [occT]; simp))
    obtain ⟨i0, a2, z2, en, po⟩ := ro _ (List.mem_of_getElem? f2)
    dsimp only at i0 en po
    have ea : a2 = a' := by
      have q2' := q2
      simp only [hdK] at q2'
      split at q2'
      · rw [en] at q2'
        injection q2' with q2'
        injection q2' with e1 e2
      · cases q2'
    subst ea
    obtain ⟨rr, oa, g1, g2, g3⟩ := r.at_ p (i, o) f2
    dsimp only at g1 g2 g3
    have lo : o.length = a2.length := by rw [po.length_eq]; simp
    refine x_tup (l := [.str "h", .int i]) rfl ?_
    walk_at "wgo"
    refine x_tup (l := [.str "h", .int i]) rfl ?_
    walk_at "wgo"
    refine x_dic e rfl g1 ?_
    refine u_lst g2 ?_
    walk_at "wgo"
    refine ⟨by rw [line_eq]; simp, ?_⟩
    walk_at "wgo"
    refine ⟨_, g3, fun D hD => ?_⟩
    refine lcT_pure (f := natT) (l := o) (wE_mono _) (fun (j : Nat) => ((ordMs R ps)[j]?.getD tm0).t) hD (fun _ e1 => Ext.at e1 g3) (by rw [line_eq]; omega) (fun j hj μ1 e1 => ?_) fun μ1 e1 hl1 => ?_
    · have hj2 : j < ps.length := by rw [← l5]; exact List.mem_range.mp (po.mem_iff.mp hj)
      have hy : ps[j] ∈ ps := List.getElem_mem hj2
      obtain ⟨kd', hk', w'⟩ := all2_nth' q5 (List.getElem?_eq_getElem hj2)
      walk_at "wgo"
      refine x_tup (t := (ps[j]).t) (L2.atI_nat (by rw [List.getElem?_map, List.getElem?_eq_getElem hj2]; rfl)) ?_
      walk_at "wgo"
      have noc : ∀ i', occT i' ps[j] = true → False := by
        intro i' hi'
        have h1 := occ_in hy hi'
        have h2 := occ_mets i' ps h1
        rw [m3, mets_longs ka'.2.2 m2] at h2
        obtain ⟨_, _, hz⟩ := h2
        cases hz
      refine call_mk h1 ⟨ps[j], rd, kvs, R⟩ rfl ⟨Ext.at e1 e, r.ext (A := NoA) e1, s, new, own ++ a, kd', h, so, kn, oo, (ka'.2.2 kd' (List.mem_of_getElem? hk')).succ, w', ro, fun i' hi' => (noc i' hi').elim, by omega⟩ fun t μ2 ⟨e2, et⟩ => ?_
      refine ⟨e2, ?_⟩
      rw [et, ordMs_map, List.getElem?_map, List.getElem?_eq_getElem hj2]
      rfl
    · walk_at "wgo"
      refine b_tuple (items_lst hl1) ?_
      walk_at "wgo"
      refine ⟨by rw [line_eq]; simp, ?_⟩
      have := q μ1 e1
      rw [ordM, f1] at this
      simp only at this
      rw [tm_t, List.map_map] at this
      exact this
/-- _law_tidied -/
def cTi (k : Nat) : TV.Con := mkC inRo (RoP k 5) (fun x μ t μ' => Ext μ μ' ∧ ∃ R, RowsOf x.new x.ts R ∧ t = .tup [.tup ((R.map (permK x.new)).map Kd.t), .tup ((x.ts.map (ordM R)).map Tm.t)])
theorem v_law_tidied (h1 : Φ .law_rows_of = cRo k) (h2 : Φ .law_ordered = cOr k) (x : RoX) (μ : Mu) (pp : RoP k 4 x μ) (post : T → Mu → Prop) (q : ∀ R μ', Ext μ μ' → RowsOf x.new x.ts R → post (.tup [.tup ((R.map (permK x.new)).map Kd.t), .tup ((x.ts.map (ordM R)).map Tm.t)]) μ') : wSs Φ b_law_tidied (endsOf post) (startT 5 (inRo x)) μ := by
  have pp0 := pp
  obtain ⟨new, p, ts⟩ := x
  obtain ⟨e, kn, ⟨s, h, so, ty, hk, h8⟩, l3⟩ := pp
  dsimp only at *
  refine (show wSs Φ _ _ (startT 5 [.tup (new.map Kd.t), .ref p]) μ from ?_)
  refine v_step rfl ?_
  walk_at "wgo"
  refine call_mk h1 ⟨new, p, ts⟩ rfl pp0 fun t μ1 ⟨e1, r, rd, kvs, R, et, g1, g2, g3, g4⟩ => ?_
  subst et
  dsimp only at g1 g4
  refine u_lst g1 ?_
  walk_at "wgo"
  refine v_step rfl ?_
  walk_at "wgo"
  have hp := Ext.at e1 e
  refine ⟨_, hp, fun D hD => ?_⟩
  refine lcT_pure (f := Tm.t) (wE_mono _) (fun y => (ordM R y).t) hD (fun _ e2 => Ext.at e2 hp) (by rw [line_eq]; omega) (fun y hy μ2 e2 => ?_) fun μ2 e2 hl2 => ?_
  · walk_at "wgo"
    obtain ⟨kd, kk, w⟩ := ty y hy
    refine call_mk h2 ⟨y, rd, kvs, R⟩ rfl ⟨Ext.at e2 g2, g3.ext (A := NoA) e2, s, new, [], kd, h, so.kd, kn, by simp, kk, w, fun row hr => (g4.ok row hr).1, fun i hi => g4.all i ?_, by omega⟩ fun t μ3 ⟨e3, et⟩ => ⟨e3, et⟩
    exact mem_occTs hy hi
  · walk_at "wgo"
    refine b_tuple (items_lst hl2) ?_
    walk_at "wgo"
    refine ⟨by rw [line_eq]; simp, ?_⟩
    have := q R μ2 (e1.trans e2) g4
    rw [List.map_map (l := ts)] at this
    exact this
end K07

namespace K07
open PySem PySem.Spec TV
open L2 (ixN atI Key)
variable {Φ : Fn → TV.Con} {k : Nat}
/-! _law_other -/
theorem v_put4 {D : En} {τ : TV.Env} {μ : Mu} {e : E Fn} {a : Addr} (h0 : τ[0]? = some (some (.ref a))) (q : wE Φ e τ μ fun t μ1 => ∃ i ap, t = .int i ∧ Cur a ap μ1 ∧ (∀ μ2, Cur a ap μ2 → ExtC a μ1 μ2 → D.nx τ μ2)) : wS Φ (.sub (.var 0) (.int 4) e) D τ μ := by
  refine v_subL (wE_mono e _ _ _ _ ?_ q)
  rintro t μ1 ⟨i, ap, rfl, ⟨ns, i1, i2, i3, i4, hc⟩, k⟩
  refine w_var h0 (w_int ⟨_, _, _, 4, rfl, hc.c, rfl, rfl, ?_⟩)
  exact k _ ⟨_, _, _, _, _, hc.put (l := [T.ref ap, .int i1, .int i2, .int i3, .int i4].set 4 (.int i)) rfl hc.n1 hc.n2 hc.n3⟩ (ExtX.own rfl)
theorem call_Dr (h3 : Φ .law_drawn = cDr k) {a ap : Addr} {s : Sig} {hs pre : List Kd} {kd : Kd} {d : Int} {μ : Mu} {Q : PQ} (d0 : 0 ≤ d) (d4 : d < 4) (c : Cur a ap μ) (so : SigOk s) (ho : ∀ y ∈ hs, KOk 2 y) (lh : hs.length ≤ 3) (po : ∀ y ∈ pre, KOk 2 y) (lp : pre.length ≤ 800) (ko : KOk 2 kd) (hk : 9 ≤ k)
    (q : ∀ tm μ', Cur a ap μ' → ExtC a μ μ' → DT s hs 6 pre kd tm → Q tm.t μ') : callS Φ .law_drawn [.ref a, sigT s, .tup (hs.map Kd.t), .tup (pre.map Kd.t), kd.t, .int d] μ Q := by
  obtain ⟨n, rfl⟩ : ∃ n : Nat, d = n := ⟨d.toNat, by omega⟩
  refine call_mk h3 ⟨a, ap, s, hs, pre, kd, n⟩ rfl ⟨c, so, ho, lh, po, by dsimp only; omega, ko, by dsimp only; omega⟩ fun t μ' ⟨c', x', tm, et, w⟩ => ?_
  rw [et]
  exact q tm μ' c' x' (WG.mono (by dsimp only; omega) w)
theorem call_Te (h3 : Φ .law_term = cTe k) {a ap : Addr} {s : Sig} {hs pre : List Kd} {kd : Kd} {d : Int} {μ : Mu} {Q : PQ} (d0 : 0 ≤ d) (d4 : d < 4) (c : Cur a ap μ) (so : SigOk s) (ho : ∀ y ∈ hs, KOk 2 y) (lh : hs.length ≤ 3) (po : ∀ y ∈ pre, KOk 2 y) (lp : pre.length ≤ 800) (ko : KOk 2 kd) (hk : 8 ≤ k)
    (q : ∀ tm μ', Cur a ap μ' → ExtC a μ μ' → WT s hs 4 pre kd tm → Q tm.t μ') : callS Φ .law_term [.ref a, sigT s, .tup (hs.map Kd.t), .tup (pre.map Kd.t), kd.t, .int d] μ Q := by
  obtain ⟨n, rfl⟩ : ∃ n : Nat, d = n := ⟨d.toNat, by omega⟩
  refine call_mk h3 ⟨a, ap, s, hs, pre, kd, n⟩ rfl ⟨c, so, ho, lh, po, by dsimp only; omega, ko, by dsimp only; omega⟩ fun t μ' ⟨c', x', tm, et, w⟩ => ?_
  rw [et]
  exact q tm μ' c' x' (WG.mono (by dsimp only; omega) w)
def gain (b b' : Int) : Nat := if 0 < b ∧ b' ≤ 0 then 13 else 0
theorem gain_add {b b1 b2 : Int} (h : b2 ≤ b1) (h' : b1 ≤ b) : gain b b1 + gain b1 b2 ≤ gain b b2 := by
  unfold gain
  split <;> split <;> split <;> omega
structure OtX where
  a : Addr
  ap : Addr
  s : Sig
  hs : List Kd
  pre : List Kd
  kd : Kd
  tm : Tm
  bx : Addr
  b : Int
def inOt (x : OtX) : List T := [.ref x.a, sigT x.s, .tup (x.hs.map Kd.t), .tup (x.pre.map Kd.t), x.kd.t, x.tm.t, .ref x.bx]
structure OtP (k c : Nat) (x : OtX) (μ : Mu) : Prop where
  hc : Cur x.a x.ap μ
  e : μ x.bx = some (.lst [.int x.b])
  n1 : x.bx ≠ x.a
  n2 : x.bx ≠ x.ap
  so : SigOk x.s
  ho : ∀ y ∈ x.hs, KOk 2 y
  lh : x.hs.length ≤ 3
  po : ∀ y ∈ x.pre, KOk 2 y
  ko : KOk 2 x.kd
  ty : ∃ h, WT x.s x.hs h x.pre x.kd x.tm ∧ x.pre.length + 3 * h ≤ 700 ∧ h + c ≤ k
theorem inOt_inj {k c : Nat} (x y : OtX) (μ : Mu) (e : inOt x = inOt y) (p : OtP k c x μ) (p' : OtP k c y μ) : x = y := by
  obtain ⟨a, b, c, d, f, g, h, i, j⟩ := x
  obtain ⟨a', b', c', d', f', g', h', i', j'⟩ := y
  simp only [inOt, List.cons.injEq, T.tup.injEq, T.ref.injEq, and_true] at e
  obtain ⟨rfl, e2, e3, e4, e5, e6, rfl⟩ := e
  have e1 : b = b' := p.hc.one p'.hc
  have e7 := p.e.symm.trans p'.e
  simp only [Option.some.injEq, MO.lst.injEq, List.cons.injEq, T.int.injEq, and_true] at e7
  rw [e1, sigT_inj e2, kds_inj e3, kds_inj e4, Kd.inj e5, Tm.inj e6, e7]
theorem least {P : Nat → Prop} (h : ∃ n, P n) : ∃ m, P m ∧ ∀ n, P n → m ≤ n := by
  obtain ⟨n, hn⟩ := h
  induction n using Nat.strongRecOn with
  | ind n ih =>
    by_cases c : ∃ m, m < n ∧ P m
    · obtain ⟨m, h1, h2⟩ := c
      exact ih m h1 h2
    · exact ⟨n, hn, fun m hm => by
        have : ¬ m < n := fun z => c ⟨m, z, hm⟩
        omega⟩
abbrev AB (a bx : Addr) : Addr → Prop := fun z => z = a ∨ z = bx
def cOt (k : Nat) : TV.Con := mkC inOt (OtP k 9) (fun x μ t μ' => Cur x.a x.ap μ' ∧ ExtX (AB x.a x.bx) μ μ' ∧ ∃ tm' b', t = tm'.t ∧ μ' x.bx = some (.lst [.int b']) ∧ b' ≤ x.b ∧ tsz tm' ≤ tsz x.tm + gain x.b b' ∧ ∀ h, WT x.s x.hs h x.pre x.kd x.tm → WT x.s x.hs (h + 3) x.pre x.kd tm')
theorem v_law_other (h1 : Φ .law_other = cOt k) (h2 : Φ .law_term = cTe k) (h3 : Φ .law_needed = cNd 2 k) (x : OtX) (μ : Mu) (pp : OtP k 8 x μ) (post : T → Mu → Prop)
    (q : ∀ tm' b' μ', Cur x.a x.ap μ' → ExtX (AB x.a x.bx) μ μ' → μ' x.bx = some (.lst [.int b']) → b' ≤ x.b → tsz tm' ≤ tsz x.tm + gain x.b b' → (∀ h, WT x.s x.hs h x.pre x.kd x.tm → WT x.s x.hs (h + 3) x.pre x.kd tm') → post tm'.t μ') : wSs Φ b_law_other (endsOf post) (startT 11 (inOt x)) μ := by
  obtain ⟨a, ap, s, hs, pre, kd, tm, bx, b⟩ := x
  obtain ⟨hc, e, n1, n2, so, ho, lh, po, ko, hx, wx, lpx, hkx⟩ := pp
  dsimp only at *
  obtain ⟨h, w, hmin⟩ := least (P := fun h => WT s hs h pre kd tm) ⟨hx, wx⟩
  have hle := hmin hx wx
  have lp : pre.length + 3 * h ≤ 700 := by omega
  have hk : h + 8 ≤ k := by omega
  obtain ⟨ka, z⟩ := kd
  obtain ⟨n, hd, ps⟩ := tm
  cases h with
  | zero => exact w.elim
  | succ h =>
  have w0 := w
  obtain ⟨q1, a', q2, q3, _, q5⟩ := w
  have lka : ka.length ≤ 3 := ko.2.1
  have oo : ∀ y ∈ pre ++ ka, KOk 2 y := fun y hy => by
    rcases List.mem_append.mp hy with hy | hy
    · exact po y hy
    · exact (ko.2.2 y hy).succ
  have ka' : KOk 2 (.mk a' z) := hdK_kok so.kd ho oo q2
  have l5 := q5.length
  refine (show wSs Φ _ _ (startT 11 [.ref a, sigT s, .tup (hs.map Kd.t), .tup (pre.map Kd.t), (Kd.mk ka z).t, (Tm.mk n hd ps).t, .ref bx]) μ from ?_)
  rw [kd_t, tm_t]
  refine v_step rfl ?_
  refine v_subL ?_
  walk_at "wgo"
  refine x_lst e rfl ?_
  walk_at "wgo"
  refine ⟨_, _, _, 0, rfl, e, rfl, rfl, ?_⟩
  have e1 : (mset μ bx (.lst ([T.int b].set 0 (.int (b - 1))))) bx = some (.lst [.int (b - 1)]) := mset_same
  have c1 : Cur a ap (mset μ bx (.lst ([T.int b].set 0 (.int (b - 1))))) := hc.later n1.symm n2.symm
  have x1 : ExtX (AB a bx) μ (mset μ bx (.lst ([T.int b].set 0 (.int (b - 1))))) := ExtX.own (.inr rfl)
  generalize mset μ bx (.lst ([T.int b].set 0 (.int (b - 1)))) = μ1 at e1 c1 x1 ⊢
  refine v_step rfl ?_
  walk_at "wgo"
  refine x_lst e1 rfl ?_
  walk_at "wgo"
  refine ite_b (fun hb => ?_) fun hb => ?_
  · have b1 : b - 1 = 0 := by simpa using hb
    refine v_cons (v_put4 rfl ?_)
    refine w_int ⟨4, ap, rfl, c1, fun μ2 c2 x2 => ?_⟩
    refine v_cons (v_ret (w_call ?_))
    walk_at "wgo"
    rw [← kd_t]
    refine call_mk h2 ⟨a, ap, s, hs, pre, .mk ka z, 2⟩ rfl ⟨c2, so, ho, lh, po, by dsimp only; omega, ko, by dsimp only; omega⟩ fun t μ3 ⟨c3, x3, tm', et, w3⟩ => ?_
    dsimp only at c3 x3 w3
    subst et
    have x13 : ExtX (AB a bx) μ μ3 := x1.trans ((x2.trans x3).mono fun z hz => .inl hz)
    have e3 : μ3 bx = some (.lst [.int (b - 1)]) := (x2.trans x3).at n1 e1
    have s3 := w3.size
    refine q tm' (b - 1) μ3 c3 x13 e3 (by omega) ?_ fun h w => w3.mono (by omega)
    have g : gain b (b - 1) = 13 := by unfold gain; rw [if_pos (by omega)]
    have : capB (2 + 1) = 13 := rfl
    rw [g]; omega
  · have b1 : b - 1 ≠ 0 := by simpa using hb
    walk_at "wgo"
    refine v_step rfl ?_
    walk_at "wgo"
    refine o_addT (by rw [line_eq, List.length_map, List.length_map]; omega) ?_
    rw [← List.map_append]
    refine v_step rfl ?_
    walk_at "wgo"
    refine (show callS Φ .law_needed [.tup (s.map rowT), .tup (hs.map Kd.t), .tup ((pre ++ ka).map Kd.t), hd.t] μ1 _ from ?_)
    refine call_Nd h3 (by omega) (pairs_sig s) (bd_hd hd) fun μ2 e2 => ?_
    have hh := hdTy_hdK so q2
    unfold sigT at hh
    rw [hh, kd_t]
    refine v_step rfl ?_
    walk_at "wgo"
    rw [List.length_map]
    refine ⟨⟨by omega, by omega⟩, fun D hD => ?_⟩
    rw [Int.toNat_natCast]
    have c2 := c1.ext e2
    have b2 := Ext.at e2 e1
    have nDa := (c2.no hD)
    have nDb : bx ≠ D := ne_of_new hD b2
    refine lcT_ind (f := fun (j : Nat) => T.int (j : Int)) (wE_mono _) (AB a bx) (fun d acc μ' => ∃ (b' : Int) (rs : List Tm), acc = rs.map Tm.t ∧ Cur a ap μ' ∧ μ' bx = some (.lst [.int b']) ∧ b' ≤ b - 1 ∧ d = List.range d.length ∧ d.length ≤ ps.length ∧ (rs.map tsz).sum ≤ ((ps.take d.length).map tsz).sum + gain (b - 1) b' ∧ All2 (fun k y => WT s hs (h + 3) (pre ++ ka) k y) (a'.take d.length) rs) hD (fun z => by rcases z with z | z; exact nDa.1 z; exact nDb z.symm) ⟨b - 1, [], rfl, c2, b2, Int.le_refl _, rfl, Nat.zero_le _, by simp, by simp; exact .nil⟩ (fun d acc μ' o ⟨b', rs, i1, i2, i3, i4⟩ => ⟨b', rs, i1, i2.later nDa.1.symm nDa.2.symm, by rw [mset_ne nDb]; exact i3, i4⟩) (fun _ _ _ _ _ => trivial) (by rw [line_eq]; simp; omega) (fun d j r acc μ3 ed la x3 ⟨b', rs, i1, i2, i3, i4, i5, i6, i7, i8⟩ => ?_) fun acc μ3 x3 ⟨b', rs, i1, i2, i3, i4, i5, i6, i7, i8⟩ hl3 => ?_
    · have hj : j = d.length ∧ j < ps.length := by
        have e1 : (List.range ps.length)[d.length]? = some j := by rw [ed]; simp
        have := (List.getElem?_eq_some_iff.mp e1).1
        simp at this
        rw [List.getElem?_range this] at e1
        cases e1
        exact ⟨rfl, this⟩
      obtain ⟨rfl, hj⟩ := hj
      have hj2 : d.length < a'.length := by omega
      obtain ⟨y, hy, wy⟩ := all2_nth q5 (List.getElem?_eq_getElem hj2)
      rw [List.getElem?_eq_getElem hj] at hy
      cases hy
      walk_at "wgo"
      refine x_tup (hs_at hj2) ?_
      walk_at "wgo"
      refine x_tup (t := (ps[d.length]).t) (L2.atI_nat (by rw [List.getElem?_map, List.getElem?_eq_getElem hj]; rfl)) ?_
      walk_at "wgo"
      rw [List.getElem?_eq_getElem hj2]
      refine call_mk h1 ⟨a, ap, s, hs, pre ++ ka, a'[d.length], ps[d.length], bx, b'⟩ rfl ⟨i2, i3, n1, n2, so, ho, lh, oo, (ka'.2.2 _ (List.getElem_mem hj2)).succ, h, wy, by simp; omega, by omega⟩ fun t μ4 ⟨c4, x4, tm', b4, et, f1, f2, f3, f4⟩ => ?_
      dsimp only at c4 x4 f1 f2 f3 f4
      refine ⟨x4, b4, rs ++ [tm'], by rw [i1, et]; simp, c4, f1, by omega, ?_, by simp; omega, ?_, ?_⟩
      · rw [List.length_append, List.length_singleton, List.range_succ, ← i5]
      · rw [List.length_append, List.length_singleton, ← List.take_append_getElem (h := hj), List.map_append, List.map_append, List.sum_append, List.sum_append]
        have := gain_add f2 i4
        simp only [List.map_cons, List.map_nil, List.sum_cons, List.sum_nil]
        omega
      · rw [List.length_append, List.length_singleton, ← List.take_append_getElem (h := hj2)]
        exact i8.snoc (f4 h wy)
    · have el : (List.range ps.length).length = ps.length := by simp
      rw [el, List.take_length] at i7
      rw [el, ← l5, List.take_length] at i8
      refine v_step rfl ?_
      walk_at "wgo"
      refine b_tuple (items_lst hl3) ?_
      walk_at "wgo"
      refine ⟨by rw [line_eq]; simp, ?_⟩
      rw [i1]
      have gb : gain (b - 1) b' ≤ gain b b' := by unfold gain; split <;> split <;> omega
      have := q (.mk n hd rs) b' μ3 i2 ((x1.trans (Ext.any e2)).trans x3) i3 (by omega) (by rw [tsz_mk, tsz_mk]; omega) fun h' w' => ?_
      · rw [tm_t] at this
        exact this
      · have hl := hmin h' w'
        have : WT s hs (h + 1 + 3) pre (.mk ka z) (.mk n hd rs) := ⟨q1, a', q2, q3, trivial, i8⟩
        exact this.mono (by omega)
end K07

namespace K07
open PySem PySem.Spec TV
open L2 (ixN atI Key)
variable {Φ : Fn → TV.Con} {k : Nat}
/-! what the law needs of its values, told without the program -/
theorem perm_ok {new : List Kd} {row : Row} (kn : ∀ y ∈ new, KOk 2 y) (ro : RowOk new row) : KOk 2 (permK new row) := by
  obtain ⟨i0, a, z, e, p⟩ := ro
  unfold permK
  rw [e]
  have kk := kn _ (List.mem_of_getElem? e)
  have la := p.length_eq
  rw [List.length_range] at la
  refine ⟨kk.1, ?_, ?_⟩
  · rw [List.length_map, la]; exact kk.2.1
  · intro y hy
    obtain ⟨j, hj, rfl⟩ := List.mem_map.mp hy
    have hj2 : j < a.length := List.mem_range.mp (p.mem_iff.mp hj)
    rw [List.getElem?_eq_getElem hj2]
    exact kk.2.2 _ (List.getElem_mem hj2)
theorem types_ok {new : List Kd} {ts : List Tm} {R : List Row} (kn : ∀ y ∈ new, KOk 2 y) (r : RowsOf new ts R) : ∀ y ∈ R.map (permK new), KOk 2 y := by
  intro y hy
  obtain ⟨row, hr, rfl⟩ := List.mem_map.mp hy
  exact perm_ok kn (r.ok row hr).1
theorem dup_len : ∀ {l : List Int} {n : Nat}, l.Nodup → (∀ i ∈ l, 0 ≤ i ∧ i.toNat < n) → l.length ≤ n := by
  intro l n nd h
  have nd2 : (l.map Int.toNat).Nodup := by
    refine List.pairwise_map.mpr (nd.imp_of_mem ?_)
    intro a b ha hb ne e
    have := (h a ha).1
    have := (h b hb).1
    exact ne (by omega)
  have sub : (l.map Int.toNat) ⊆ List.range n := fun x hx => by
    obtain ⟨i, hi, rfl⟩ := List.mem_map.mp hx
    exact List.mem_range.mpr (h i hi).2
  have := nd2.length_le_of_subset sub
  simpa using this
theorem rows_len {new : List Kd} {ts : List Tm} {R : List Row} (r : RowsOf new ts R) : R.length ≤ new.length := by
  have := dup_len (n := new.length) r.nd fun i hi => by
    obtain ⟨row, hr, rfl⟩ := List.mem_map.mp hi
    obtain ⟨i0, a, z, e, _⟩ := (r.ok row hr).1
    exact ⟨i0, (List.getElem?_eq_some_iff.mp e).1⟩
  simpa using this
theorem tidy_ty {s : Sig} {new old : List Kd} {R : List Row} (so : ∀ p ∈ s, KOk 2 p.2) (kn : ∀ x ∈ new, KOk 2 x) (ko : ∀ x ∈ old, KOk 2 x) {vs : List Tm} (r : RowsOf new vs R) {h : Nat} (w : All2 (fun kd t => DT s new (h + 1) [] kd t) old vs) : All2 (fun kd t => DT s (R.map (permK new)) (h + 2) [] kd t) old (vs.map (ordM R)) := by
  refine all2_of_get (by rw [List.length_map]; exact w.length) fun j x y hx hy => ?_
  obtain ⟨p, hp, w⟩ := all2_nth w hx
  rw [List.getElem?_map, hp] at hy
  cases hy
  refine ord_ok so kn (fun row hr => (r.ok row hr).1) h (by simp) (ko x (List.mem_of_getElem? hx)) w fun i hi => r.all i ?_
  exact mem_occTs (List.mem_of_getElem? hp) hi
theorem tidy_occ {new : List Kd} {vs : List Tm} {R : List Row} (r : RowsOf new vs R) {j : Nat} (hj : j < R.length) : occTs j (vs.map (ordM R)) = true := by
  rw [← ordMs_map]
  exact occ_ords r.nd (show R[j]? = some (R[j].1, R[j].2) by rw [List.getElem?_eq_getElem hj]) vs ((r.ok _ (List.getElem_mem hj)).2)
/-- what the filling asks of the holes is the terms that filled -/
theorem told_ok {s : Sig} {types last old : List Kd} {hv h : Nat} {more vs : List Tm} (so : ∀ p ∈ s, KOk 2 p.2) (hl : ∀ x ∈ last, KOk 2 x) (ht : ∀ x ∈ types, KOk 2 x) (vv : Vals2 s last types hv more) (h30 : hv ≤ 30) (w : All2 (fun kd t => DT s types h [] kd t) old vs) (oc : ∀ j : Nat, j < types.length → occTs j vs = true) : resT (consMs vs (vs.map (fillP more))) types.length = .tup (more.map Tm.t) := by
  obtain ⟨C, e, hC⟩ := cons_fill.cons_fills so hl ht vv h30 h w fun w => cons_fill so hl ht vv h30 w
  have cns : Cns C := by
    intro p hp q hq epq
    have h1 := (hC p hp).2
    have h2 := (hC q hq).2
    rw [epq, h2] at h1
    injection h1 with h1
    exact h1.symm
  rw [e]
  unfold resT
  simp only
  rw [if_pos cns]
  congr 1
  refine List.ext_getElem? fun j => ?_
  rw [List.getElem?_map, List.getElem?_map]
  have lt := vv.length
  by_cases hj : j < types.length
  · rw [List.getElem?_range hj]
    obtain ⟨v, hv⟩ := occ_conss j vs _ C (oc j hj) e
    have hv2 := (hC _ hv).2
    have : C.lookup (j : Int) = some v := by
      cases e3 : C.lookup (j : Int) with
      | none => exact absurd hv (lookC_none e3 v)
      | some w => exact congrArg some (cns _ (lookC e3) _ hv rfl)
    rw [Option.map_some, this]
    have : more[j]? = some v := by simpa using hv2
    rw [this]
    rfl
  · rw [List.getElem?_eq_none (by simp; omega), List.getElem?_eq_none (by omega)]; rfl
theorem clos_depth {ms : List Nat} {o v : Tm} (e : closM ms o = some v) : v.t.depth ≤ o.t.depth := by
  obtain ⟨n, h, ps⟩ := o
  have ec : closM ms (.mk n h ps) = if okM ms 0 (.mk 0 h ps) = true then some (.mk ms.length (clH ms 0 h) (clMs ms 0 ps)) else none := rfl
  rw [ec] at e
  split at e
  · cases e
    unfold Tm.t
    simp only [T.depth, depths, hd_depth, clMs_depth]
    omega
  · cases e
mutual
theorem cons_depth : ∀ (p o : Tm) (C : Cst), consM p o = some C → ∀ x ∈ C, x.2.t.depth ≤ o.t.depth
  | .mk _ (.h i) ps, o, C, e, x, hx => by
    rw [consM] at e
    cases ec : closM (msOf ps) o with
    | none => rw [ec] at e; cases e
    | some v =>
      rw [ec] at e
      cases e
      rw [List.mem_singleton] at hx
      subst hx
      exact clos_depth ec
  | .mk _ (.b i) ps, .mk n h qs, C, e, x, hx => by
    rw [consM] at e
    split at e
    · have := conss_depth ps qs C e x hx
      rw [tm_t]
      simp only [T.depth, depths]
      omega
    · cases e
  | .mk _ (.c i) ps, .mk n h qs, C, e, x, hx => by
    rw [consM] at e
    split at e
    · have := conss_depth ps qs C e x hx
      rw [tm_t]
      simp only [T.depth, depths]
      omega
    · cases e
theorem conss_depth : ∀ (ps qs : List Tm) (C : Cst), consMs ps qs = some C → ∀ x ∈ C, x.2.t.depth ≤ depths (qs.map Tm.t)
  | [], _, C, e, x, hx => by
    simp only [consMs, Option.some.injEq] at e
    subst e
    cases hx
  | _ :: _, [], C, e, x, hx => by cases e
  | p :: ps, q :: qs, C, e, x, hx => by
    rw [consMs] at e
    cases e1 : consM p q with
    | none => rw [e1] at e; cases e
    | some A =>
      cases e2 : consMs ps qs with
      | none => rw [e1, e2] at e; cases e
      | some B =>
        rw [e1, e2] at e
        cases e
        rw [List.map_cons, depths]
        rcases List.mem_append.mp hx with hx | hx
        · have := cons_depth p q A e1 x hx; omega
        · have := conss_depth ps qs B e2 x hx; omega
end
theorem res_nd {vs os : List Tm} {m : Nat} {d : Nat} (h : ∀ o ∈ os, o.t.depth ≤ d) : (resT (consMs vs os) m).pure = true ∧ (resT (consMs vs os) m).depth ≤ d + 1 := by
  unfold resT
  cases e : consMs vs os with
  | none => exact ⟨rfl, Nat.zero_le _⟩
  | some C =>
    simp only
    split
    · have dd : depths (os.map Tm.t) ≤ d := depths_le fun x hx => by
        obtain ⟨y, hy, rfl⟩ := List.mem_map.mp hx
        exact h y hy
      constructor
      · refine pure_tup.mpr fun x hx => ?_
        obtain ⟨j, _, rfl⟩ := List.mem_map.mp hx
        cases C.lookup (j : Int) with
        | none => rfl
        | some v => exact tm_pure v
      · refine depth_tup.mpr fun x hx => ?_
        obtain ⟨j, _, rfl⟩ := List.mem_map.mp hx
        cases el : C.lookup (j : Int) with
        | none => exact Nat.zero_le _
        | some v =>
          have := conss_depth vs os C e _ (lookC el)
          show v.t.depth ≤ d
          exact Nat.le_trans this dd
    · exact ⟨rfl, Nat.zero_le _⟩
mutual
theorem peq_refl : ∀ t : T, t.pure = true → peq t t = true
  | .non, _ => rfl
  | .bl b, _ => by simp [peq]
  | .int i, _ => by simp [peq]
  | .str x, _ => by simp [peq]
  | .tup l, h => by
    have : pures l = true := h
    simp [peq, peqs_refl l this]
  | .ref _, h => by cases h
  | .rol _, h => by cases h
theorem peqs_refl : ∀ l : List T, pures l = true → peqs l l = true
  | [], _ => rfl
  | x :: xs, h => by
    have h' : x.pure = true ∧ pures xs = true := by unfold pures at h; simpa using h
    simp [peqs, peq_refl x h'.1, peqs_refl xs h'.2]
end
/-- the terms put at one place -/
def putA (os : List Tm) (j : Nat) (x : Tm) : List Tm := os.take j ++ [x] ++ os.drop (j + 1)
theorem putA_set {os : List Tm} {j : Nat} (h : j < os.length) (x : Tm) : putA os j x = os.set j x := by
  unfold putA
  rw [List.set_eq_take_append_cons_drop, if_pos h]
  simp
theorem all2_set {α β : Type} {P : α → β → Prop} {as : List α} {bs : List β} (h : All2 P as bs) {j : Nat} {y : β} (q : ∀ x, as[j]? = some x → P x y) : All2 P as (bs.set j y) := by
  refine all2_of_get (by rw [List.length_set]; exact h.length) fun i x z hx hz => ?_
  rw [List.getElem?_set] at hz
  split at hz
  · rename_i e
    subst e
    split at hz
    · cases hz; exact q x hx
    · cases hz
  · obtain ⟨z', hz', w⟩ := all2_nth h hx
    rw [hz'] at hz; cases hz
    exact w
theorem sum_set : ∀ (os : List Tm) (j : Nat) (x : Tm) (c : Nat) (h : j < os.length), tsz x ≤ tsz os[j] + c → ((os.set j x).map tsz).sum ≤ (os.map tsz).sum + c
  | [], _, _, _, h, _ => by simp at h
  | y :: os, 0, x, c, _, e => by
    simp only [List.getElem_cons_zero] at e
    simp only [List.set_cons_zero, List.map_cons, List.sum_cons]
    omega
  | y :: os, j + 1, x, c, h, e => by
    have := sum_set os j x c (by simpa using h) (by simpa using e)
    simp only [List.set_cons_succ, List.map_cons, List.sum_cons]
    omega
theorem tsz_sum {os : List Tm} {x : Tm} (h : x ∈ os) : tsz x ≤ (os.map tsz).sum := by
  induction os with
  | nil => cases h
  | cons y os ih =>
    rw [List.map_cons, List.sum_cons]
    rcases List.mem_cons.mp h with rfl | h
    · omega
    · have := ih h; omega
end K07

namespace K07
open PySem PySem.Spec TV
open L2 (ixN atI Key)
variable {Φ : Fn → TV.Con} {k : Nat}
/-! the law: the turns -/
structure LawF (s : Sig) (old types last : List Kd) (vs : List Tm) : Prop where
  so : SigOk s
  ko : ∀ x ∈ old, KOk 2 x
  lo : old.length ≤ 3
  lo1 : 1 ≤ old.length
  kt : ∀ x ∈ types, KOk 2 x
  lt : types.length ≤ 3
  kl : ∀ x ∈ last, KOk 2 x
  ll : last.length ≤ 3
  w : All2 (fun kd t => DT s types 7 [] kd t) old vs
  oc : ∀ j : Nat, j < types.length → occTs j vs = true
structure OthF (s : Sig) (old last : List Kd) (h c : Nat) (os : List Tm) : Prop where
  w : All2 (fun kd t => WT s last h [] kd t) old os
  sz : (os.map tsz).sum ≤ c
theorem cap_vs {s : Sig} {old types last : List Kd} {vs : List Tm} (F : LawF s old types last vs) : ∀ t ∈ vs, tsz t ≤ 1093 := fun t ht => by
  obtain ⟨kd, _, w⟩ := all2_mem F.w ht
  have := w.size
  have : capB 7 = 1093 := by decide
  omega
theorem sum_le {B : Nat} : ∀ {l : List Tm}, (∀ t ∈ l, tsz t ≤ B) → (l.map tsz).sum ≤ l.length * B
  | [], _ => by simp
  | x :: l, h => by
    have := sum_le (l := l) fun t ht => h t (List.mem_cons_of_mem _ ht)
    have := h x List.mem_cons_self
    rw [List.map_cons, List.sum_cons, List.length_cons, Nat.add_mul]
    omega
theorem sum_vs {s : Sig} {old types last : List Kd} {vs : List Tm} (F : LawF s old types last vs) : (vs.map tsz).sum ≤ 3300 := by
  have := sum_le (cap_vs F)
  have l := F.w.length
  have lo := F.lo
  have : vs.length * 1093 ≤ 3 * 1093 := Nat.mul_le_mul_right _ (by omega)
  omega
theorem LawF.mr {s : Sig} {old types last : List Kd} {vs os : List Tm} (F : LawF s old types last vs) {h c : Nat} (O : OthF s old last h c os) (hh : h ≤ 20) (hc : c ≤ 300) (hk : 10 ≤ k) : MrP k 10 ⟨s, old, types, vs, os⟩ := by
  have l1 := F.w.length
  have l2 := O.w.length
  refine ⟨hk, F.so, F.kt, by have := F.lt; dsimp only; omega, F.lo, l1.symm, l2.symm, ⟨last, fun j hj => ?_⟩, F.oc, by have := sum_vs F; dsimp only; omega⟩
  dsimp only at hj ⊢
  have e1 := List.getElem?_eq_getElem hj
  obtain ⟨v, hv, wv⟩ := all2_nth F.w e1
  obtain ⟨o, ho, wo⟩ := all2_nth O.w e1
  rw [e1, hv, ho]
  have so := tsz_sum (List.mem_of_getElem? ho)
  have := O.sz
  exact ⟨by simp, F.ko _ (List.getElem_mem hj), ⟨7, h, wv, wo, by omega, by show 0 + 3 * 7 ≤ 900; decide⟩, by show tsz o ≤ _; omega⟩
theorem LawF.mo {s : Sig} {old types last : List Kd} {vs os : List Tm} (F : LawF s old types last vs) {h c : Nat} (O : OthF s old last h c os) (hh : h ≤ 20) (hk : 80 ≤ k) : MoP k 71 ⟨vs, os, types.length⟩ := by
  have l1 := F.w.length
  have l2 := O.w.length
  have lo := F.lo
  refine ⟨by dsimp only; omega, by dsimp only; omega, by have := F.lt; dsimp only; omega, ⟨7, ?_, by omega⟩, by have := sum_vs F; dsimp only; omega, by omega⟩
  dsimp only
  refine all2_of_get (by omega) fun j x y hx hy => ?_
  obtain ⟨kd, hk, wv⟩ := all2_nth' F.w hx
  obtain ⟨kd', hk', wo⟩ := all2_nth' O.w hy
  rw [hk] at hk'
  cases hk'
  exact rdok_of F.so.kd F.kt (by simp) (F.ko _ (List.mem_of_getElem? hk)) wv wo (by omega)
theorem wt_tle {s : Sig} {hs own : List Kd} {h : Nat} {kd : Kd} {t : Tm} (w : WT s hs h own kd t) : TLe h t := by
  cases h with
  | zero => exact w.elim
  | succ h => exact w.tle.mono (by omega)
theorem OthF.res {s : Sig} {old last : List Kd} {h c : Nat} {os : List Tm} (O : OthF s old last h c os) (hh : h ≤ 20) (vs : List Tm) (m : Nat) : (resT (consMs vs os) m).pure = true ∧ (resT (consMs vs os) m).depth ≤ 101 := by
  refine res_nd fun o ho => ?_
  obtain ⟨kd, _, w⟩ := all2_mem O.w ho
  have := w.depth
  omega
theorem cut_take (l : List T) (j : Nat) (h : j ≤ l.length) : cutL l none (some (j : Int)) = l.take j := by
  unfold cutL
  rw [HT.sIx_none, HT.sIx_nat, List.drop_zero, Nat.min_eq_left h, Nat.sub_zero]
theorem cut_drop (l : List T) (j : Nat) (h : j < l.length) : cutL l (some ((j : Int) + 1)) none = l.drop (j + 1) := by
  unfold cutL
  rw [HT.sIx_none, show ((j : Int) + 1) = ((j + 1 : Nat) : Int) by omega, HT.sIx_nat, Nat.min_eq_left (by omega)]
  exact List.take_of_length_le (by rw [List.length_drop]; omega)
theorem sl_tup {l : List T} {lo hi : Option Int} {μ : Mu} {Q : PQ} (q : Q (.tup (cutL l lo hi)) μ) : slS (.tup l) lo hi μ Q := q
theorem v_turns (hTk : Φ .law_take = cTk k) (hSz : Φ .law_size = cSz k) (hOt : Φ .law_other = cOt k) (hMr : Φ .more_of = cMr k) (hMo : Φ .law_more = cMo k) (hk : 100 ≤ k) {a ap : Addr} {s : Sig} {old new types last : List Kd} {vs os : List Tm} (F : LawF s old types last vs) (O : OthF s old last 11 150 os) (μ1 : Mu) (v0 v6 v8 v10 : Option T) (μ : Mu) (hc : Cur a ap μ) (hx : ExtC a μ1 μ) (post : T → Mu → Prop) (q : ∀ μ', ExtC a μ1 μ' → post (.bl true) μ') : wSs Φ (Ss.drop 14 b_law) (endsOf post) [v0, some (.ref a), some (sigT s), some (.tup (old.map Kd.t)), some (.tup (new.map Kd.t)), some (.tup (vs.map Tm.t)), v6, some (.tup (last.map Kd.t)), v8, some (.tup (os.map Tm.t)), v10, none, some (.tup (types.map Kd.t)), none, none, none, none] μ := by
  have lo := F.lo
  have lo1 := F.lo1
  refine v_step rfl ?_
  walk_at "wgo"
  refine ⟨⟨by decide, by decide⟩, ?_⟩
  refine forT_inv (wSs_mono _) (fun (rest : List Nat) τ μ' => ∃ (os : List Tm) (d : Nat), ∃ v11 v13 v14 v15, d + rest.length = 3 ∧ OthF s old last (11 + 3 * d) (150 + 13 * d) os ∧ τ = [v0, some (.ref a), some (sigT s), some (.tup (old.map Kd.t)), some (.tup (new.map Kd.t)), some (.tup (vs.map Tm.t)), v6, some (.tup (last.map Kd.t)), v8, some (.tup (os.map Tm.t)), v10, v11, some (.tup (types.map Kd.t)), v13, v14, v15, none] ∧ Cur a ap μ' ∧ ExtC a μ1 μ') (fun _ _ _ _ => trivial) ?_ ?_ _ _ _ ⟨os, 0, none, none, none, none, by simp, O, rfl, hc, hx⟩
  · rintro τ μ2 ⟨os, d, v11, v13, v14, v15, _, _, rfl, c2, x2⟩
    refine v_step rfl ?_
    walk_at "wgo"
    exact q _ x2
  · clear O os
    rintro j rst τ μ2 ⟨os, d, v11, v13, v14, v15, hd, O, rfl, c2, x2⟩
    have d2 : d ≤ 2 := by simp at hd; omega
    have l2 := O.w.length
    walk_at "wgo"
    rw [List.length_map]
    refine call_Tk hTk (by omega) c2 (by omega) (by omega) fun jj μ3 j0 j1 c3 x3 => ?_
    obtain ⟨j, rfl⟩ : ∃ n : Nat, jj = n := ⟨jj.toNat, by omega⟩
    have jo : j < old.length := by omega
    have js : j < os.length := by omega
    obtain ⟨o, eo, wo⟩ := all2_nth O.w (List.getElem?_eq_getElem jo)
    have so := tsz_sum (List.mem_of_getElem? eo)
    have sp := O.sz
    walk_at "wgo"
    refine x_tup (t := o.t) (L2.atI_nat (by rw [List.getElem?_map, eo]; rfl)) ?_
    walk_at "wgo"
    refine call_mk hSz ⟨o⟩ rfl ⟨_, wt_tle wo, by omega⟩ fun t μ4 ⟨e4, et⟩ => ?_
    subst et
    dsimp only
    have pos := tsz_pos o
    refine call_Tk hTk (by omega) (c3.ext e4) (by omega) (by omega) fun b μ5 b0 b1 c5 x5 => ?_
    walk_at "wgo"
    refine ⟨by rw [line_eq]; simp, ?_⟩
    walk_at "wgo"
    refine x_tup (hs_at jo) ?_
    walk_at "wgo"
    refine x_tup (t := o.t) (L2.atI_nat (by rw [List.getElem?_map, eo]; rfl)) ?_
    walk_at "wgo"
    refine ⟨by rw [line_eq]; simp, fun p hp => ?_⟩
    walk_at "wgo"
    rw [List.getElem?_eq_getElem jo]
    have na := c5.no hp
    refine call_mk hOt ⟨a, ap, s, last, [], old[j], o, p, 1 + b⟩ rfl ⟨c5.new hp, mset_same, na.1, na.2, F.so, F.kl, F.ll, by simp, F.ko _ (List.getElem_mem jo), ⟨_, wo, by dsimp only; simp; omega, by omega⟩⟩ fun t μ6 ⟨c6, x6, tm', b', et, f1, f2, f3, f4⟩ => ?_
    subst et
    dsimp only at c6 x6 f1 f2 f3 f4
    have x26 : ExtC a μ2 μ6 := by
      refine ((x3.trans (Ext.any e4)).trans x5).trans fun z u nz ez => ?_
      refine x6 z u (fun w => ?_) (by rw [mset_ne (fun w => by subst w; rw [hp] at ez; cases ez)]; exact ez)
      rcases w with w | w
      · exact nz w
      · subst w; rw [hp] at ez; cases ez
    walk_at "wgo"
    have O2 : OthF s old last (11 + 3 * (d + 1)) (150 + 13 * (d + 1)) (os.set j tm') := by
      refine ⟨?_, ?_⟩
      · refine all2_set ?_ fun x hx => ?_
        · refine all2_of_get l2 fun i x y hx hy => ?_
          obtain ⟨y', hy', w⟩ := all2_nth O.w hx
          rw [hy] at hy'; cases hy'
          exact w.mono (by omega)
        · rw [List.getElem?_eq_getElem jo] at hx
          cases hx
          have := f4 _ wo
          rw [show 11 + 3 * (d + 1) = 11 + 3 * d + 3 by omega]
          exact this
      · have e1 : os[j] = o := by rw [List.getElem?_eq_getElem js] at eo; exact Option.some.inj eo
        have g : gain (1 + b) b' ≤ 13 := by unfold gain; split <;> omega
        have := sum_set os j tm' 13 js (by rw [e1]; omega)
        omega
    refine sl_tup ?_
    walk_at "wgo"
    refine ⟨by rw [line_eq]; simp, ?_⟩
    refine o_addT (by rw [line_eq, cut_take _ _ (by rw [List.length_map]; omega)]; simp; omega) ?_
    walk_at "wgo"
    refine sl_tup ?_
    refine o_addT (by rw [line_eq, cut_take _ _ (by rw [List.length_map]; omega), cut_drop _ _ (by rw [List.length_map]; omega)]; simp; omega) ?_
    have ep : cutL (os.map Tm.t) none (some (j : Int)) ++ [tm'.t] ++ cutL (os.map Tm.t) (some ((j : Int) + 1)) none = (os.set j tm').map Tm.t := by
      rw [cut_take _ _ (by rw [List.length_map]; omega), cut_drop _ _ (by rw [List.length_map]; omega), ← putA_set js]
      unfold putA
      simp
    rw [ep]
    walk_at "wgo"
    refine call_mk hMr ⟨s, old, types, vs, os.set j tm'⟩ rfl (F.mr O2 (by omega) (by omega) (by omega)) fun t μ7 ⟨e7, et⟩ => ?_
    subst et
    walk_at "wgo"
    rw [List.length_map]
    refine call_mk hMo ⟨vs, os.set j tm', types.length⟩ rfl (F.mo O2 (by omega) (by omega)) fun t μ8 ⟨e8, et⟩ => ?_
    subst et
    dsimp only
    obtain ⟨n1, n2⟩ := O2.res (by omega) vs types.length
    refine c_ne (eqok_left n1 n1 (by omega)) ?_
    rw [peq_refl _ n1]
    walk_at "wgo"
    exact ⟨os.set j tm', d + 1, _, _, _, _, by simp at hd ⊢; omega, O2, rfl, (c6.ext e7).ext e8, ((x2.trans x26).trans (Ext.any e7)).trans (Ext.any e8)⟩
end K07

namespace K07
open PySem PySem.Spec TV
open L2 (ixN atI Key)
variable {Φ : Fn → TV.Con} {k : Nat}
/-! the law itself -/
structure LawH (Φ : Fn → TV.Con) (k : Nat) : Prop where
  st : Φ .law_start = cSt k
  sg : Φ .law_signature = cSg k
  ki : Φ .law_kind = cKi k
  tk : Φ .law_take = cTk k
  dr : Φ .law_drawn = cDr k
  ti : Φ .law_tidied = cTi k
  te : Φ .law_term = cTe k
  fl : Φ .law_filled = cFl k
  sz : Φ .law_size = cSz k
  ap : Φ .law_is_apt = cAp k
  mr : Φ .more_of = cMr k
  mo : Φ .law_more = cMo k
  ot : Φ .law_other = cOt k
theorem v_put4n {D : En} {τ : TV.Env} {μ : Mu} {e : E Fn} {a : Addr} {n : Nat} (h0 : τ[n]? = some (some (.ref a))) (q : wE Φ e τ μ fun t μ1 => ∃ i ap, t = .int i ∧ Cur a ap μ1 ∧ (∀ μ2, Cur a ap μ2 → ExtC a μ1 μ2 → D.nx τ μ2)) : wS Φ (.sub (.var n) (.int 4) e) D τ μ := by
  refine v_subL (wE_mono e _ _ _ _ ?_ q)
  rintro t μ1 ⟨i, ap, rfl, ⟨ns, i1, i2, i3, i4, hc⟩, k⟩
  refine w_var h0 (w_int ⟨_, _, _, 4, rfl, hc.c, rfl, rfl, ?_⟩)
  exact k _ ⟨_, _, _, _, _, hc.put (l := [T.ref ap, .int i1, .int i2, .int i3, .int i4].set 4 (.int i)) rfl hc.n1 hc.n2 hc.n3⟩ (ExtX.own rfl)
theorem v_law (H : LawH Φ k) (hk : 100 ≤ k) (ns : List Int) (x : T) (hn : ns.length ≤ 63) (μ : Mu) (hx : Scr ns x μ) (post : T → Mu → Prop) (q : ∀ μ', Ext μ μ' → post (.bl true) μ') : wSs Φ b_law (endsOf post) (startT 17 [x]) μ := by
  refine v_step rfl ?_
  walk_at "wgo"
  refine call_of H.st ⟨by omega, ns, x, rfl, hx, hn⟩ fun t μ1 ⟨a, ap, et, c1, e1, na⟩ => ?_
  subst et
  have X : ∀ {μ'}, ExtC a μ1 μ' → Ext μ μ' := fun {μ'} x b o _ h => x b o (fun z => by subst z; rw [na] at h; cases h) (Ext.at e1 h)
  refine v_step rfl ?_
  walk_at "wgo"
  refine call_of H.sg ⟨by omega, a, ap, rfl, c1⟩ fun t μ2 p2 => ?_
  obtain ⟨c2, x2, s, rfl, so⟩ := p2 a ap rfl c1
  -- the old types
  refine v_step rfl ?_
  walk_at "wgo"
  refine call_Tk H.tk (by omega) c2 (by decide) (by decide) fun d μ3 d0 d1 c3 x3 => ?_
  walk_at "wgo"
  refine ⟨⟨by omega, by omega⟩, ?_⟩
  intro D hD
  refine lc_cur (wE_mono _) (fun _ t => ∃ kd : Kd, t = kd.t ∧ KOk 2 kd) c3 hD (fun _ _ => trivial) (by rw [line_eq, List.length_map, List.length_range]; omega) (fun x hx μ5 e5 c5 => ?_) fun ts μ5 all e5 c5 hlst => ?_
  · obtain ⟨j, _, rfl⟩ := List.mem_map.mp hx
    walk_at "wgo"
    exact call_Ki (h := 2) H.ki c5 (by omega) fun kd μ8 c8 e8 ok => ⟨e8, c8, kd, rfl, ok⟩
  walk_at "wgo"
  refine b_tuple (items_lst hlst) ?_
  obtain ⟨old, rfl, lold, ko⟩ := all2_kds all
  have lo : old.length ≤ 3 := by rw [lold, List.length_map, List.length_range]; omega
  have lo1 : 1 ≤ old.length := by rw [lold, List.length_map, List.length_range]; omega
  have X5 := (x2.trans x3).trans e5
  clear all lold hlst hD x2 x3 e5 d0 d1 c2 c3
  -- the new types
  refine v_step rfl ?_
  walk_at "wgo"
  refine call_Tk H.tk (by omega) c5 (by decide) (by decide) fun d μ3 d0 d1 c3 x3 => ?_
  walk_at "wgo"
  refine ⟨⟨by omega, by omega⟩, ?_⟩
  intro D hD
  refine lc_cur (wE_mono _) (fun _ t => ∃ kd : Kd, t = kd.t ∧ KOk 2 kd) c3 hD (fun _ _ => trivial) (by rw [line_eq, List.length_map, List.length_range]; omega) (fun x hx μ6 e6 c6 => ?_) fun ts μ6 all e6 c6 hlst => ?_
  · obtain ⟨j, _, rfl⟩ := List.mem_map.mp hx
    walk_at "wgo"
    exact call_Ki (h := 2) H.ki c6 (by omega) fun kd μ8 c8 e8 ok => ⟨e8, c8, kd, rfl, ok⟩
  walk_at "wgo"
  refine b_tuple (items_lst hlst) ?_
  obtain ⟨new, rfl, lnew, kn⟩ := all2_kds all
  have ln : new.length ≤ 3 := by rw [lnew, List.length_map, List.length_range]; omega
  have X6 := (X5.trans x3).trans e6
  clear all lnew hlst hD x3 e6 d0 d1 c5 c3 X5
  -- the values
  refine v_step rfl ?_
  walk_at "wgo"
  refine ⟨by rw [line_eq]; simp, fun p5 hp5 => ?_⟩
  have p5a := (c6.no hp5)
  refine v_step rfl ?_
  walk_at "wgo"
  refine forT_inv (f := Kd.t) (wSs_mono _) (fun rest τ μ' => ∃ (done : List Kd) (vs : List Tm), ∃ v6, old = done ++ rest ∧ τ = [some x, some (.ref a), some (sigT s), some (.tup (old.map Kd.t)), some (.tup (new.map Kd.t)), some (.ref p5), v6, none, none, none, none, none, none, none, none, none, none] ∧ Cur a ap μ' ∧ ExtC a μ6 μ' ∧ μ' p5 = some (.lst (vs.map Tm.t)) ∧ All2 (fun kd t => DT s new 6 [] kd t) done vs) (fun _ _ _ _ => trivial) ?_ ?_ old _ _ ⟨[], [], none, rfl, rfl, c6.new hp5, ExtX.new hp5, mset_same, .nil⟩
  rotate_left
  · rintro kd rest τ μ' ⟨done, vs, v6, e0, rfl, c7, x7, l7, all⟩
    walk_at "wgo"
    refine v_put4n rfl ?_
    walk_at "wgo"
    refine call_Tk H.tk (by omega) c7 (by decide) (by decide) fun d μ8 d0 d1 c8 x8 => ?_
    walk_at "wgo"
    refine ⟨_, ap, rfl, c8, fun μ9 c9 x9 => ?_⟩
    walk_at "wgo"
    refine ⟨⟨_, (x8.trans x9).at p5a.1 l7⟩, ?_⟩
    walk_at "wgo"
    refine ⟨by rw [line_eq]; simp, ?_⟩
    walk_at "wgo"
    refine call_Tk H.tk (by omega) c9 (by decide) (by decide) fun d' μ10 d0' d1' c10 x10 => ?_
    walk_at "wgo"
    refine call_Dr (pre := []) H.dr (by omega) (by omega) c10 so kn ln (by simp) (by simp) (ko kd (by rw [e0]; simp)) (by omega) fun tm μ11 c11 x11 w => ?_
    have l11 := (((x8.trans x9).trans x10).trans x11).at p5a.1 l7
    have ll : vs.length ≤ 3 := by
      have := all.length
      have e0' := congrArg List.length e0
      rw [List.length_append] at e0'
      omega
    walk_at "wgo"
    refine m_append l11 (by rw [line_eq, List.length_map]; omega) ?_
    walk_at "wgo"
    refine ⟨done ++ [kd], vs ++ [tm], _, by rw [e0]; simp, rfl, c11.later p5a.1.symm p5a.2.symm, ((((x7.trans x8).trans x9).trans x10).trans x11).later hp5, ?_, all.snoc w⟩
    rw [mset_same, List.map_append]
    rfl
  rintro τ μ7 ⟨done, vs0, v6, e0, rfl, c7, x7, l7, all⟩
  rw [List.append_nil] at e0
  subst e0
  have X7 := X6.trans x7
  have lvs0 := all.length
  clear c6 X6 x7
  -- tidied
  refine v_step rfl ?_
  walk_at "wgo"
  refine call_mk H.ti ⟨new, p5, vs0⟩ rfl ⟨l7, kn, ⟨s, 6, so, fun t ht => ?_, by omega, by decide⟩, by dsimp only; omega⟩ fun t μ8 ⟨e8, R, hR, et⟩ => ?_
  · obtain ⟨kd, hm, w⟩ := all2_mem all ht
    exact ⟨kd, ko kd hm, w⟩
  subst et
  dsimp only at hR
  have X8 := X7.trans (Ext.any e8)
  have c8 := c7.ext e8
  refine (show wUn _ (T.tup [_, _]) _ _ _ from ?_)
  walk_at "wgo"
  have kt := types_ok kn hR
  have lt : (R.map (permK new)).length ≤ 3 := by
    have := rows_len hR
    rw [List.length_map]; omega
  have wv := tidy_ty so.kd kn ko hR all
  have oc : ∀ j : Nat, j < (R.map (permK new)).length → occTs j (vs0.map (ordM R)) = true := fun j hj => tidy_occ hR (by simpa using hj)
  clear l7 lvs0 X7 e8 c7 all
  generalize R.map (permK new) = types at kt lt wv oc ⊢
  generalize vs0.map (ordM R) = vs at wv oc ⊢
  clear hR
  -- the last types
  refine v_step rfl ?_
  walk_at "wgo"
  refine call_Tk H.tk (by omega) c8 (by decide) (by decide) fun d μ3 d0 d1 c3 x3 => ?_
  walk_at "wgo"
  refine ⟨⟨by omega, by omega⟩, ?_⟩
  intro D hD
  refine lc_cur (wE_mono _) (fun _ t => ∃ kd : Kd, t = kd.t ∧ KOk 2 kd) c3 hD (fun _ _ => trivial) (by rw [line_eq, List.length_map, List.length_range]; omega) (fun x hx μ6 e6 c6 => ?_) fun ts μ9 all e9 c9 hlst => ?_
  · obtain ⟨j, _, rfl⟩ := List.mem_map.mp hx
    walk_at "wgo"
    exact call_Ki (h := 1) H.ki c6 (by omega) fun kd μ8 c8 e8 ok => ⟨e8, c8, kd, rfl, ok.succ⟩
  walk_at "wgo"
  refine b_tuple (items_lst hlst) ?_
  obtain ⟨last, rfl, llast, kl⟩ := all2_kds all
  have ll : last.length ≤ 3 := by rw [llast, List.length_map, List.length_range]; omega
  have X9 := (X8.trans x3).trans e9
  clear all llast hlst hD x3 e9 d0 d1 c8 c3 X8
  have F : LawF s old types last vs := ⟨so, ko, lo, lo1, kt, lt, kl, ll, wv, oc⟩
  -- what fills
  refine v_step rfl ?_
  walk_at "wgo"
  refine ⟨by rw [line_eq]; simp, fun p8 hp8 => ?_⟩
  have p8a := (c9.no hp8)
  refine v_step rfl ?_
  walk_at "wgo"
  refine forT_inv (f := Kd.t) (wSs_mono _) (fun rest τ μ' => ∃ (done : List Kd) (ms : List Tm), ∃ v6, types = done ++ rest ∧ τ = [some x, some (.ref a), some (sigT s), some (.tup (old.map Kd.t)), some (.tup (new.map Kd.t)), some (.tup (vs.map Tm.t)), v6, some (.tup (last.map Kd.t)), some (.ref p8), none, none, none, some (.tup (types.map Kd.t)), none, none, none, none] ∧ Cur a ap μ' ∧ ExtC a μ9 μ' ∧ μ' p8 = some (.lst (ms.map Tm.t)) ∧ All2 (fun kd t => WT s last 4 [] kd t) done ms) (fun _ _ _ _ => trivial) ?_ ?_ types _ _ ⟨[], [], v6, rfl, rfl, c9.new hp8, ExtX.new hp8, mset_same, .nil⟩
  rotate_left
  · rintro kd rest τ μ' ⟨done, ms, v6, e0, rfl, c7, x7, l7, all⟩
    walk_at "wgo"
    refine v_put4n rfl ?_
    walk_at "wgo"
    refine call_Tk H.tk (by omega) c7 (by decide) (by decide) fun d μ8 d0 d1 c8 x8 => ?_
    walk_at "wgo"
    refine ⟨_, ap, rfl, c8, fun μ9 c9 x9 => ?_⟩
    walk_at "wgo"
    refine ⟨⟨_, (x8.trans x9).at p8a.1 l7⟩, ?_⟩
    walk_at "wgo"
    refine ⟨by rw [line_eq]; simp, ?_⟩
    walk_at "wgo"
    refine call_Tk H.tk (by omega) c9 (by decide) (by decide) fun d' μ10 d0' d1' c10 x10 => ?_
    walk_at "wgo"
    refine call_Te (pre := []) H.te (by omega) (by omega) c10 so kl ll (by simp) (by simp) (kt kd (by rw [e0]; simp)) (by omega) fun tm μ11 c11 x11 w => ?_
    have l11 := (((x8.trans x9).trans x10).trans x11).at p8a.1 l7
    have ll : ms.length ≤ 3 := by
      have := all.length
      have e0' := congrArg List.length e0
      rw [List.length_append] at e0'
      omega
    walk_at "wgo"
    refine m_append l11 (by rw [line_eq, List.length_map]; omega) ?_
    walk_at "wgo"
    refine ⟨done ++ [kd], ms ++ [tm], _, by rw [e0]; simp, rfl, c11.later p8a.1.symm p8a.2.symm, ((((x7.trans x8).trans x9).trans x10).trans x11).later hp8, ?_, all.snoc w⟩
    rw [mset_same, List.map_append]
    rfl
  rintro τ μ10 ⟨done, more, v6, e0, rfl, c10, x10, l10, all⟩
  rw [List.append_nil] at e0
  subst e0
  have X10 := X9.trans x10
  clear c9 X9 x10
  -- the others
  refine v_step rfl ?_
  walk_at "wgo"
  intro D hD
  have lvs := wv.length
  refine lcT_pure (f := Tm.t) (wE_mono _) (fun y => (fillP more y).t) hD (fun _ _ => trivial) (by rw [line_eq]; omega) (fun y hy μ1 e1 => ?_) fun μ11 e11 hl11 => ?_
  · obtain ⟨kd', hk', w'⟩ := all2_mem wv hy
    walk_at "wgo"
    refine call_mk H.fl ⟨p8, more, y⟩ rfl ⟨Ext.at e1 l10, s, types, last, [], kd', 7, 4, so.kd, kl, kt, by simp, ko kd' hk', all, by decide, w', by omega⟩ fun t μ2 ⟨e2, et⟩ => ?_
    exact ⟨e2, et⟩
  walk_at "wgo"
  refine b_tuple (items_lst hl11) ?_
  have em : (vs.map fun y => (fillP more y).t) = (vs.map (fillP more)).map Tm.t := by rw [List.map_map]; rfl
  rw [em]
  have wo : All2 (fun kd t => WT s last 11 [] kd t) old (vs.map (fillP more)) := by
    refine all2_of_get (by rw [List.length_map]; exact lvs) fun j x y hx hy => ?_
    obtain ⟨v, hv, w⟩ := all2_nth wv hx
    rw [List.getElem?_map, hv] at hy
    cases hy
    exact fill_ok so.kd kl kt all (by decide) (by decide) w
  have told := told_ok so.kd kl kt all (by decide) wv oc
  have lmore := all.length
  have c11 := c10.ext e11
  have X11 := X10.trans (Ext.any e11)
  have l11 := Ext.at e11 l10
  clear hl11 em hD
  generalize vs.map (fillP more) = os at wo told ⊢
  have lwo := wo.length
  -- their sizes
  refine v_step rfl ?_
  walk_at "wgo"
  intro D hD
  refine lcT_pure (f := Tm.t) (wE_mono _) (fun y => T.int (tsz y)) hD (fun _ _ => trivial) (by rw [line_eq]; omega) (fun y hy μ1 e1 => ?_) fun μ12 e12 hl12 => ?_
  · obtain ⟨kd', hk', w'⟩ := all2_mem wo hy
    walk_at "wgo"
    refine call_mk H.sz ⟨y⟩ rfl ⟨11, wt_tle w', by omega⟩ fun t μ2 ⟨e2, et⟩ => ?_
    exact ⟨e2, et⟩
  walk_at "wgo"
  refine ⟨_, _, hl12, ints_map (fun y => (tsz y : Int)) os, ?_⟩
  rw [sum_cast]
  have c12 := c11.ext e12
  have X12 := X11.trans (Ext.any e12)
  have l12 := Ext.at e12 l11
  walk_at "wgo"
  refine ite_b (fun hb => ?_) fun hb => ?_
  · walk_at "wgo"
    exact q _ (X X12)
  have hb2 : (os.map tsz).sum ≤ 150 := by
    have : ¬ ((150 : Int) < ((os.map tsz).sum : Nat)) := by simpa using hb
    omega
  have O : OthF s old last 11 150 os := ⟨wo, hb2⟩
  walk_at "wgo"
  refine o_addT (by rw [line_eq, List.length_map, List.length_map]; omega) ?_
  rw [← List.map_append]
  refine call_mk H.ap ⟨vs ++ os⟩ rfl ⟨by omega, by dsimp only; rw [List.length_append]; omega, fun t ht => ?_⟩ fun t μ13 ⟨e13, b, et⟩ => ?_
  · rcases List.mem_append.mp ht with ht | ht
    · have := cap_vs F t ht; omega
    · have := tsz_sum ht; omega
  subst et
  have c13 := c12.ext e13
  have X13 := X12.trans (Ext.any e13)
  have l13 := Ext.at e13 l12
  cases b with
  | false =>
    walk_at "wgo"
    exact q _ (X X13)
  | true =>
    walk_at "wgo"
    refine v_step rfl ?_
    walk_at "wgo"
    refine call_mk H.mr ⟨s, old, types, vs, os⟩ rfl (F.mr O (by decide) (by decide) (by omega)) fun t μ14 ⟨e14, et⟩ => ?_
    subst et
    dsimp only
    rw [told]
    have c14 := c13.ext e14
    have X14 := X13.trans (Ext.any e14)
    have l14 := Ext.at e14 l13
    refine v_step rfl ?_
    walk_at "wgo"
    refine b_tuple (items_lst l14) ?_
    walk_at "wgo"
    have pu : (T.tup (more.map Tm.t)).pure = true := pure_tup.mpr fun x hx => by
      obtain ⟨y, _, rfl⟩ := List.mem_map.mp hx
      exact tm_pure y
    have dp : (T.tup (more.map Tm.t)).depth ≤ 150 := depth_tup.mpr fun x hx => by
      obtain ⟨y, hy, rfl⟩ := List.mem_map.mp hx
      obtain ⟨kd, _, w⟩ := all2_mem all hy
      have := w.depth
      omega
    refine c_ne (eqok_left pu pu dp) ?_
    rw [peq_refl _ pu]
    walk_at "wgo"
    exact v_turns H.tk H.sz H.ot H.mr H.mo hk F O μ1 _ _ _ _ μ14 c14 X14 post fun μ' x => q _ (X x)
end K07

namespace K07
open PySem PySem.Spec TV
open L2 (ixN atI Key)
/-! the table of contracts -/
def cLaw (k : Nat) : TV.Con := ⟨fun ts μ => 101 ≤ k ∧ ∃ (ns : List Int) (x : T), ts = [x] ∧ Scr ns x μ ∧ ns.length ≤ 63, fun _ μ t μ' => t = .bl true ∧ Ext μ μ'⟩
def Phi (k : Nat) : Fn → TV.Con
  | .is_integer => cP1 1 k fun v => .bl (isIntT v)
  | .type_of_head => cHd 2 k
  | .own_binders => cOb k
  | .long_binder => cLb k
  | .changed__closed_over => cChz k
  | .binder_of => cBn k
  | .binders_of => cBs k
  | .closed_over_change => cCg k
  | .closed_over => cCo2 k
  | .more_of => cMr k
  | .law_start => cSt k
  | .law_fill => cFi k
  | .law_take => cTk k
  | .law_signature => cSg k
  | .law_kind => cKi k
  | .law_long => cLo k
  | .law_lifted => cLi k
  | .law_body => cBo k
  | .law_within => cWi k
  | .law_filled => cFl k
  | .law_size => cSz k
  | .law_is_int => cP1 1 k fun v => .bl (isIntT v)
  | .law_needed => cNd 2 k
  | .law_heads => cHs k
  | .law_least => cLe k
  | .law_term => cTe k
  | .law_number => cNu k
  | .law_named => cNm k
  | .law_read => cRd k
  | .law_more => cMo k
  | .law_choice => cCo k
  | .law_drawn => cDr k
  | .law_met => cMt k
  | .law_ordered => cOr k
  | .law_rows_of => cRo k
  | .law_tidied => cTi k
  | .law_other => cOt k
  | .law_is_apt => cAp k
  | .law => cLaw k
theorem phi_len (k : Nat) (f : Fn) (ts : List T) (μ : Mu) (h : (Phi k f).pre ts μ) : ts.length = (psF f).length + lib.more f := by
  cases f
  case is_integer => obtain ⟨_, v, rfl, _⟩ := h; rfl
  case type_of_head => obtain ⟨_, _, _, _, _, _, rfl, _⟩ := h; rfl
  case own_binders => obtain ⟨_, _, rfl, _⟩ := h; rfl
  case long_binder => obtain ⟨_, _, _, rfl, _⟩ := h; rfl
  case changed__closed_over => obtain ⟨x, rfl, _⟩ := h; rfl
  case binder_of => obtain ⟨x, rfl, _⟩ := h; rfl
  case binders_of => obtain ⟨x, rfl, _⟩ := h; rfl
  case closed_over_change => obtain ⟨x, rfl, _⟩ := h; rfl
  case closed_over => obtain ⟨x, rfl, _⟩ := h; rfl
  case more_of => obtain ⟨x, rfl, _⟩ := h; rfl
  case law_start => obtain ⟨_, _, _, rfl, _⟩ := h; rfl
  case law_fill => obtain ⟨_, _, _, rfl, _⟩ := h; rfl
  case law_take => obtain ⟨_, _, _, _, rfl, _⟩ := h; rfl
  case law_signature => obtain ⟨_, _, _, rfl, _⟩ := h; rfl
  case law_kind => obtain ⟨_, _, _, rfl, _⟩ := h; rfl
  case law_long => obtain ⟨_, _, _, rfl, _⟩ := h; rfl
  case law_lifted => obtain ⟨_, _, _, _, rfl, _⟩ := h; rfl
  case law_body => obtain ⟨x, rfl, _⟩ := h; rfl
  case law_within => obtain ⟨x, rfl, _⟩ := h; rfl
  case law_filled => obtain ⟨x, rfl, _⟩ := h; rfl
  case law_size => obtain ⟨x, rfl, _⟩ := h; rfl
  case law_is_int => obtain ⟨_, v, rfl, _⟩ := h; rfl
  case law_needed => obtain ⟨_, _, _, _, _, _, rfl, _⟩ := h; rfl
  case law_heads => obtain ⟨x, rfl, _⟩ := h; rfl
  case law_least => obtain ⟨x, rfl, _⟩ := h; rfl
  case law_term => obtain ⟨x, rfl, _⟩ := h; rfl
  case law_number => obtain ⟨x, rfl, _⟩ := h; rfl
  case law_named => obtain ⟨x, rfl, _⟩ := h; rfl
  case law_read => obtain ⟨x, rfl, _⟩ := h; rfl
  case law_more => obtain ⟨x, rfl, _⟩ := h; rfl
  case law_choice => obtain ⟨x, rfl, _⟩ := h; rfl
  case law_drawn => obtain ⟨x, rfl, _⟩ := h; rfl
  case law_met => obtain ⟨x, rfl, _⟩ := h; rfl
  case law_ordered => obtain ⟨x, rfl, _⟩ := h; rfl
  case law_rows_of => obtain ⟨x, rfl, _⟩ := h; rfl
  case law_tidied => obtain ⟨x, rfl, _⟩ := h; rfl
  case law_other => obtain ⟨x, rfl, _⟩ := h; rfl
  case law_is_apt => obtain ⟨x, rfl, _⟩ := h; rfl
  case law => obtain ⟨_, _, _, rfl, _⟩ := h; rfl
theorem phi_zero (f : Fn) (ts : List T) (μ : Mu) (h : (Phi 0 f).pre ts μ) : False := by
  cases f
  case is_integer => exact absurd h.1 (by decide)
  case type_of_head => exact absurd h.1 (by decide)
  case own_binders => obtain ⟨_, _, _, _, p, _⟩ := h; omega
  case long_binder => obtain ⟨_, _, _, _, _, p⟩ := h; omega
  case changed__closed_over => obtain ⟨x, _, p⟩ := h; exact absurd p.hk (by decide)
  case binder_of => obtain ⟨_, _, p, _⟩ := h; omega
  case binders_of => obtain ⟨x, _, p⟩ := h; exact absurd p.hk (by decide)
  case closed_over_change => obtain ⟨x, _, p⟩ := h; exact absurd p.hk (by decide)
  case closed_over => obtain ⟨x, _, p⟩ := h; exact absurd p.hk (by decide)
  case more_of => obtain ⟨x, _, p⟩ := h; exact absurd p.hk (by decide)
  case law_start => exact absurd h.1 (by decide)
  case law_fill => exact absurd h.1 (by decide)
  case law_take => exact absurd h.1 (by decide)
  case law_signature => exact absurd h.1 (by decide)
  case law_kind => obtain ⟨_, _, _, _, _, p⟩ := h; omega
  case law_long => obtain ⟨_, _, _, _, _, p⟩ := h; omega
  case law_lifted => obtain ⟨_, _, _, _, _, _, p⟩ := h; omega
  case law_body => obtain ⟨_, _, _, _, _, p⟩ := h; omega
  case law_within => obtain ⟨_, _, _, _, _, p⟩ := h; omega
  case law_filled => obtain ⟨x, _, p⟩ := h; obtain ⟨s, types, last, own, kd, h, hv, _, _, _, _, _, _, _, _, q⟩ := p.ty; omega
  case law_size => obtain ⟨x, _, _, _, p⟩ := h; omega
  case law_is_int => exact absurd h.1 (by decide)
  case law_needed => exact absurd h.1 (by decide)
  case law_heads => obtain ⟨_, _, p, _⟩ := h; omega
  case law_least => obtain ⟨_, _, p, _⟩ := h; omega
  case law_term => obtain ⟨x, _, p⟩ := h; have := p.hk; omega
  case law_number => obtain ⟨x, _, p⟩ := h; exact absurd p (by decide)
  case law_named => obtain ⟨x, _, p⟩ := h; obtain ⟨_, _, _, _, q⟩ := p.tl; omega
  case law_read => obtain ⟨x, _, p⟩ := h; obtain ⟨_, _, q⟩ := p.ok; omega
  case law_more => obtain ⟨x, _, p⟩ := h; exact absurd p.hk (by decide)
  case law_choice => obtain ⟨_, _, p, _⟩ := h; omega
  case law_drawn => obtain ⟨x, _, p⟩ := h; have := p.hk; omega
  case law_met => obtain ⟨x, _, p⟩ := h; obtain ⟨_, _, q⟩ := p.tl; omega
  case law_ordered => obtain ⟨x, _, p⟩ := h; obtain ⟨_, _, _, _, _, _, _, _, _, _, _, _, q⟩ := p.ty; omega
  case law_rows_of => obtain ⟨x, _, p⟩ := h; obtain ⟨_, _, _, _, q, _⟩ := p.ty; omega
  case law_tidied => obtain ⟨x, _, p⟩ := h; obtain ⟨_, _, _, _, q, _⟩ := p.ty; omega
  case law_other => obtain ⟨x, _, p⟩ := h; obtain ⟨_, _, _, q⟩ := p.ty; omega
  case law_is_apt => obtain ⟨_, _, p, _⟩ := h; omega
  case law => exact absurd h.1 (by decide)
/-! the defs keep their contracts -/
theorem longM_any : ∀ {h h' : Nat} {hd : Hd} {kd : Kd}, KOk h kd → KOk h' kd → longM h hd kd = longM h' hd kd
  | 0, h', hd, .mk a s, q, q' => by
    rw [longM_eq hd q, longM_eq hd q']
    have e : a = [] := q.2
    subst e
    rfl
  | h + 1, h', hd, .mk a s, q, q' => by
    rw [longM_eq hd q, longM_eq hd q']
    congr 1
    refine List.map_congr_left fun j hj => ?_
    have hj2 : j < a.length := List.mem_range.mp hj
    rw [List.getElem?_eq_getElem hj2]
    have k1 := (kok_args q).2 _ (List.getElem_mem hj2)
    have k2 := (kok_args q').2 _ (List.getElem_mem hj2)
    exact longM_any (h := h) k1.1 k2.1
end K07

namespace K07
open PySem PySem.Spec TV
open L2 (ixN atI Key)
/-! the defs within defs, and the one to which one is handed -/
theorem plc_one {ms ms' : List Nat} {kvs : List (Key × T)} (h : Plc ms kvs) (h' : Plc ms' kvs) : placeI ms = placeI ms' := by
  funext j
  have e := (h j).symm.trans (h' j)
  cases a : placeI ms j <;> cases b : placeI ms' j <;> rw [a, b] at e
  · cases e
  · cases e
  · simp only [Option.map_some, Option.some.injEq, T.int.injEq] at e
    rw [e]
theorem clH_one {ms ms' : List Nat} (h : placeI ms = placeI ms') : clH ms = clH ms' := by
  funext d x
  cases x with
  | b i => simp only [clH]; rw [h]
  | c i => rfl
  | h i => rfl
theorem okH_one {ms ms' : List Nat} (h : placeI ms = placeI ms') : okH ms = okH ms' := by
  have e : ∀ j, (posN ms j).isSome = (posN ms' j).isSome := fun j => by
    have := congrFun h j
    unfold placeI at this
    cases a : posN ms j <;> cases b : posN ms' j <;> rw [a, b] at this <;> first | rfl | cases this
  funext d x
  cases x with
  | b i => simp only [okH]; rw [e]
  | c i => rfl
  | h i => rfl
mutual
theorem clM_one {ms ms' : List Nat} (h : placeI ms = placeI ms') : ∀ (d : Int) (x : Tm), clM ms d x = clM ms' d x
  | d, .mk n hd ps => by unfold clM; rw [clH_one h, clMs_one h (d + n) ps]
theorem clMs_one {ms ms' : List Nat} (h : placeI ms = placeI ms') : ∀ (d : Int) (x : List Tm), clMs ms d x = clMs ms' d x
  | d, [] => by unfold clMs; rfl
  | d, x :: xs => by unfold clMs; rw [clM_one h d x, clMs_one h d xs]
end
mutual
theorem okM_one {ms ms' : List Nat} (h : placeI ms = placeI ms') : ∀ (d : Int) (x : Tm), okM ms d x = okM ms' d x
  | d, .mk n hd ps => by unfold okM; rw [okH_one h, okMs_one h (d + n) ps]
theorem okMs_one {ms ms' : List Nat} (h : placeI ms = placeI ms') : ∀ (d : Int) (x : List Tm), okMs ms d x = okMs ms' d x
  | d, [] => by unfold okMs; rfl
  | d, x :: xs => by unfold okMs; rw [okM_one h d x, okMs_one h d xs]
end
theorem vc_t (k : Nat) (G : NdefX.NF) (us ts : List T) (fa : Addr) (μ : Mu) (hl : ts.length = 2) (hla : ts.getLast? = some (.ref fa)) (hfa : μ fa = some (.fn G)) (h : (cChz (k + 1)).pre (ts ++ us) μ) : wSs (Phi k) (b_changed__closed_over G us) (endsOf ((cChz (k + 1)).post (ts ++ us) μ)) (startT 11 ts) μ := by
  obtain ⟨x, e, p⟩ := h
  have hx : ∃ a b, ts = [a, b] := by
    match ts, hl with
    | [a, b], _ => exact ⟨a, b, rfl⟩
  obtain ⟨a, b, rfl⟩ := hx
  have e' := e
  simp only [inChz, List.cons_append, List.nil_append, List.cons.injEq] at e'
  obtain ⟨rfl, rfl, rfl⟩ := e'
  simp at hla
  subst hla
  obtain ⟨hk, e1, pc, e2, ll, sz⟩ := p
  refine v_changed_co (k := k) rfl x G μ ⟨by omega, e1, pc, e2, ll, sz⟩ hfa _ fun μ' l' g1 g2 g3 y ey py => ?_
  rw [e] at ey
  obtain ⟨tm, fa, pl, st, ms, kvs, l⟩ := x
  obtain ⟨tm', fa', pl', st', ms', kvs', l2⟩ := y
  simp only [inChz, List.cons.injEq, T.ref.injEq, and_true] at ey
  obtain ⟨y1, rfl, rfl, rfl⟩ := ey
  have f1 := e1.symm.trans py.e1
  have f2 := e2.symm.trans py.e2
  simp only [Option.some.injEq, MO.dic.injEq, MO.lst.injEq] at f1 f2
  subst f1 f2
  obtain rfl := Tm.inj y1
  have o := plc_one pc py.pc
  dsimp only at o g1 g2 g3 ⊢
  rw [← clM_one o, ← okM_one o]
  exact ⟨rfl, g1, l', g2, g3⟩
theorem vc_n (k : Nat) (ts : List T) (μ : Mu) (h : (cCg (k + 1)).pre ts μ) : wSs (Phi k) b_closed_over_change (endsOf ((cCg (k + 1)).post ts μ)) (startT 8 ts) μ := by
  obtain ⟨x, rfl, p⟩ := h
  obtain ⟨hk, e1, pc, e2, ll⟩ := p
  refine v_change (k := k) x μ ⟨by omega, e1, pc, e2, ll⟩ _ fun μ' g1 g2 y ey py => ?_
  obtain ⟨n, h, ps, i, pl, st, ms, kvs, l⟩ := x
  obtain ⟨n', h', ps', i', pl', st', ms', kvs', l'⟩ := y
  simp only [inCg, List.cons.injEq, T.ref.injEq, T.int.injEq, and_true] at ey
  obtain ⟨y1, rfl, rfl, rfl⟩ := ey
  have f1 := e1.symm.trans py.e1
  have f2 := e2.symm.trans py.e2
  simp only [Option.some.injEq, MO.dic.injEq, MO.lst.injEq] at f1 f2
  subst f1 f2
  have y2 := Tm.inj y1
  injection y2 with y2 y3 y4
  subst y2 y3 y4
  have o := plc_one pc py.pc
  dsimp only at o g1 g2 ⊢
  rw [← clH_one o, ← okH_one o]
  exact ⟨rfl, g1, g2⟩
end K07

namespace K07
open PySem PySem.Spec TV
open L2 (ixN atI Key)
/-! the defs keep their contracts -/
theorem vc_p (k : Nat) (f : Fn) (bx : BX) (ts : List T) (μ : Mu) (e : kdF f = .plain) (h : (Phi (k + 1) f).pre ts μ) : wSs (Phi k) (boF f bx) (endsOf ((Phi (k + 1) f).post ts μ)) (startT (nsF f).length ts) μ := by
  cases f
  case changed__closed_over => cases e
  case closed_over_change => cases e
  case is_integer =>
    obtain ⟨_, v, rfl, b⟩ := h
    exact v_is_integer v μ b.pu _ ⟨ExtX.refl, fun v' e => by cases e; rfl⟩
  case type_of_head =>
    obtain ⟨hk, tb, kvs, hs, own, hd, rfl, e, b⟩ := h
    exact v_type_of_head ⟨k, by omega, rfl⟩ tb kvs hs own hd μ e b _ fun μ' ex => ⟨ex, fun tb' kvs' hs' own' h' e1 e2 => by cases e1; rw [e] at e2; cases e2; rfl⟩
  case own_binders =>
    obtain ⟨h, a, rfl, al, k1, aok⟩ := h
    refine v_own_binders (k := k) rfl h a μ al (fun x hx => ⟨(aok x hx).1, by have := (aok x hx).2; omega⟩) _ fun μ' e => ⟨e, fun h' a' e1 ok' => ?_⟩
    simp only [List.cons.injEq, T.tup.injEq, and_true] at e1
    obtain rfl := kds_inj e1
    congr 2
    unfold ownsM
    refine List.map_congr_left fun j hj => ?_
    have hj2 : j < a.length := List.mem_range.mp hj
    rw [List.getElem?_eq_getElem hj2]
    exact longM_any (aok _ (List.getElem_mem hj2)).1 (ok' _ (List.getElem_mem hj2))
  case long_binder =>
    obtain ⟨h, i, kd, rfl, ok, hk⟩ := h
    obtain ⟨a, s⟩ := kd
    exact v_long_binder (k := k) rfl h i a s μ ok (by omega) _ fun μ' e => ⟨e, fun h' i' kd' e1 ok' => by
      simp only [List.cons.injEq, T.int.injEq, and_true] at e1
      obtain ⟨rfl, e1⟩ := e1
      obtain rfl := Kd.inj e1
      rw [longM_any ok ok']⟩
  case binder_of =>
    exact vc_mk2 (fun x y μ e p p' => inBn_inj (k := k + 1) x y μ e p p') (fun x μ p P q => v_binder_of (k := k) rfl x μ ⟨by have := p.1; omega, p.2.1, p.2.2.1, p.2.2.2⟩ P fun μ' e => q _ _ ⟨e, rfl⟩) ts μ h
  case binders_of =>
    exact vc_mk2 (fun x y μ e p p' => inBs_inj x y μ e p p') (fun x μ p P q => v_binders_of (k := k) rfl x μ (by obtain ⟨p1, p2, p3, p4, p5, p6⟩ := p; exact ⟨by omega, p2, p3, p4, p5, p6⟩) P fun p μ' e1 e2 e3 => q _ _ ⟨e1, p, rfl, e2, e3⟩) ts μ h
  case closed_over =>
    exact vc_mk2 (fun x y μ e p p' => inCo_inj x y μ e p p') (fun x μ p P q => v_closed_over (k := k) rfl bx.cl x μ ⟨by have := p.hk; omega, p.e, p.nd, p.lm, p.sz⟩ P fun μ' e => q _ _ ⟨e, rfl⟩) ts μ h
  case more_of =>
    exact vc_mk (fun x y e => inMr_inj x y e) (fun x μ p P q => v_more_of (k := k) rfl rfl rfl x μ ⟨by have := p.hk; omega, p.so, p.kn, p.ln, p.lo, p.l1, p.l2, p.ty, p.oc, p.sz⟩ P fun μ' e => q _ _ ⟨e, rfl⟩) ts μ h
  case law_start =>
    obtain ⟨_, ns, x, rfl, hx, hn⟩ := h
    exact v_law_start ns x hn μ hx _ fun a ap μ' c e n => ⟨a, ap, rfl, c, e, n⟩
  case law_fill =>
    obtain ⟨_, a, ap, rfl, c⟩ := h
    exact v_law_fill a ap μ c _ fun n μ' n0 c' e a' ap' ea ca => by
      cases ea
      obtain rfl := c.one ca
      exact ⟨n, rfl, n0, c', e⟩
  case law_take =>
    obtain ⟨hk, a, ap, m, rfl, m0, m1, c⟩ := h
    exact v_law_take ⟨k, by omega, rfl⟩ a ap m m0 m1 μ c _ fun d μ' d0 d1 c' e a' ap' m' ea ca => by
      cases ea
      obtain rfl := c.one ca
      exact ⟨d, rfl, d0, d1, c', e⟩
  case law_signature =>
    obtain ⟨hk, a, ap, rfl, c⟩ := h
    exact v_law_signature rfl (by omega) a ap μ c _ fun s μ' c' e so a' ap' ea ca => by
      cases ea
      obtain rfl := c.one ca
      exact ⟨c', e, s, rfl, so⟩
  case law_kind =>
    obtain ⟨a, ap, n, rfl, c, hk⟩ := h
    exact v_law_kind rfl rfl a ap n μ c (by omega) _ fun kd μ' c' e ok a' ap' n' ea ca => by
      simp only [List.cons.injEq, T.ref.injEq, T.int.injEq, and_true] at ea
      obtain ⟨rfl, en⟩ := ea
      obtain rfl : n = n' := Int.ofNat.inj en
      obtain rfl := c.one ca
      exact ⟨c', e, kd, rfl, ok⟩
  case law_long =>
    obtain ⟨n, hd, kd, rfl, ok, hk⟩ := h
    obtain ⟨a, s⟩ := kd
    exact v_law_long rfl n hd a s μ ok (by omega) _ fun μ' e => ⟨e, fun n' hd' kd' e1 ok' => by
      simp only [List.cons.injEq, and_true] at e1
      obtain rfl := Hd.inj e1.1
      obtain rfl := Kd.inj e1.2
      rw [longM_any ok ok']⟩
  case law_lifted =>
    obtain ⟨n, tm, u, d, rfl, tl, hk⟩ := h
    obtain ⟨m, hd, ps⟩ := tm
    exact v_law_lifted rfl n m hd ps u d μ tl (by omega) _ fun μ' e => ⟨e, fun tm' u' d' e1 => by
      simp only [List.cons.injEq, T.int.injEq, and_true] at e1
      obtain ⟨e1, rfl, rfl⟩ := e1
      rw [← Tm.inj e1]⟩
  case law_body =>
    exact vc_mk (fun x y e => inBo_inj x y e) (fun x μ ⟨f, r, e, hk⟩ P q => v_law_body rfl rfl rfl x.hd x.ps x.ts x.d f r μ e (by omega) P fun p μ' e1 e2 e3 => q _ _ ⟨e1, p, rfl, f, r, e, e2, e3⟩) ts μ h
  case law_within =>
    exact vc_mk (fun x y e => inWi_inj x y e) (fun x μ ⟨f, r, e, hk⟩ P q => v_law_within rfl x.p x.ts x.d f r μ e (by omega) P fun μ' e1 => q _ _ ⟨e1, f, r, e, rfl⟩) ts μ h
  case law_filled =>
    exact vc_mk2 (fun x y μ e p p' => inFl_inj x y μ e p p') (fun x μ p P q => v_law_filled (k := k) rfl rfl x μ ⟨p.e, by obtain ⟨s, types, last, own, kd, h, hv, a1, a2, a3, a4, a5, a6, a7, a8, a9⟩ := p.ty; exact ⟨s, types, last, own, kd, h, hv, a1, a2, a3, a4, a5, a6, a7, a8, by omega⟩⟩ P fun μ' e => q _ _ ⟨e, rfl⟩) ts μ h
  case law_size =>
    exact vc_mk (fun x y e => inSz_inj x y e) (fun x μ ⟨h, tl, hk⟩ P q => v_law_size (k := k) rfl x.tm h μ tl (by omega) P fun μ' e => q _ _ ⟨e, rfl⟩) ts μ h
  case law_is_int =>
    obtain ⟨_, v, rfl, b⟩ := h
    exact v_law_is_int v μ b.pu _ ⟨ExtX.refl, fun v' e => by cases e; rfl⟩
  case law_needed =>
    obtain ⟨hk, rows, prs, hs, own, hd, rfl, e0, b⟩ := h
    exact v_law_needed ⟨k, by omega, rfl⟩ rows hs own prs hd μ e0 b _ fun μ' ex => ⟨ex, fun rows' hs' own' h' e1 => by cases e1; rfl⟩
  case law_heads =>
    exact vc_mk (fun x y e => inHs_inj x y e) (fun x μ ⟨_, h1, h2, h3⟩ P q => v_law_heads x.s x.hs x.own x.z μ h1 h2 h3 P fun p μ' e1 e2 e3 => q _ _ ⟨e1, p, rfl, e2, e3⟩) ts μ h
  case law_least =>
    exact vc_mk (fun x y e => inLe_inj x y e) (fun x μ ⟨_, so, la, ab⟩ P q => v_law_least x.s x.a x.z μ (by
      rcases ab with e | e
      · rw [e]; exact so.ha
      · rw [e]; exact so.hb) la P fun n μ' e1 e2 => q _ _ ⟨e1, n, rfl, e2⟩) ts μ h
  case law_term =>
    exact vc_mk2 (fun x y μ e p p' => inDr_inj x y μ e p p') (fun x μ p P q => v_law_term rfl rfl rfl x μ ⟨p.hc, p.so, p.ho, p.lh, p.po, p.lp, p.ko, by have := p.hk; omega⟩ P fun tm μ' c e w => q _ _ ⟨c, e, tm, rfl, w⟩) ts μ h
  case law_number =>
    exact vc_mk (fun x y e => inNu_inj x y e) (fun x μ p P q => v_law_number x μ P fun μ' e => q _ _ ⟨e, rfl⟩) ts μ h
  case law_named =>
    exact vc_mk2 (fun x y μ e p p' => inNm_inj x y μ e p p') (fun x μ p P q => v_law_named (k := k) rfl x μ ⟨p.e, by obtain ⟨hg, a1, a2, a3, a4⟩ := p.tl; exact ⟨hg, a1, a2, fun z => by have := a3 z; omega, by omega⟩⟩ P fun t μ' e1 e2 => q _ _ ⟨e1, e2⟩) ts μ h
  case law_read =>
    exact vc_mk2 (fun x y μ e p p' => inRd_inj x y μ e p p') (fun x μ p P q => v_law_read (k := k) rfl rfl rfl x μ ⟨p.e, by obtain ⟨h, a1, a2⟩ := p.ok; exact ⟨h, a1, by omega⟩, p.dk, p.ln⟩ P fun μ' e1 e2 => q _ _ ⟨e1, rfl, e2⟩) ts μ h
  case law_more =>
    exact vc_mk (fun x y e => inMo_inj x y e) (fun x μ p P q => v_law_more (k := k) rfl x μ ⟨p.ll, p.l3, p.m3, by obtain ⟨h, a1, a2⟩ := p.ok; exact ⟨h, a1, by omega⟩, p.sz, by have := p.hk; omega⟩ P fun μ' e => q _ _ ⟨e, rfl⟩) ts μ h
  case law_choice =>
    exact vc_mk2 (fun x y μ e p p' => inCh_inj x y μ e p p') (fun x μ ⟨hk, hc, ok, lo, lk⟩ P q => v_law_choice rfl (by omega) x.a x.ap x.own x.kinds μ hc ok lo lk P (fun μ' c e => q _ _ ⟨c, e, .inl rfl⟩) fun p nums μ' c e h1 h2 h3 h4 => q _ _ ⟨c, e, .inr ⟨p, nums, rfl, h1, h2, h3, h4⟩⟩) ts μ h
  case law_drawn =>
    exact vc_mk2 (fun x y μ e p p' => inDr_inj x y μ e p p') (fun x μ p P q => v_law_drawn rfl rfl rfl rfl rfl rfl x μ ⟨p.hc, p.so, p.ho, p.lh, p.po, p.lp, p.ko, by have := p.hk; omega⟩ P fun tm μ' c e w => q _ _ ⟨c, e, tm, rfl, w⟩) ts μ h
  case law_met =>
    exact vc_mk2 (fun x y μ e p p' => inMt_inj x y μ e p p') (fun x μ p P q => v_law_met (k := k) rfl x μ ⟨p.e, by obtain ⟨h, a1, a2⟩ := p.tl; exact ⟨h, a1, by omega⟩, p.ln⟩ P fun μ' e1 e2 => q _ _ ⟨e1, rfl, e2⟩) ts μ h
  case law_ordered =>
    exact vc_mk2 (fun x y μ e p p' => inOr_inj x y μ e p p') (fun x μ p P q => v_law_ordered (k := k) rfl x μ ⟨p.e, p.r, by obtain ⟨s, new, own, kd, h, a1, a2, a3, a4, a5, a6, a7, a8⟩ := p.ty; exact ⟨s, new, own, kd, h, a1, a2, a3, a4, a5, a6, a7, by omega⟩⟩ P fun μ' e => q _ _ ⟨e, rfl⟩) ts μ h
  case law_rows_of =>
    exact vc_mk2 (fun x y μ e p p' => inRo_inj x y μ e p p') (fun x μ p P q => v_law_rows_of (k := k) rfl rfl x μ ⟨p.e, p.kn, by obtain ⟨s, h, a1, a2, a3, a4⟩ := p.ty; exact ⟨s, h, a1, a2, by omega, a4⟩, p.l3⟩ P fun r rd kvs R μ' e1 e2 e3 e4 e5 => q _ _ ⟨e1, r, rd, kvs, R, rfl, e2, e3, e4, e5⟩) ts μ h
  case law_tidied =>
    exact vc_mk2 (fun x y μ e p p' => inRo_inj x y μ e p p') (fun x μ p P q => v_law_tidied (k := k) rfl rfl x μ ⟨p.e, p.kn, by obtain ⟨s, h, a1, a2, a3, a4⟩ := p.ty; exact ⟨s, h, a1, a2, by omega, a4⟩, p.l3⟩ P fun R μ' e1 e2 => q _ _ ⟨e1, R, e2, rfl⟩) ts μ h
  case law_other =>
    exact vc_mk2 (fun x y μ e p p' => inOt_inj x y μ e p p') (fun x μ p P q => v_law_other (k := k) rfl rfl rfl x μ ⟨p.hc, p.e, p.n1, p.n2, p.so, p.ho, p.lh, p.po, p.ko, by obtain ⟨h, a1, a2, a3⟩ := p.ty; exact ⟨h, a1, a2, by omega⟩⟩ P fun tm' b' μ' c e1 e2 e3 e4 e5 => q _ _ ⟨c, e1, tm', b', rfl, e2, e3, e4, e5⟩) ts μ h
  case law_is_apt =>
    exact vc_mk (fun x y e => inAp_inj x y e) (fun x μ ⟨_, h1, h2⟩ P q => v_law_is_apt x.ts μ h1 h2 P fun b μ' e => q _ _ ⟨e, b, rfl⟩) ts μ h
  case law =>
    obtain ⟨hk, ns, x, rfl, hx, hn⟩ := h
    exact v_law (k := k) ⟨rfl, rfl, rfl, rfl, rfl, rfl, rfl, rfl, rfl, rfl, rfl, rfl, rfl⟩ (by omega) ns x hn μ hx _ fun μ' e => ⟨rfl, e⟩
theorem vcs (k : Nat) : Vcs lib (Phi k) (Phi (k + 1)) where
  p := fun f bx ts μ e h => vc_p k f bx ts μ e h
  t := fun f g G us ts fa μ e hG hl hla hfa h => by
    cases f
    case changed__closed_over => exact vc_t k G us ts fa μ hl hla hfa h
    all_goals cases e
  n := fun f fr bx ts us μ e hl hu h => by
    cases f
    case closed_over_change => exact vc_n k (ts ++ us) μ h
    all_goals cases e
end K07

namespace K07
open PySem PySem.Spec PyProof.Rows L2 TV
open NdefX (NF)
section
variable {P : Program} {w : World} {K : PySem.W.Frag} {mg : Str → Option Value} {base : Heap} {Tb : List NdefX.NTab} {cv : Fn → Value} {k : Nat} {Φ : Fn → Con}
variable (ab : Abs mg) (cs : Csts K mg) (mk : Mks mg base Tb cv) (kn : ∀ g, Pr lib P w K mg base Tb k Φ g) (hl : ∀ g ts μ, (Φ g).pre ts μ → ts.length = (psF g).length + lib.more g)
include ab cs mk kn hl
theorem w_is_integer (fa : Addr) (A : Around) (outer : List PySem.Env) (s : Shared) (H : Hp) (hr : Room k (cxN lib P w K mg base .is_integer fa (cv .is_integer) A outer s H).A) : JSs Tb (cxN lib P w K mg base .is_integer fa (cv .is_integer) A outer s H) Φ (defBody (stF .is_integer)) b_is_integer :=
  have g : Gd (cxN lib P w K mg base .is_integer fa (cv .is_integer) A outer s H) := ⟨rfl, (sc_is_integer).nd, Nat.lt_of_le_of_lt (by omega) hr.un⟩
  (jss_cons (js_ret (j_and (jea_cons (j_isi "int" (by rfl) ab.z_isinstance (by rfl) ab.z_int PyProof.Rows.boot_int (by decide) (j_var 0)) (jea_one (j_not (j_isi "bool" (by rfl) ab.z_isinstance (by rfl) ab.z_bool PyProof.Rows.boot_bool (by decide) (j_var 0)))))))
    jss_nil)
theorem w_type_of_head (fa : Addr) (A : Around) (outer : List PySem.Env) (s : Shared) (H : Hp) (hr : Room k (cxN lib P w K mg base .type_of_head fa (cv .type_of_head) A outer s H).A) : JSs Tb (cxN lib P w K mg base .type_of_head fa (cv .type_of_head) A outer s H) Φ (defBody (stF .type_of_head)) b_type_of_head :=
  have g : Gd (cxN lib P w K mg base .type_of_head fa (cv .type_of_head) A outer s H) := ⟨rfl, (sc_type_of_head).nd, Nat.lt_of_le_of_lt (by omega) hr.un⟩
  (jss_cons (js_ite (jt_or (jwo_cons (jt_not (jt_isi (j_isi "tuple" (by rfl) ab.z_isinstance (by rfl) ab.z_tuple PyProof.Rows.boot_tuple (by decide) (j_var 3)))) (jwo_one (jt_cmp g (j_bfun bi_len (by rfl) (ab.z_len) PySem.boot_len (ja_cons (j_var 3) ja_nil)) j_int)))) (jss_cons (js_ret j_non)
    jss_nil) jss_nil)
    (jss_cons (js_unp g (j_var 3) (jgs_cons (jg_nm 4 g) (jgs_cons (jg_nm 5 g) jgs_nil)))
    (jss_cons (js_ite (jt_and (jwa_cons (jt_cmp g (j_var 4) (j_str (by decide +kernel) (by decide +kernel))) (jwa_cons (jt_call (j_call ((kn .is_integer).plain rfl) (hl .is_integer) hr (by rfl) (ja_cons (j_var 5) ja_nil))) (jwa_one (jt_chain g j_int (j_var 5) (j_bfun bi_len (by rfl) (ab.z_len) PySem.boot_len (ja_cons (j_var 2) ja_nil))))))) (jss_cons (js_ret (j_ix g (j_var 2) (j_bin (j_bin (j_bfun bi_len (by rfl) (ab.z_len) PySem.boot_len (ja_cons (j_var 2) ja_nil)) j_int) (j_var 5))))
    jss_nil) jss_nil)
    (jss_cons (js_ite (jt_and (jwa_cons (jt_cmp g (j_var 4) (j_str (by decide +kernel) (by decide +kernel))) (jwa_one (jt_isi (j_isi "str" (by rfl) ab.z_isinstance (by rfl) ab.z_str PyProof.Rows.boot_str (by decide) (j_var 5)))))) (jss_cons (js_ret (j_me PySem.F.plainAttrs_dict PySem.F.slot_dict_get PySem.F.type_dict_get (me_get1 g.un) (ty_dic (by decide)) (j_var 0) (ja_cons (j_var 5) ja_nil)))
    jss_nil) jss_nil)
    (jss_cons (js_ite (jt_and (jwa_cons (jt_cmp g (j_var 4) (j_str (by decide +kernel) (by decide +kernel))) (jwa_cons (jt_call (j_call ((kn .is_integer).plain rfl) (hl .is_integer) hr (by rfl) (ja_cons (j_var 5) ja_nil))) (jwa_one (jt_chain g j_int (j_var 5) (j_bfun bi_len (by rfl) (ab.z_len) PySem.boot_len (ja_cons (j_var 1) ja_nil))))))) (jss_cons (js_ret (j_ix g (j_var 1) (j_var 5)))
    jss_nil) jss_nil)
    (jss_cons (js_ret j_non)
    jss_nil))))))
theorem w_own_binders (fa : Addr) (A : Around) (outer : List PySem.Env) (s : Shared) (H : Hp) (hr : Room k (cxN lib P w K mg base .own_binders fa (cv .own_binders) A outer s H).A) : JSs Tb (cxN lib P w K mg base .own_binders fa (cv .own_binders) A outer s H) Φ (defBody (stF .own_binders)) b_own_binders :=
  have g : Gd (cxN lib P w K mg base .own_binders fa (cv .own_binders) A outer s H) := ⟨rfl, (sc_own_binders).nd, Nat.lt_of_le_of_lt (by omega) hr.un⟩
  (jss_cons (js_ret (j_btyp bi_tuple (by rfl) (ab.z_tuple) PyProof.Rows.boot_tuple (ja_cons (j_lc [("k", 1), ("kind", 2)] g (ji_enum (by rfl) ab.z_enumerate (j_var 0)) (by kernel_rfl) (by decide +kernel) (fun s H C cl fp => (jg_tp g.blk (jgs_cons (jg_nm 1 g.blk) (jgs_cons (jg_nm 2 g.blk) jgs_nil)))) (fun s H C cl fp => jc_none) (fun s H C cl fp => (j_call ((kn .long_binder).plain rfl) (hl .long_binder) hr (by rfl) (ja_cons (j_bin (j_bin (j_bfun bi_len (by rfl) (ab.z_len) PySem.boot_len (ja_cons (j_var 0) ja_nil)) j_int) (j_var 1)) (ja_cons (j_var 2) ja_nil))))) ja_nil)))
    jss_nil)
theorem w_long_binder (fa : Addr) (A : Around) (outer : List PySem.Env) (s : Shared) (H : Hp) (hr : Room k (cxN lib P w K mg base .long_binder fa (cv .long_binder) A outer s H).A) : JSs Tb (cxN lib P w K mg base .long_binder fa (cv .long_binder) A outer s H) Φ (defBody (stF .long_binder)) b_long_binder :=
  have g : Gd (cxN lib P w K mg base .long_binder fa (cv .long_binder) A outer s H) := ⟨rfl, (sc_long_binder).nd, Nat.lt_of_le_of_lt (by omega) hr.un⟩
  (jss_cons (js_ret (j_tup (ja_cons (j_bfun bi_len (by rfl) (ab.z_len) PySem.boot_len (ja_cons (j_ix g (j_var 1) j_int) ja_nil)) (ja_cons (j_tup (ja_cons (j_str (by decide +kernel) (by decide +kernel)) (ja_cons (j_bin (j_var 0) (j_bfun bi_len (by rfl) (ab.z_len) PySem.boot_len (ja_cons (j_ix g (j_var 1) j_int) ja_nil))) ja_nil))) (ja_cons (j_call ((kn .own_binders).plain rfl) (hl .own_binders) hr (by rfl) (ja_cons (j_ix g (j_var 1) j_int) ja_nil)) ja_nil)))))
    jss_nil)
theorem w_changed__closed_over (G : NF) (us : List T) (hG : lib.IsG .closed_over_change G) (fa : Addr) (A : Around) (outer : List PySem.Env) (s : Shared) (H : Hp) (hr : Room k (cxN lib P w K mg base .changed__closed_over fa (cv .changed__closed_over) A outer s H).A) (clo : Clo (cxN lib P w K mg base .changed__closed_over fa (cv .changed__closed_over) A outer s H) (lib.fr .closed_over_change) G us) : JSs Tb (cxN lib P w K mg base .changed__closed_over fa (cv .changed__closed_over) A outer s H) Φ (defBody (stF .changed__closed_over)) (b_changed__closed_over G us) :=
  have g : Gd (cxN lib P w K mg base .changed__closed_over fa (cv .changed__closed_over) A outer s H) := ⟨rfl, (sc_changed__closed_over).nd, Nat.lt_of_le_of_lt (by omega) hr.un⟩
  (jss_cons (js_set 2 g (j_lst ja_nil))
    (jss_cons (js_set 3 g (j_lst (ja_cons (j_tup (ja_cons (j_var 0) (ja_cons j_int (ja_cons j_bl ja_nil)))) ja_nil)))
    (jss_cons (js_whl PassesOwn.never (jt_var (j_var 3)) (jss_cons (js_unp g (j_me0 PySem.F.plainAttrs_list PySem.F.slot_list_pop PySem.F.type_list_pop me_pop (ty_lst (by decide)) (j_var 3)) (jgs_cons (jg_nm 5 g) (jgs_cons (jg_nm 6 g) (jgs_cons (jg_nm 7 g) jgs_nil))))
    (jss_cons (js_set 4 g (j_bin (j_var 6) (j_ix g (j_var 5) j_int)))
    (jss_cons (js_ite (jt_var (j_var 7)) (jss_cons (js_set 8 g (j_bin (j_bfun bi_len (by rfl) (ab.z_len) PySem.boot_len (ja_cons (j_var 2) ja_nil)) (j_bfun bi_len (by rfl) (ab.z_len) PySem.boot_len (ja_cons (j_ix g (j_var 5) j_int) ja_nil))))
    (jss_cons (js_set 9 g (j_btyp bi_tuple (by rfl) (ab.z_tuple) PyProof.Rows.boot_tuple (ja_cons (j_sl (j_var 2) (jo_some (j_var 8)) jo_none) ja_nil)))
    (jss_cons (js_delsl g (j_var 2) (j_var 8))
    (jss_cons (js_ex (j_me PySem.F.plainAttrs_list PySem.F.slot_list_append PySem.F.type_list_append me_append (ty_lst (by decide)) (j_var 2) (ja_cons (j_callK ((kn .closed_over_change).handed rfl hG) (hl .closed_over_change) clo hr (Nat.le_refl _) (ja_cons (j_tup (ja_cons (j_ix g (j_var 5) j_int) (ja_cons (j_ix g (j_var 5) j_int) (ja_cons (j_var 9) ja_nil)))) (ja_cons (j_var 4) ja_nil))) ja_nil)))
    jss_nil)))) (jss_cons (js_ex (j_me PySem.F.plainAttrs_list PySem.F.slot_list_append PySem.F.type_list_append me_append (ty_lst (by decide)) (j_var 3) (ja_cons (j_tup (ja_cons (j_var 5) (ja_cons (j_var 6) (ja_cons j_bl ja_nil)))) ja_nil)))
    (jss_cons (js_ex (j_me PySem.F.plainAttrs_list PySem.F.slot_list_extend PySem.F.type_list_extend me_extend (ty_lst (by decide)) (j_var 3) (ja_cons (j_lc [("part", 10)] g (ji_val (j_rev (j_ix g (j_var 5) j_int))) (by kernel_rfl) (by decide +kernel) (fun s H C cl fp => (jg_nm 10 g.blk)) (fun s H C cl fp => jc_none) (fun s H C cl fp => (j_tup (ja_cons (j_var 10) (ja_cons (j_var 4) (ja_cons j_bl ja_nil)))))) ja_nil)))
    jss_nil)))
    jss_nil))))
    (jss_cons (js_ret (j_ix g (j_var 2) j_int))
    jss_nil))))
theorem w_binder_of (fa : Addr) (A : Around) (outer : List PySem.Env) (s : Shared) (H : Hp) (hr : Room k (cxN lib P w K mg base .binder_of fa (cv .binder_of) A outer s H).A) : JSs Tb (cxN lib P w K mg base .binder_of fa (cv .binder_of) A outer s H) Φ (defBody (stF .binder_of)) b_binder_of :=
  have g : Gd (cxN lib P w K mg base .binder_of fa (cv .binder_of) A outer s H) := ⟨rfl, (sc_binder_of).nd, Nat.lt_of_le_of_lt (by omega) hr.un⟩
  (jss_cons (js_unp g (j_ix g (j_var 1) j_int) (jgs_cons (jg_nm 3 g) (jgs_cons (jg_nm 4 g) jgs_nil)))
    (jss_cons (js_set 2 g (j_ite (jt_cmp g (j_var 3) (j_str (by decide +kernel) (by decide +kernel))) (j_bin (j_var 4) (j_ix g (j_var 1) j_int)) (j_neg j_int)))
    (jss_cons (js_ite (jt_and (jwa_cons (jt_chain g j_int (j_var 2) (j_bfun bi_len (by rfl) (ab.z_len) PySem.boot_len (ja_cons (j_var 0) ja_nil))) (jwa_one (jt_cmp g (j_var 1) (j_call ((kn .long_binder).plain rfl) (hl .long_binder) hr (by rfl) (ja_cons (j_var 2) (ja_cons (j_ix g (j_var 0) (j_bin (j_bin (j_bfun bi_len (by rfl) (ab.z_len) PySem.boot_len (ja_cons (j_var 0) ja_nil)) j_int) (j_var 2))) ja_nil))))))) (jss_cons (js_ret (j_var 2))
    jss_nil) jss_nil)
    (jss_cons (js_ret j_non)
    jss_nil))))
theorem w_binders_of (fa : Addr) (A : Around) (outer : List PySem.Env) (s : Shared) (H : Hp) (hr : Room k (cxN lib P w K mg base .binders_of fa (cv .binders_of) A outer s H).A) : JSs Tb (cxN lib P w K mg base .binders_of fa (cv .binders_of) A outer s H) Φ (defBody (stF .binders_of)) b_binders_of :=
  have g : Gd (cxN lib P w K mg base .binders_of fa (cv .binders_of) A outer s H) := ⟨rfl, (sc_binders_of).nd, Nat.lt_of_le_of_lt (by omega) hr.un⟩
  (jss_cons (js_set 2 g (j_lst ja_nil))
    (jss_cons (js_for g PassesOwn.never (ji_val (j_var 1)) (jg_nm 3 g) (jss_cons (js_set 4 g (j_call ((kn .binder_of).plain rfl) (hl .binder_of) hr (by rfl) (ja_cons (j_var 0) (ja_cons (j_var 3) ja_nil))))
    (jss_cons (js_ite (jt_or (jwo_cons (jt_isN (j_isN (j_var 4)) (j_var 4)) (jwo_one (jt_cmp g (j_var 4) (j_var 2))))) (jss_cons (js_ret j_non)
    jss_nil) jss_nil)
    (jss_cons (js_ex (j_me PySem.F.plainAttrs_list PySem.F.slot_list_append PySem.F.type_list_append me_append (ty_lst (by decide)) (j_var 2) (ja_cons (j_var 4) ja_nil)))
    jss_nil))))
    (jss_cons (js_ret (j_var 2))
    jss_nil)))
theorem w_closed_over_change (cl : List (Str × Addr)) (c : Addr) (fa : Addr) (A : Around) (outer : List PySem.Env) (s : Shared) (H : Hp) (hr : Room k (cxM lib P w K mg base .closed_over_change cl c fa A outer s H).A) : JSs Tb (cxM lib P w K mg base .closed_over_change cl c fa A outer s H) Φ (C8.fnBody (stF .closed_over_change)) b_closed_over_change :=
  have g : Gd (cxM lib P w K mg base .closed_over_change cl c fa A outer s H) := ⟨rfl, (sc_closed_over_change).nd, Nat.lt_of_le_of_lt (by omega) hr.un⟩
  (jss_cons (js_unp g (j_var 0) (jgs_cons (jg_nm 4 g) (jgs_cons (jg_nm 5 g) (jgs_cons (jg_nm 6 g) jgs_nil))))
    (jss_cons (js_ite (jt_and (jwa_cons (jt_cmp g (j_ix g (j_var 5) j_int) (j_str (by decide +kernel) (by decide +kernel))) (jwa_one (jt_cmp g (j_ix g (j_var 5) j_int) (j_var 1))))) (jss_cons (js_set 7 g (j_bin (j_ix g (j_var 5) j_int) (j_var 1)))
    (jss_cons (js_ite (jt_cmp g (j_var 7) (j_var 2)) (jss_cons (js_ex (j_me PySem.F.plainAttrs_list PySem.F.slot_list_append PySem.F.type_list_append me_append (ty_lst (by decide)) (j_var 3) (ja_cons (j_var 7) ja_nil)))
    jss_nil) jss_nil)
    (jss_cons (js_set 5 g (j_tup (ja_cons (j_str (by decide +kernel) (by decide +kernel)) (ja_cons (j_bin (j_me PySem.F.plainAttrs_dict PySem.F.slot_dict_get PySem.F.type_dict_get (me_get2 g.un) (ty_dic (by decide)) (j_var 2) (ja_cons (j_var 7) (ja_cons j_int ja_nil))) (j_var 1)) ja_nil))))
    jss_nil))) jss_nil)
    (jss_cons (js_ret (j_tup (ja_cons (j_var 4) (ja_cons (j_var 5) (ja_cons (j_var 6) ja_nil)))))
    jss_nil)))
theorem w_closed_over (fa : Addr) (A : Around) (outer : List PySem.Env) (s : Shared) (H : Hp) (hr : Room k (cxN lib P w K mg base .closed_over fa (cv .closed_over) A outer s H).A) : JSs Tb (cxN lib P w K mg base .closed_over fa (cv .closed_over) A outer s H) Φ (defBody (stF .closed_over)) (b_closed_over (cloFrom (cxN lib P w K mg base .closed_over fa (cv .closed_over) A outer s H).env.cells (C8.fnScope (stF .closed_over_change)).names [])) :=
  have g : Gd (cxN lib P w K mg base .closed_over fa (cv .closed_over) A outer s H) := ⟨rfl, (sc_closed_over).nd, Nat.lt_of_le_of_lt (by omega) hr.un⟩
  match mk.m_closed_over with
  | ⟨_, _, tb, hcd, hmT, huT⟩ => (jss_cons (js_set 3 g (j_bfun bi_len (by rfl) (ab.z_len) PySem.boot_len (ja_cons (j_var 0) ja_nil)))
    (jss_cons (js_set 4 g (j_dc [("k", 7), ("i", 8)] g (ji_enum (by rfl) ab.z_enumerate (j_var 0)) (by kernel_rfl) (by decide +kernel) (fun s H C cl fp => (jg_tp g.blk (jgs_cons (jg_nm 7 g.blk) (jgs_cons (jg_nm 8 g.blk) jgs_nil)))) (fun s H C cl fp => jc_none) (fun s H C cl fp => (j_var 8)) (fun s H C cl fp => (j_bin (j_bin (j_var 3) j_int) (j_var 7)))))
    (jss_cons (js_set 5 g (j_lst ja_nil))
    (jss_cons (js_ndef (st := stF .closed_over_change) 2 g rfl tb hcd hmT rfl huT (NdefX.ndef_free nd_closed_over_change) rfl rfl rfl (by rfl) (by first | exact Or.inl rfl | exact Or.inr rfl) (by first | exact .inl rfl | exact .inr rfl))
    (jss_cons (js_set 6 g (j_callC ((kn .changed__closed_over).takes rfl) (hl .changed__closed_over) (fun c => ⟨_, c, rfl⟩) (fun _ => rfl) (fun ok => NdefX.Caps.made (fr := ["places", "strange"]) ok (NdefX.ndef_free nd_closed_over_change) (NdefX.ndef_fr nd_closed_over_change) (by rfl)) hr (by rfl) (ja_cons (j_tup (ja_cons j_int (ja_cons (j_ix g (j_var 1) j_int) (ja_cons (j_ix g (j_var 1) j_int) ja_nil)))) (ja_cons (j_var 2) ja_nil))))
    (jss_cons (js_ret (j_ite (jt_var (j_var 5)) j_non (j_tup (ja_cons (j_var 3) (ja_cons (j_ix g (j_var 6) j_int) (ja_cons (j_ix g (j_var 6) j_int) ja_nil))))))
    jss_nil))))))
theorem w_more_of (fa : Addr) (A : Around) (outer : List PySem.Env) (s : Shared) (H : Hp) (hr : Room k (cxN lib P w K mg base .more_of fa (cv .more_of) A outer s H).A) : JSs Tb (cxN lib P w K mg base .more_of fa (cv .more_of) A outer s H) Φ (defBody (stF .more_of)) b_more_of :=
  have g : Gd (cxN lib P w K mg base .more_of fa (cv .more_of) A outer s H) := ⟨rfl, (sc_more_of).nd, Nat.lt_of_le_of_lt (by omega) hr.un⟩
  (jss_cons (js_set 5 g (j_btyp (bi_dict rfl) (by rfl) (ab.z_dict) PyProof.Rows.boot_dict (ja_cons (j_var 0) ja_nil)))
    (jss_cons (js_set 6 g j_dnew)
    (jss_cons (js_setLc 7 [("k", 16), ("kind", 17)] g (ji_enum (by rfl) ab.z_enumerate (j_var 1)) (by kernel_rfl) (by decide +kernel) (fun s H C cl fp => (jg_tp g.blk (jgs_cons (jg_nm 16 g.blk) (jgs_cons (jg_nm 17 g.blk) jgs_nil)))) (fun s H C cl fp => jc_none) (fun s H C cl fp => (j_tup (ja_cons (j_tup ja_nil) (ja_cons (j_var 17) (ja_cons (j_ix g.blk (j_var 3) (j_var 16)) (ja_cons (j_ix g.blk (j_var 4) (j_var 16)) ja_nil)))))))
    (jss_cons (js_whl PassesOwn.never (jt_var (j_var 7)) (jss_cons (js_unp g (j_me0 PySem.F.plainAttrs_list PySem.F.slot_list_pop PySem.F.type_list_pop me_pop (ty_lst (by decide)) (j_var 7)) (jgs_cons (jg_nm 9 g) (jgs_cons (jg_nm 10 g) (jgs_cons (jg_nm 11 g) (jgs_cons (jg_nm 12 g) jgs_nil)))))
    (jss_cons (js_set 8 g (j_bin (j_var 9) (j_ix g (j_var 10) j_int)))
    (jss_cons (js_unp g (j_ix g (j_var 11) j_int) (jgs_cons (jg_nm 13 g) (jgs_cons (jg_nm 14 g) jgs_nil)))
    (jss_cons (js_ite (jt_cmp g (j_var 13) (j_str (by decide +kernel) (by decide +kernel))) (jss_cons (js_set 15 g (j_call ((kn .closed_over).plain rfl) (hl .closed_over) hr (by rfl) (ja_cons (j_call ((kn .binders_of).plain rfl) (hl .binders_of) hr (by rfl) (ja_cons (j_var 8) (ja_cons (j_ix g (j_var 11) j_int) ja_nil))) (ja_cons (j_var 12) ja_nil))))
    (jss_cons (js_ite (jt_or (jwo_cons (jt_isN (j_isN (j_var 15)) (j_var 15)) (jwo_one (jt_cmp g (j_me PySem.F.plainAttrs_dict PySem.F.slot_dict_get PySem.F.type_dict_get (me_get2 g.un) (ty_dic (by decide)) (j_var 6) (ja_cons (j_var 14) (ja_cons (j_var 15) ja_nil))) (j_var 15))))) (jss_cons (js_ret j_non)
    jss_nil) jss_nil)
    (jss_cons (js_sub g (j_var 15) (j_var 6) (j_var 14))
    jss_nil))) (jss_cons (js_ite (jt_cmp g (j_ix g (j_var 11) j_int) (j_ix g (j_var 12) j_int)) (jss_cons (js_ret j_non)
    jss_nil) (jss_cons (js_set 18 g (j_call ((kn .type_of_head).plain rfl) (hl .type_of_head) hr (by rfl) (ja_cons (j_var 5) (ja_cons (j_var 2) (ja_cons (j_var 8) (ja_cons (j_ix g (j_var 11) j_int) ja_nil))))))
    (jss_cons (js_ex (j_me PySem.F.plainAttrs_list PySem.F.slot_list_extend PySem.F.type_list_extend me_extend (ty_lst (by decide)) (j_var 7) (ja_cons (j_lc [("k", 16), ("part", 19)] g (ji_enum (by rfl) ab.z_enumerate (j_ix g (j_var 11) j_int)) (by kernel_rfl) (by decide +kernel) (fun s H C cl fp => (jg_tp g.blk (jgs_cons (jg_nm 16 g.blk) (jgs_cons (jg_nm 19 g.blk) jgs_nil)))) (fun s H C cl fp => jc_none) (fun s H C cl fp => (j_tup (ja_cons (j_var 8) (ja_cons (j_ix g.blk (j_ix g.blk (j_var 18) j_int) (j_var 16)) (ja_cons (j_var 19) (ja_cons (j_ix g.blk (j_ix g.blk (j_var 12) j_int) (j_var 16)) ja_nil))))))) ja_nil)))
    jss_nil)))
    jss_nil))
    jss_nil)))))
    (jss_cons (js_ret (j_btyp bi_tuple (by rfl) (ab.z_tuple) PyProof.Rows.boot_tuple (ja_cons (j_lc [("k", 16)] g (ji_rng1 (by rfl) ab.z_range (j_bfun bi_len (by rfl) (ab.z_len) PySem.boot_len (ja_cons (j_var 2) ja_nil))) (by kernel_rfl) (by decide +kernel) (fun s H C cl fp => (jg_nm 16 g.blk)) (fun s H C cl fp => jc_none) (fun s H C cl fp => (j_ix g.blk (j_var 6) (j_var 16)))) ja_nil)))
    jss_nil)))))
theorem w_law_start (fa : Addr) (A : Around) (outer : List PySem.Env) (s : Shared) (H : Hp) (hr : Room k (cxN lib P w K mg base .law_start fa (cv .law_start) A outer s H).A) : JSs Tb (cxN lib P w K mg base .law_start fa (cv .law_start) A outer s H) Φ (defBody (stF .law_start)) b_law_start :=
  have g : Gd (cxN lib P w K mg base .law_start fa (cv .law_start) A outer s H) := ⟨rfl, (sc_law_start).nd, Nat.lt_of_le_of_lt (by omega) hr.un⟩
  (jss_cons (js_ret (j_lst (ja_cons (j_lc [("cell", 1)] g (ji_val (j_sl (j_var 0) jo_none (jo_some j_int))) (by kernel_rfl) (by decide +kernel) (fun s H C cl fp => (jg_nm 1 g.blk)) (fun s H C cl fp => jc_none) (fun s H C cl fp => (j_btyp bi_int (by rfl) (ab.z_int) PyProof.Rows.boot_int (ja_cons (j_var 1) ja_nil)))) (ja_cons j_int (ja_cons j_int (ja_cons j_int (ja_cons j_int ja_nil)))))))
    jss_nil)
theorem w_law_fill (fa : Addr) (A : Around) (outer : List PySem.Env) (s : Shared) (H : Hp) (hr : Room k (cxN lib P w K mg base .law_fill fa (cv .law_fill) A outer s H).A) : JSs Tb (cxN lib P w K mg base .law_fill fa (cv .law_fill) A outer s H) Φ (defBody (stF .law_fill)) b_law_fill :=
  have g : Gd (cxN lib P w K mg base .law_fill fa (cv .law_fill) A outer s H) := ⟨rfl, (sc_law_fill).nd, Nat.lt_of_le_of_lt (by omega) hr.un⟩
  (jss_cons (js_sub g (j_bin (j_ix g (j_var 0) j_int) j_int) (j_var 0) j_int)
    (jss_cons (js_set 1 g (j_bin (j_bin (j_ix g (j_var 0) j_int) j_int) j_int))
    (jss_cons (js_ite (jt_cmp g (j_ix g (j_var 0) j_int) (j_bfun bi_len (by rfl) (ab.z_len) PySem.boot_len (ja_cons (j_ix g (j_var 0) j_int) ja_nil))) (jss_cons (js_set 1 g (j_bfun (bi_max rfl) (by rfl) (ab.z_max) PyProof.Rows.boot_max (ja_cons (j_ix g (j_ix g (j_var 0) j_int) (j_ix g (j_var 0) j_int)) (ja_cons (j_bin (j_bin j_int j_int) (j_ix g (j_ix g (j_var 0) j_int) (j_ix g (j_var 0) j_int))) ja_nil))))
    (jss_cons (js_sub g (j_bin (j_ix g (j_var 0) j_int) j_int) (j_var 0) j_int)
    (jss_cons (js_ite (jt_cmp g (j_var 1) (j_bin j_int j_int)) (jss_cons (js_ret (j_var 1))
    jss_nil) jss_nil)
    jss_nil))) jss_nil)
    (jss_cons (js_ite (jt_and (jwa_cons (jt_ix (j_ix g (j_var 0) j_int)) (jwa_one (jt_cmp g (j_ix g (j_var 0) j_int) (j_bfun bi_len (by rfl) (ab.z_len) PySem.boot_len (ja_cons (j_ix g (j_var 0) j_int) ja_nil)))))) (jss_cons (js_set 1 g (j_bin (j_var 1) (j_bin (j_btyp bi_int (by rfl) (ab.z_int) PyProof.Rows.boot_int (ja_cons (j_ix g (j_ix g (j_var 0) j_int) (j_neg j_int)) ja_nil)) j_int)))
    jss_nil) jss_nil)
    (jss_cons (js_set 1 g (j_bin (j_btyp bi_int (by rfl) (ab.z_int) PyProof.Rows.boot_int (ja_cons (j_bin (j_bin (j_var 1) j_int) (j_bin (j_ix g (j_var 0) j_int) j_int)) ja_nil)) j_int))
    (jss_cons (js_ret (j_bin (j_bin (j_btyp bi_int (by rfl) (ab.z_int) PyProof.Rows.boot_int (ja_cons (j_bin (j_bin (j_bin (j_var 1) (j_var 1)) (j_bin (j_ix g (j_var 0) j_int) j_int)) j_int) ja_nil)) j_int) j_int))
    jss_nil))))))
theorem w_law_take (fa : Addr) (A : Around) (outer : List PySem.Env) (s : Shared) (H : Hp) (hr : Room k (cxN lib P w K mg base .law_take fa (cv .law_take) A outer s H).A) : JSs Tb (cxN lib P w K mg base .law_take fa (cv .law_take) A outer s H) Φ (defBody (stF .law_take)) b_law_take :=
  have g : Gd (cxN lib P w K mg base .law_take fa (cv .law_take) A outer s H) := ⟨rfl, (sc_law_take).nd, Nat.lt_of_le_of_lt (by omega) hr.un⟩
  (jss_cons (js_ite (jt_cmp g (j_ix g (j_var 0) j_int) (j_var 1)) (jss_cons (js_sub g (j_call ((kn .law_fill).plain rfl) (hl .law_fill) hr (by rfl) (ja_cons (j_var 0) ja_nil)) (j_var 0) j_int)
    jss_nil) jss_nil)
    (jss_cons (js_set 2 g (j_bin (j_btyp bi_int (by rfl) (ab.z_int) PyProof.Rows.boot_int (ja_cons (j_ix g (j_var 0) j_int) ja_nil)) (j_var 1)))
    (jss_cons (js_sub g (j_bin (j_ix g (j_var 0) j_int) (j_var 1)) (j_var 0) j_int)
    (jss_cons (js_ret (j_var 2))
    jss_nil))))
theorem w_law_signature (fa : Addr) (A : Around) (outer : List PySem.Env) (s : Shared) (H : Hp) (hr : Room k (cxN lib P w K mg base .law_signature fa (cv .law_signature) A outer s H).A) : JSs Tb (cxN lib P w K mg base .law_signature fa (cv .law_signature) A outer s H) Φ (defBody (stF .law_signature)) b_law_signature :=
  have g : Gd (cxN lib P w K mg base .law_signature fa (cv .law_signature) A outer s H) := ⟨rfl, (sc_law_signature).nd, Nat.lt_of_le_of_lt (by omega) hr.un⟩
  (jss_cons (js_unp g (j_tup (ja_cons (j_tup (ja_cons (j_tup ja_nil) (ja_cons (j_str (by decide +kernel) (by decide +kernel)) ja_nil))) (ja_cons (j_tup (ja_cons (j_tup ja_nil) (ja_cons (j_str (by decide +kernel) (by decide +kernel)) ja_nil))) ja_nil))) (jgs_cons (jg_nm 5 g) (jgs_cons (jg_nm 6 g) jgs_nil)))
    (jss_cons (js_set 1 g (j_tup (ja_cons (j_tup (ja_cons (j_var 5) ja_nil)) (ja_cons (j_str (by decide +kernel) (by decide +kernel)) ja_nil))))
    (jss_cons (js_set 2 g (j_lst (ja_cons (j_tup (ja_cons (j_str (by decide +kernel) (by decide +kernel)) (ja_cons (j_var 5) ja_nil))) (ja_cons (j_tup (ja_cons (j_str (by decide +kernel) (by decide +kernel)) (ja_cons (j_tup (ja_cons (j_tup (ja_cons (j_var 5) (ja_cons (j_var 5) ja_nil))) (ja_cons (j_str (by decide +kernel) (by decide +kernel)) ja_nil))) ja_nil))) (ja_cons (j_tup (ja_cons (j_str (by decide +kernel) (by decide +kernel)) (ja_cons (j_var 1) ja_nil))) (ja_cons (j_tup (ja_cons (j_str (by decide +kernel) (by decide +kernel)) (ja_cons (j_tup (ja_cons (j_tup (ja_cons (j_var 1) ja_nil)) (ja_cons (j_str (by decide +kernel) (by decide +kernel)) ja_nil))) ja_nil))) (ja_cons (j_tup (ja_cons (j_str (by decide +kernel) (by decide +kernel)) (ja_cons (j_var 6) ja_nil))) (ja_cons (j_tup (ja_cons (j_str (by decide +kernel) (by decide +kernel)) (ja_cons (j_tup (ja_cons (j_tup (ja_cons (j_var 5) (ja_cons (j_var 6) ja_nil))) (ja_cons (j_str (by decide +kernel) (by decide +kernel)) ja_nil))) ja_nil))) (ja_cons (j_tup (ja_cons (j_str (by decide +kernel) (by decide +kernel)) (ja_cons (j_var 5) ja_nil))) ja_nil)))))))))
    (jss_cons (js_set 2 g (j_bin (j_var 2) (j_lst (ja_cons (j_tup (ja_cons (j_str (by decide +kernel) (by decide +kernel)) (ja_cons (j_tup (ja_cons (j_tup (ja_cons (j_tup (ja_cons (j_tup (ja_cons (j_var 5) (ja_cons (j_var 5) ja_nil))) (ja_cons (j_str (by decide +kernel) (by decide +kernel)) ja_nil))) ja_nil)) (ja_cons (j_str (by decide +kernel) (by decide +kernel)) ja_nil))) ja_nil))) (ja_cons (j_tup (ja_cons (j_str (by decide +kernel) (by decide +kernel)) (ja_cons (j_tup (ja_cons (j_tup (ja_cons (j_var 1) (ja_cons (j_var 6) ja_nil))) (ja_cons (j_str (by decide +kernel) (by decide +kernel)) ja_nil))) ja_nil))) ja_nil)))))
    (jss_cons (js_set 3 g (j_me PySem.F.plainAttrs_str PySem.F.slot_str_join PySem.F.type_str_join me_join ty_str (j_str (by decide +kernel) (by decide +kernel)) (ja_cons (j_lc [("j", 7)] g (ji_rng1 (by rfl) ab.z_range (j_call ((kn .law_take).plain rfl) (hl .law_take) hr (by rfl) (ja_cons (j_var 0) (ja_cons j_int ja_nil)))) (by kernel_rfl) (by decide +kernel) (fun s H C cl fp => (jg_nm 7 g.blk)) (fun s H C cl fp => jc_none) (fun s H C cl fp => (j_ix g.blk (j_str (by decide +kernel) (by decide +kernel)) (j_call ((kn .law_take).plain rfl) (hl .law_take) hr (by rfl) (ja_cons (j_var 0) (ja_cons j_int ja_nil)))))) ja_nil)))
    (jss_cons (js_set 4 g (j_bin (j_lst (ja_cons (j_ix g (j_var 2) j_int) (ja_cons (j_ix g (j_var 2) j_int) ja_nil))) (j_lc [("row", 8)] g (ji_val (j_bin (j_sl (j_var 2) (jo_some j_int) (jo_some j_int)) (j_sl (j_var 2) (jo_some j_int) jo_none))) (by kernel_rfl) (by decide +kernel) (fun s H C cl fp => (jg_nm 8 g.blk)) (fun s H C cl fp => (jc_some (jt_cmp g.blk (j_call ((kn .law_take).plain rfl) (hl .law_take) hr (by rfl) (ja_cons (j_var 0) (ja_cons j_int ja_nil))) j_int))) (fun s H C cl fp => (j_var 8)))))
    (jss_cons (js_ret (j_btyp bi_tuple (by rfl) (ab.z_tuple) PyProof.Rows.boot_tuple (ja_cons (j_lc [("name", 9), ("kind", 10)] g (ji_val (j_var 4)) (by kernel_rfl) (by decide +kernel) (fun s H C cl fp => (jg_tp g.blk (jgs_cons (jg_nm 9 g.blk) (jgs_cons (jg_nm 10 g.blk) jgs_nil)))) (fun s H C cl fp => jc_none) (fun s H C cl fp => (j_tup (ja_cons (j_bin (j_var 3) (j_var 9)) (ja_cons (j_var 10) ja_nil))))) ja_nil)))
    jss_nil)))))))
theorem w_law_kind (fa : Addr) (A : Around) (outer : List PySem.Env) (s : Shared) (H : Hp) (hr : Room k (cxN lib P w K mg base .law_kind fa (cv .law_kind) A outer s H).A) : JSs Tb (cxN lib P w K mg base .law_kind fa (cv .law_kind) A outer s H) Φ (defBody (stF .law_kind)) b_law_kind :=
  have g : Gd (cxN lib P w K mg base .law_kind fa (cv .law_kind) A outer s H) := ⟨rfl, (sc_law_kind).nd, Nat.lt_of_le_of_lt (by omega) hr.un⟩
  (jss_cons (js_set 2 g (j_ix g (j_lst (ja_cons (j_str (by decide +kernel) (by decide +kernel)) (ja_cons (j_str (by decide +kernel) (by decide +kernel)) (ja_cons (j_str (by decide +kernel) (by decide +kernel)) ja_nil)))) (j_call ((kn .law_take).plain rfl) (hl .law_take) hr (by rfl) (ja_cons (j_var 0) (ja_cons j_int ja_nil)))))
    (jss_cons (js_ite (jt_cmp g (j_var 1) j_int) (jss_cons (js_ret (j_tup (ja_cons (j_tup ja_nil) (ja_cons (j_var 2) ja_nil))))
    jss_nil) jss_nil)
    (jss_cons (js_set 3 g (j_ix g (j_lst (ja_cons j_int (ja_cons j_int (ja_cons j_int (ja_cons j_int (ja_cons j_int ja_nil)))))) (j_call ((kn .law_take).plain rfl) (hl .law_take) hr (by rfl) (ja_cons (j_var 0) (ja_cons j_int ja_nil)))))
    (jss_cons (js_ret (j_tup (ja_cons (j_btyp bi_tuple (by rfl) (ab.z_tuple) PyProof.Rows.boot_tuple (ja_cons (j_lc [("k", 4)] g (ji_rng1 (by rfl) ab.z_range (j_var 3)) (by kernel_rfl) (by decide +kernel) (fun s H C cl fp => (jg_nm 4 g.blk)) (fun s H C cl fp => jc_none) (fun s H C cl fp => (j_call ((kn .law_kind).plain rfl) (hl .law_kind) hr (by rfl) (ja_cons (j_var 0) (ja_cons (j_ix g.blk (j_lst (ja_cons (j_bin (j_var 1) j_int) (ja_cons j_int ja_nil))) (j_btyp bi_int (by rfl) (ab.z_int) PyProof.Rows.boot_int (ja_cons (j_cmp g.blk (j_call ((kn .law_take).plain rfl) (hl .law_take) hr (by rfl) (ja_cons (j_var 0) (ja_cons j_int ja_nil))) j_int) ja_nil))) ja_nil))))) ja_nil)) (ja_cons (j_var 2) ja_nil))))
    jss_nil))))
theorem w_law_long (fa : Addr) (A : Around) (outer : List PySem.Env) (s : Shared) (H : Hp) (hr : Room k (cxN lib P w K mg base .law_long fa (cv .law_long) A outer s H).A) : JSs Tb (cxN lib P w K mg base .law_long fa (cv .law_long) A outer s H) Φ (defBody (stF .law_long)) b_law_long :=
  have g : Gd (cxN lib P w K mg base .law_long fa (cv .law_long) A outer s H) := ⟨rfl, (sc_law_long).nd, Nat.lt_of_le_of_lt (by omega) hr.un⟩
  (jss_cons (js_set 2 g (j_bfun bi_len (by rfl) (ab.z_len) PySem.boot_len (ja_cons (j_ix g (j_var 1) j_int) ja_nil)))
    (jss_cons (js_ite (jt_cmp g (j_ix g (j_var 0) j_int) (j_str (by decide +kernel) (by decide +kernel))) (jss_cons (js_set 0 g (j_tup (ja_cons (j_str (by decide +kernel) (by decide +kernel)) (ja_cons (j_bin (j_ix g (j_var 0) j_int) (j_var 2)) ja_nil))))
    jss_nil) jss_nil)
    (jss_cons (js_ret (j_tup (ja_cons (j_var 2) (ja_cons (j_var 0) (ja_cons (j_btyp bi_tuple (by rfl) (ab.z_tuple) PyProof.Rows.boot_tuple (ja_cons (j_lc [("j", 3)] g (ji_rng1 (by rfl) ab.z_range (j_var 2)) (by kernel_rfl) (by decide +kernel) (fun s H C cl fp => (jg_nm 3 g.blk)) (fun s H C cl fp => jc_none) (fun s H C cl fp => (j_call ((kn .law_long).plain rfl) (hl .law_long) hr (by rfl) (ja_cons (j_tup (ja_cons (j_str (by decide +kernel) (by decide +kernel)) (ja_cons (j_bin (j_bin (j_var 2) j_int) (j_var 3)) ja_nil))) (ja_cons (j_ix g.blk (j_ix g.blk (j_var 1) j_int) (j_var 3)) ja_nil))))) ja_nil)) ja_nil)))))
    jss_nil)))
theorem w_law_lifted (fa : Addr) (A : Around) (outer : List PySem.Env) (s : Shared) (H : Hp) (hr : Room k (cxN lib P w K mg base .law_lifted fa (cv .law_lifted) A outer s H).A) : JSs Tb (cxN lib P w K mg base .law_lifted fa (cv .law_lifted) A outer s H) Φ (defBody (stF .law_lifted)) b_law_lifted :=
  have g : Gd (cxN lib P w K mg base .law_lifted fa (cv .law_lifted) A outer s H) := ⟨rfl, (sc_law_lifted).nd, Nat.lt_of_le_of_lt (by omega) hr.un⟩
  (jss_cons (js_unp g (j_var 0) (jgs_cons (jg_nm 4 g) (jgs_cons (jg_nm 5 g) (jgs_cons (jg_nm 6 g) jgs_nil))))
    (jss_cons (js_set 3 g (j_bin (j_var 2) (j_var 4)))
    (jss_cons (js_ite (jt_and (jwa_cons (jt_cmp g (j_ix g (j_var 5) j_int) (j_str (by decide +kernel) (by decide +kernel))) (jwa_one (jt_cmp g (j_ix g (j_var 5) j_int) (j_var 3))))) (jss_cons (js_set 5 g (j_tup (ja_cons (j_str (by decide +kernel) (by decide +kernel)) (ja_cons (j_bin (j_ix g (j_var 5) j_int) (j_var 1)) ja_nil))))
    jss_nil) jss_nil)
    (jss_cons (js_ret (j_tup (ja_cons (j_var 4) (ja_cons (j_var 5) (ja_cons (j_btyp bi_tuple (by rfl) (ab.z_tuple) PyProof.Rows.boot_tuple (ja_cons (j_lc [("part", 7)] g (ji_val (j_var 6)) (by kernel_rfl) (by decide +kernel) (fun s H C cl fp => (jg_nm 7 g.blk)) (fun s H C cl fp => jc_none) (fun s H C cl fp => (j_call ((kn .law_lifted).plain rfl) (hl .law_lifted) hr (by rfl) (ja_cons (j_var 7) (ja_cons (j_var 1) (ja_cons (j_var 3) ja_nil)))))) ja_nil)) ja_nil)))))
    jss_nil))))
theorem w_law_body (fa : Addr) (A : Around) (outer : List PySem.Env) (s : Shared) (H : Hp) (hr : Room k (cxN lib P w K mg base .law_body fa (cv .law_body) A outer s H).A) : JSs Tb (cxN lib P w K mg base .law_body fa (cv .law_body) A outer s H) Φ (defBody (stF .law_body)) b_law_body :=
  have g : Gd (cxN lib P w K mg base .law_body fa (cv .law_body) A outer s H) := ⟨rfl, (sc_law_body).nd, Nat.lt_of_le_of_lt (by omega) hr.un⟩
  (jss_cons (js_set 4 g (j_btyp bi_tuple (by rfl) (ab.z_tuple) PyProof.Rows.boot_tuple (ja_cons (j_lc [("part", 7)] g (ji_val (j_var 1)) (by kernel_rfl) (by decide +kernel) (fun s H C cl fp => (jg_nm 7 g.blk)) (fun s H C cl fp => jc_none) (fun s H C cl fp => (j_call ((kn .law_within).plain rfl) (hl .law_within) hr (by rfl) (ja_cons (j_var 7) (ja_cons (j_var 2) (ja_cons (j_var 3) ja_nil)))))) ja_nil)))
    (jss_cons (js_ite (jt_or (jwo_cons (jt_cmp g (j_ix g (j_var 0) j_int) (j_str (by decide +kernel) (by decide +kernel))) (jwo_one (jt_cmp g (j_ix g (j_var 0) j_int) (j_var 3))))) (jss_cons (js_ret (j_lst (ja_cons (j_var 0) (ja_cons (j_var 4) ja_nil))))
    jss_nil) jss_nil)
    (jss_cons (js_set 5 g (j_bin (j_ix g (j_var 0) j_int) (j_var 3)))
    (jss_cons (js_ite (jt_cmp g (j_var 5) (j_bfun bi_len (by rfl) (ab.z_len) PySem.boot_len (ja_cons (j_var 2) ja_nil))) (jss_cons (js_ret (j_lst (ja_cons (j_tup (ja_cons (j_str (by decide +kernel) (by decide +kernel)) (ja_cons (j_bin (j_ix g (j_var 0) j_int) (j_bfun bi_len (by rfl) (ab.z_len) PySem.boot_len (ja_cons (j_var 2) ja_nil))) ja_nil))) (ja_cons (j_var 4) ja_nil))))
    jss_nil) jss_nil)
    (jss_cons (js_set 6 g (j_call ((kn .law_lifted).plain rfl) (hl .law_lifted) hr (by rfl) (ja_cons (j_ix g (j_var 2) (j_bin (j_bin (j_bfun bi_len (by rfl) (ab.z_len) PySem.boot_len (ja_cons (j_var 2) ja_nil)) j_int) (j_var 5))) (ja_cons (j_var 3) (ja_cons j_int ja_nil)))))
    (jss_cons (js_ret (j_call ((kn .law_body).plain rfl) (hl .law_body) hr (by rfl) (ja_cons (j_ix g (j_var 6) j_int) (ja_cons (j_ix g (j_var 6) j_int) (ja_cons (j_var 4) (ja_cons j_int ja_nil))))))
    jss_nil))))))
theorem w_law_within (fa : Addr) (A : Around) (outer : List PySem.Env) (s : Shared) (H : Hp) (hr : Room k (cxN lib P w K mg base .law_within fa (cv .law_within) A outer s H).A) : JSs Tb (cxN lib P w K mg base .law_within fa (cv .law_within) A outer s H) Φ (defBody (stF .law_within)) b_law_within :=
  have g : Gd (cxN lib P w K mg base .law_within fa (cv .law_within) A outer s H) := ⟨rfl, (sc_law_within).nd, Nat.lt_of_le_of_lt (by omega) hr.un⟩
  (jss_cons (js_set 3 g (j_call ((kn .law_body).plain rfl) (hl .law_body) hr (by rfl) (ja_cons (j_ix g (j_var 0) j_int) (ja_cons (j_ix g (j_var 0) j_int) (ja_cons (j_var 1) (ja_cons (j_bin (j_var 2) (j_ix g (j_var 0) j_int)) ja_nil))))))
    (jss_cons (js_ret (j_tup (ja_cons (j_ix g (j_var 0) j_int) (ja_cons (j_ix g (j_var 3) j_int) (ja_cons (j_ix g (j_var 3) j_int) ja_nil)))))
    jss_nil))
theorem w_law_filled (fa : Addr) (A : Around) (outer : List PySem.Env) (s : Shared) (H : Hp) (hr : Room k (cxN lib P w K mg base .law_filled fa (cv .law_filled) A outer s H).A) : JSs Tb (cxN lib P w K mg base .law_filled fa (cv .law_filled) A outer s H) Φ (defBody (stF .law_filled)) b_law_filled :=
  have g : Gd (cxN lib P w K mg base .law_filled fa (cv .law_filled) A outer s H) := ⟨rfl, (sc_law_filled).nd, Nat.lt_of_le_of_lt (by omega) hr.un⟩
  (jss_cons (js_unp g (j_var 1) (jgs_cons (jg_nm 4 g) (jgs_cons (jg_nm 5 g) (jgs_cons (jg_nm 6 g) jgs_nil))))
    (jss_cons (js_set 2 g (j_btyp bi_tuple (by rfl) (ab.z_tuple) PyProof.Rows.boot_tuple (ja_cons (j_lc [("part", 7)] g (ji_val (j_var 6)) (by kernel_rfl) (by decide +kernel) (fun s H C cl fp => (jg_nm 7 g.blk)) (fun s H C cl fp => jc_none) (fun s H C cl fp => (j_call ((kn .law_filled).plain rfl) (hl .law_filled) hr (by rfl) (ja_cons (j_var 0) (ja_cons (j_var 7) ja_nil))))) ja_nil)))
    (jss_cons (js_ite (jt_cmp g (j_ix g (j_var 5) j_int) (j_str (by decide +kernel) (by decide +kernel))) (jss_cons (js_ret (j_tup (ja_cons (j_var 4) (ja_cons (j_var 5) (ja_cons (j_var 2) ja_nil)))))
    jss_nil) jss_nil)
    (jss_cons (js_set 3 g (j_call ((kn .law_body).plain rfl) (hl .law_body) hr (by rfl) (ja_cons (j_ix g (j_ix g (j_var 0) (j_ix g (j_var 5) j_int)) j_int) (ja_cons (j_ix g (j_ix g (j_var 0) (j_ix g (j_var 5) j_int)) j_int) (ja_cons (j_var 2) (ja_cons j_int ja_nil))))))
    (jss_cons (js_ret (j_tup (ja_cons (j_var 4) (ja_cons (j_ix g (j_var 3) j_int) (ja_cons (j_ix g (j_var 3) j_int) ja_nil)))))
    jss_nil)))))
theorem w_law_size (fa : Addr) (A : Around) (outer : List PySem.Env) (s : Shared) (H : Hp) (hr : Room k (cxN lib P w K mg base .law_size fa (cv .law_size) A outer s H).A) : JSs Tb (cxN lib P w K mg base .law_size fa (cv .law_size) A outer s H) Φ (defBody (stF .law_size)) b_law_size :=
  have g : Gd (cxN lib P w K mg base .law_size fa (cv .law_size) A outer s H) := ⟨rfl, (sc_law_size).nd, Nat.lt_of_le_of_lt (by omega) hr.un⟩
  (jss_cons (js_ret (j_bin j_int (j_bfun (bi_sum rfl) (by rfl) (ab.z_sum) PyProof.Rows.boot_sum (ja_cons (j_lc [("part", 1)] g (ji_val (j_ix g (j_var 0) j_int)) (by kernel_rfl) (by decide +kernel) (fun s H C cl fp => (jg_nm 1 g.blk)) (fun s H C cl fp => jc_none) (fun s H C cl fp => (j_call ((kn .law_size).plain rfl) (hl .law_size) hr (by rfl) (ja_cons (j_var 1) ja_nil)))) ja_nil))))
    jss_nil)
theorem w_law_is_int (fa : Addr) (A : Around) (outer : List PySem.Env) (s : Shared) (H : Hp) (hr : Room k (cxN lib P w K mg base .law_is_int fa (cv .law_is_int) A outer s H).A) : JSs Tb (cxN lib P w K mg base .law_is_int fa (cv .law_is_int) A outer s H) Φ (defBody (stF .law_is_int)) b_law_is_int :=
  have g : Gd (cxN lib P w K mg base .law_is_int fa (cv .law_is_int) A outer s H) := ⟨rfl, (sc_law_is_int).nd, Nat.lt_of_le_of_lt (by omega) hr.un⟩
  (jss_cons (js_ret (j_and (jea_cons (j_isi "int" (by rfl) ab.z_isinstance (by rfl) ab.z_int PyProof.Rows.boot_int (by decide) (j_var 0)) (jea_one (j_not (j_isi "bool" (by rfl) ab.z_isinstance (by rfl) ab.z_bool PyProof.Rows.boot_bool (by decide) (j_var 0)))))))
    jss_nil)
theorem w_law_needed (fa : Addr) (A : Around) (outer : List PySem.Env) (s : Shared) (H : Hp) (hr : Room k (cxN lib P w K mg base .law_needed fa (cv .law_needed) A outer s H).A) : JSs Tb (cxN lib P w K mg base .law_needed fa (cv .law_needed) A outer s H) Φ (defBody (stF .law_needed)) b_law_needed :=
  have g : Gd (cxN lib P w K mg base .law_needed fa (cv .law_needed) A outer s H) := ⟨rfl, (sc_law_needed).nd, Nat.lt_of_le_of_lt (by omega) hr.un⟩
  (jss_cons (js_ite (jt_or (jwo_cons (jt_not (jt_isi (j_isi "tuple" (by rfl) ab.z_isinstance (by rfl) ab.z_tuple PyProof.Rows.boot_tuple (by decide) (j_var 3)))) (jwo_one (jt_cmp g (j_bfun bi_len (by rfl) (ab.z_len) PySem.boot_len (ja_cons (j_var 3) ja_nil)) j_int)))) (jss_cons (js_ret j_non)
    jss_nil) jss_nil)
    (jss_cons (js_ite (jt_and (jwa_cons (jt_cmp g (j_ix g (j_var 3) j_int) (j_str (by decide +kernel) (by decide +kernel))) (jwa_one (jt_isi (j_isi "str" (by rfl) ab.z_isinstance (by rfl) ab.z_str PyProof.Rows.boot_str (by decide) (j_ix g (j_var 3) j_int)))))) (jss_cons (js_ret (j_me PySem.F.plainAttrs_dict PySem.F.slot_dict_get PySem.F.type_dict_get (me_get2 g.un) (ty_dic (by decide)) (j_btyp (bi_dict rfl) (by rfl) (ab.z_dict) PyProof.Rows.boot_dict (ja_cons (j_var 0) ja_nil)) (ja_cons (j_ix g (j_var 3) j_int) (ja_cons j_non ja_nil))))
    jss_nil) jss_nil)
    (jss_cons (js_ite (jt_and (jwa_cons (jt_cmp g (j_ix g (j_var 3) j_int) (j_str (by decide +kernel) (by decide +kernel))) (jwa_cons (jt_call (j_call ((kn .law_is_int).plain rfl) (hl .law_is_int) hr (by rfl) (ja_cons (j_ix g (j_var 3) j_int) ja_nil))) (jwa_cons (jt_cmp g (j_ix g (j_var 3) j_int) j_int) (jwa_one (jt_cmp g (j_ix g (j_var 3) j_int) (j_bfun bi_len (by rfl) (ab.z_len) PySem.boot_len (ja_cons (j_var 2) ja_nil)))))))) (jss_cons (js_ret (j_ix g (j_var 2) (j_bin (j_bin (j_bfun bi_len (by rfl) (ab.z_len) PySem.boot_len (ja_cons (j_var 2) ja_nil)) j_int) (j_ix g (j_var 3) j_int))))
    jss_nil) jss_nil)
    (jss_cons (js_ite (jt_and (jwa_cons (jt_cmp g (j_ix g (j_var 3) j_int) (j_str (by decide +kernel) (by decide +kernel))) (jwa_cons (jt_call (j_call ((kn .law_is_int).plain rfl) (hl .law_is_int) hr (by rfl) (ja_cons (j_ix g (j_var 3) j_int) ja_nil))) (jwa_cons (jt_cmp g (j_ix g (j_var 3) j_int) j_int) (jwa_one (jt_cmp g (j_ix g (j_var 3) j_int) (j_bfun bi_len (by rfl) (ab.z_len) PySem.boot_len (ja_cons (j_var 1) ja_nil)))))))) (jss_cons (js_ret (j_ix g (j_var 1) (j_ix g (j_var 3) j_int)))
    jss_nil) jss_nil)
    (jss_cons (js_ret j_non)
    jss_nil)))))
theorem w_law_heads (fa : Addr) (A : Around) (outer : List PySem.Env) (s : Shared) (H : Hp) (hr : Room k (cxN lib P w K mg base .law_heads fa (cv .law_heads) A outer s H).A) : JSs Tb (cxN lib P w K mg base .law_heads fa (cv .law_heads) A outer s H) Φ (defBody (stF .law_heads)) b_law_heads :=
  have g : Gd (cxN lib P w K mg base .law_heads fa (cv .law_heads) A outer s H) := ⟨rfl, (sc_law_heads).nd, Nat.lt_of_le_of_lt (by omega) hr.un⟩
  (jss_cons (js_setLc 4 [("k", 5)] g (ji_rng1 (by rfl) ab.z_range (j_bfun bi_len (by rfl) (ab.z_len) PySem.boot_len (ja_cons (j_var 2) ja_nil))) (by kernel_rfl) (by decide +kernel) (fun s H C cl fp => (jg_nm 5 g.blk)) (fun s H C cl fp => jc_none) (fun s H C cl fp => (j_tup (ja_cons (j_tup (ja_cons (j_str (by decide +kernel) (by decide +kernel)) (ja_cons (j_var 5) ja_nil))) (ja_cons (j_ix g.blk (j_var 2) (j_bin (j_bin (j_bfun bi_len (by rfl) (ab.z_len) PySem.boot_len (ja_cons (j_var 2) ja_nil)) j_int) (j_var 5))) ja_nil)))))
    (jss_cons (js_set 4 g (j_bin (j_var 4) (j_lc [("name", 7), ("kind", 8)] g (ji_val (j_var 0)) (by kernel_rfl) (by decide +kernel) (fun s H C cl fp => (jg_tp g.blk (jgs_cons (jg_nm 7 g.blk) (jgs_cons (jg_nm 8 g.blk) jgs_nil)))) (fun s H C cl fp => jc_none) (fun s H C cl fp => (j_tup (ja_cons (j_tup (ja_cons (j_str (by decide +kernel) (by decide +kernel)) (ja_cons (j_var 7) ja_nil))) (ja_cons (j_var 8) ja_nil)))))))
    (jss_cons (js_set 4 g (j_bin (j_var 4) (j_lc [("k", 5)] g (ji_rng1 (by rfl) ab.z_range (j_bfun bi_len (by rfl) (ab.z_len) PySem.boot_len (ja_cons (j_var 1) ja_nil))) (by kernel_rfl) (by decide +kernel) (fun s H C cl fp => (jg_nm 5 g.blk)) (fun s H C cl fp => jc_none) (fun s H C cl fp => (j_tup (ja_cons (j_tup (ja_cons (j_str (by decide +kernel) (by decide +kernel)) (ja_cons (j_var 5) ja_nil))) (ja_cons (j_ix g.blk (j_var 1) (j_var 5)) ja_nil)))))))
    (jss_cons (js_ret (j_lc [("row", 6)] g (ji_val (j_var 4)) (by kernel_rfl) (by decide +kernel) (fun s H C cl fp => (jg_nm 6 g.blk)) (fun s H C cl fp => (jc_some (jt_cmp g.blk (j_ix g.blk (j_ix g.blk (j_var 6) j_int) j_int) (j_var 3)))) (fun s H C cl fp => (j_var 6))))
    jss_nil))))
theorem w_law_least (fa : Addr) (A : Around) (outer : List PySem.Env) (s : Shared) (H : Hp) (hr : Room k (cxN lib P w K mg base .law_least fa (cv .law_least) A outer s H).A) : JSs Tb (cxN lib P w K mg base .law_least fa (cv .law_least) A outer s H) Φ (defBody (stF .law_least)) b_law_least :=
  have g : Gd (cxN lib P w K mg base .law_least fa (cv .law_least) A outer s H) := ⟨rfl, (sc_law_least).nd, Nat.lt_of_le_of_lt (by omega) hr.un⟩
  (jss_cons (js_for g PassesOwn.never (ji_val (j_var 0)) (jg_tp g (jgs_cons (jg_nm 2 g) (jgs_cons (jg_nm 3 g) jgs_nil))) (jss_cons (js_ite (jt_cmp g (j_var 3) (j_tup (ja_cons (j_tup ja_nil) (ja_cons (j_ix g (j_var 1) j_int) ja_nil)))) (jss_cons (js_ret (j_tup (ja_cons (j_bfun bi_len (by rfl) (ab.z_len) PySem.boot_len (ja_cons (j_ix g (j_var 1) j_int) ja_nil)) (ja_cons (j_tup (ja_cons (j_str (by decide +kernel) (by decide +kernel)) (ja_cons (j_var 2) ja_nil))) (ja_cons (j_tup ja_nil) ja_nil)))))
    jss_nil) jss_nil)
    jss_nil))
    (jss_cons (js_ret j_non)
    jss_nil))
theorem w_law_term (fa : Addr) (A : Around) (outer : List PySem.Env) (s : Shared) (H : Hp) (hr : Room k (cxN lib P w K mg base .law_term fa (cv .law_term) A outer s H).A) : JSs Tb (cxN lib P w K mg base .law_term fa (cv .law_term) A outer s H) Φ (defBody (stF .law_term)) b_law_term :=
  have g : Gd (cxN lib P w K mg base .law_term fa (cv .law_term) A outer s H) := ⟨rfl, (sc_law_term).nd, Nat.lt_of_le_of_lt (by omega) hr.un⟩
  (jss_cons (js_sub g (j_bin (j_ix g (j_var 0) j_int) j_int) (j_var 0) j_int)
    (jss_cons (js_set 6 g (j_bin (j_var 3) (j_ix g (j_var 4) j_int)))
    (jss_cons (js_set 7 g (j_call ((kn .law_heads).plain rfl) (hl .law_heads) hr (by rfl) (ja_cons (j_var 1) (ja_cons (j_var 2) (ja_cons (j_var 6) (ja_cons (j_ix g (j_var 4) j_int) ja_nil))))))
    (jss_cons (js_ite (jt_or (jwo_cons (jt_cmp g (j_var 5) j_int) (jwo_one (jt_cmp g (j_ix g (j_var 0) j_int) j_int)))) (jss_cons (js_setLc 7 [("row", 11)] g (ji_val (j_var 7)) (by kernel_rfl) (by decide +kernel) (fun s H C cl fp => (jg_nm 11 g.blk)) (fun s H C cl fp => (jc_some (jt_cmp g.blk (j_ix g.blk (j_ix g.blk (j_var 11) j_int) j_int) (j_tup ja_nil)))) (fun s H C cl fp => (j_var 11)))
    jss_nil) jss_nil)
    (jss_cons (js_unp g (j_ix g (j_var 7) (j_call ((kn .law_take).plain rfl) (hl .law_take) hr (by rfl) (ja_cons (j_var 0) (ja_cons (j_bfun bi_len (by rfl) (ab.z_len) PySem.boot_len (ja_cons (j_var 7) ja_nil)) ja_nil)))) (jgs_cons (jg_nm 9 g) (jgs_cons (jg_nm 10 g) jgs_nil)))
    (jss_cons (js_set 8 g (j_btyp bi_tuple (by rfl) (ab.z_tuple) PyProof.Rows.boot_tuple (ja_cons (j_lc [("one", 12)] g (ji_val (j_ix g (j_var 10) j_int)) (by kernel_rfl) (by decide +kernel) (fun s H C cl fp => (jg_nm 12 g.blk)) (fun s H C cl fp => jc_none) (fun s H C cl fp => (j_call ((kn .law_term).plain rfl) (hl .law_term) hr (by rfl) (ja_cons (j_var 0) (ja_cons (j_var 1) (ja_cons (j_var 2) (ja_cons (j_var 6) (ja_cons (j_var 12) (ja_cons (j_bin (j_var 5) j_int) ja_nil))))))))) ja_nil)))
    (jss_cons (js_ret (j_tup (ja_cons (j_bfun bi_len (by rfl) (ab.z_len) PySem.boot_len (ja_cons (j_ix g (j_var 4) j_int) ja_nil)) (ja_cons (j_var 9) (ja_cons (j_var 8) ja_nil)))))
    jss_nil)))))))
theorem w_law_number (fa : Addr) (A : Around) (outer : List PySem.Env) (s : Shared) (H : Hp) (hr : Room k (cxN lib P w K mg base .law_number fa (cv .law_number) A outer s H).A) : JSs Tb (cxN lib P w K mg base .law_number fa (cv .law_number) A outer s H) Φ (defBody (stF .law_number)) b_law_number :=
  have g : Gd (cxN lib P w K mg base .law_number fa (cv .law_number) A outer s H) := ⟨rfl, (sc_law_number).nd, Nat.lt_of_le_of_lt (by omega) hr.un⟩
  (jss_cons (js_ret (j_bin (j_ix g (j_ix g (j_var 0) j_int) j_int) (j_ix g (j_var 0) j_int)))
    jss_nil)
theorem w_law_named (fa : Addr) (A : Around) (outer : List PySem.Env) (s : Shared) (H : Hp) (hr : Room k (cxN lib P w K mg base .law_named fa (cv .law_named) A outer s H).A) : JSs Tb (cxN lib P w K mg base .law_named fa (cv .law_named) A outer s H) Φ (defBody (stF .law_named)) b_law_named :=
  have g : Gd (cxN lib P w K mg base .law_named fa (cv .law_named) A outer s H) := ⟨rfl, (sc_law_named).nd, Nat.lt_of_le_of_lt (by omega) hr.un⟩
  (jss_cons (js_ite (jt_and (jwa_cons (jt_cmp g (j_ix g (j_var 0) j_int) (j_str (by decide +kernel) (by decide +kernel))) (jwa_one (jt_cmp g (j_ix g (j_var 0) j_int) (j_var 3))))) (jss_cons (js_ite (jt_cmp g (j_bin (j_ix g (j_var 0) j_int) (j_var 3)) (j_var 2)) (jss_cons (js_ret j_non)
    jss_nil) jss_nil)
    (jss_cons (js_set 0 g (j_tup (ja_cons (j_str (by decide +kernel) (by decide +kernel)) (ja_cons (j_bin (j_bin (j_bin (j_var 3) (j_bfun bi_len (by rfl) (ab.z_len) PySem.boot_len (ja_cons (j_var 2) ja_nil))) j_int) (j_me PySem.F.plainAttrs_list PySem.F.slot_list_index PySem.F.type_list_index me_index (ty_lst (by decide)) (j_var 2) (ja_cons (j_bin (j_ix g (j_var 0) j_int) (j_var 3)) ja_nil))) ja_nil))))
    jss_nil)) jss_nil)
    (jss_cons (js_set 4 g (j_lst ja_nil))
    (jss_cons (js_for g PassesOwn.never (ji_val (j_var 1)) (jg_nm 5 g) (jss_cons (js_set 6 g (j_call ((kn .law_named).plain rfl) (hl .law_named) hr (by rfl) (ja_cons (j_ix g (j_var 5) j_int) (ja_cons (j_ix g (j_var 5) j_int) (ja_cons (j_var 2) (ja_cons (j_bin (j_var 3) (j_ix g (j_var 5) j_int)) ja_nil))))))
    (jss_cons (js_ite (jt_isN (j_isN (j_var 6)) (j_var 6)) (jss_cons (js_ret j_non)
    jss_nil) jss_nil)
    (jss_cons (js_ex (j_me PySem.F.plainAttrs_list PySem.F.slot_list_append PySem.F.type_list_append me_append (ty_lst (by decide)) (j_var 4) (ja_cons (j_tup (ja_cons (j_ix g (j_var 5) j_int) (ja_cons (j_ix g (j_var 6) j_int) (ja_cons (j_ix g (j_var 6) j_int) ja_nil)))) ja_nil)))
    jss_nil))))
    (jss_cons (js_ret (j_lst (ja_cons (j_var 0) (ja_cons (j_btyp bi_tuple (by rfl) (ab.z_tuple) PyProof.Rows.boot_tuple (ja_cons (j_var 4) ja_nil)) ja_nil))))
    jss_nil))))
theorem w_law_read (fa : Addr) (A : Around) (outer : List PySem.Env) (s : Shared) (H : Hp) (hr : Room k (cxN lib P w K mg base .law_read fa (cv .law_read) A outer s H).A) : JSs Tb (cxN lib P w K mg base .law_read fa (cv .law_read) A outer s H) Φ (defBody (stF .law_read)) b_law_read :=
  have g : Gd (cxN lib P w K mg base .law_read fa (cv .law_read) A outer s H) := ⟨rfl, (sc_law_read).nd, Nat.lt_of_le_of_lt (by omega) hr.un⟩
  (jss_cons (js_ite (jt_cmp g (j_ix g (j_ix g (j_var 0) j_int) j_int) (j_str (by decide +kernel) (by decide +kernel))) (jss_cons (js_setLc 3 [("part", 6)] g (ji_val (j_ix g (j_var 0) j_int)) (by kernel_rfl) (by decide +kernel) (fun s H C cl fp => (jg_nm 6 g.blk)) (fun s H C cl fp => jc_none) (fun s H C cl fp => (j_call ((kn .law_number).plain rfl) (hl .law_number) hr (by rfl) (ja_cons (j_var 6) ja_nil))))
    (jss_cons (js_set 4 g (j_call ((kn .law_named).plain rfl) (hl .law_named) hr (by rfl) (ja_cons (j_ix g (j_var 1) j_int) (ja_cons (j_ix g (j_var 1) j_int) (ja_cons (j_var 3) (ja_cons j_int ja_nil))))))
    (jss_cons (js_ite (jt_isN (j_isN (j_var 4)) (j_var 4)) (jss_cons (js_ret j_bl)
    jss_nil) jss_nil)
    (jss_cons (js_set 5 g (j_tup (ja_cons (j_bfun bi_len (by rfl) (ab.z_len) PySem.boot_len (ja_cons (j_var 3) ja_nil)) (ja_cons (j_ix g (j_var 4) j_int) (ja_cons (j_ix g (j_var 4) j_int) ja_nil)))))
    (jss_cons (js_ret (j_cmp g (j_me PySem.F.plainAttrs_dict PySem.F.slot_dict_setdefault PySem.F.type_dict_setdefault me_setd (ty_dic (by decide)) (j_var 2) (ja_cons (j_ix g (j_ix g (j_var 0) j_int) j_int) (ja_cons (j_var 5) ja_nil))) (j_var 5)))
    jss_nil))))) jss_nil)
    (jss_cons (js_ite (jt_or (jwo_cons (jt_cmp g (j_ix g (j_var 0) j_int) (j_ix g (j_var 1) j_int)) (jwo_cons (jt_cmp g (j_ix g (j_var 0) j_int) (j_ix g (j_var 1) j_int)) (jwo_one (jt_cmp g (j_bfun bi_len (by rfl) (ab.z_len) PySem.boot_len (ja_cons (j_ix g (j_var 0) j_int) ja_nil)) (j_bfun bi_len (by rfl) (ab.z_len) PySem.boot_len (ja_cons (j_ix g (j_var 1) j_int) ja_nil))))))) (jss_cons (js_ret j_bl)
    jss_nil) jss_nil)
    (jss_cons (js_ret (j_bfun (bi_all rfl) (by rfl) (ab.z_all) PyProof.Rows.boot_all (ja_cons (j_lc [("j", 7)] g (ji_rng1 (by rfl) ab.z_range (j_bfun bi_len (by rfl) (ab.z_len) PySem.boot_len (ja_cons (j_ix g (j_var 0) j_int) ja_nil))) (by kernel_rfl) (by decide +kernel) (fun s H C cl fp => (jg_nm 7 g.blk)) (fun s H C cl fp => jc_none) (fun s H C cl fp => (j_call ((kn .law_read).plain rfl) (hl .law_read) hr (by rfl) (ja_cons (j_ix g.blk (j_ix g.blk (j_var 0) j_int) (j_var 7)) (ja_cons (j_ix g.blk (j_ix g.blk (j_var 1) j_int) (j_var 7)) (ja_cons (j_var 2) ja_nil)))))) ja_nil)))
    jss_nil)))
theorem w_law_more (fa : Addr) (A : Around) (outer : List PySem.Env) (s : Shared) (H : Hp) (hr : Room k (cxN lib P w K mg base .law_more fa (cv .law_more) A outer s H).A) : JSs Tb (cxN lib P w K mg base .law_more fa (cv .law_more) A outer s H) Φ (defBody (stF .law_more)) b_law_more :=
  have g : Gd (cxN lib P w K mg base .law_more fa (cv .law_more) A outer s H) := ⟨rfl, (sc_law_more).nd, Nat.lt_of_le_of_lt (by omega) hr.un⟩
  (jss_cons (js_set 3 g j_dnew)
    (jss_cons (js_for g PassesOwn.never (ji_rng1 (by rfl) ab.z_range (j_bfun bi_len (by rfl) (ab.z_len) PySem.boot_len (ja_cons (j_var 0) ja_nil))) (jg_nm 4 g) (jss_cons (js_ite (jt_not (jt_call (j_call ((kn .law_read).plain rfl) (hl .law_read) hr (by rfl) (ja_cons (j_ix g (j_var 0) (j_var 4)) (ja_cons (j_ix g (j_var 1) (j_var 4)) (ja_cons (j_var 3) ja_nil)))))) (jss_cons (js_ret j_non)
    jss_nil) jss_nil)
    jss_nil))
    (jss_cons (js_ret (j_btyp bi_tuple (by rfl) (ab.z_tuple) PyProof.Rows.boot_tuple (ja_cons (j_lc [("k", 4)] g (ji_rng1 (by rfl) ab.z_range (j_var 2)) (by kernel_rfl) (by decide +kernel) (fun s H C cl fp => (jg_nm 4 g.blk)) (fun s H C cl fp => jc_none) (fun s H C cl fp => (j_me PySem.F.plainAttrs_dict PySem.F.slot_dict_get PySem.F.type_dict_get (me_get2 g.un) (ty_dic (by decide)) (j_var 3) (ja_cons (j_var 4) (ja_cons j_non ja_nil))))) ja_nil)))
    jss_nil)))
theorem w_law_choice (fa : Addr) (A : Around) (outer : List PySem.Env) (s : Shared) (H : Hp) (hr : Room k (cxN lib P w K mg base .law_choice fa (cv .law_choice) A outer s H).A) : JSs Tb (cxN lib P w K mg base .law_choice fa (cv .law_choice) A outer s H) Φ (defBody (stF .law_choice)) b_law_choice :=
  have g : Gd (cxN lib P w K mg base .law_choice fa (cv .law_choice) A outer s H) := ⟨rfl, (sc_law_choice).nd, Nat.lt_of_le_of_lt (by omega) hr.un⟩
  (jss_cons (js_set 3 g (j_lst ja_nil))
    (jss_cons (js_for g PassesOwn.never (ji_val (j_var 2)) (jg_nm 4 g) (jss_cons (js_setLc 5 [("k", 6)] g (ji_rng1 (by rfl) ab.z_range (j_bfun bi_len (by rfl) (ab.z_len) PySem.boot_len (ja_cons (j_var 1) ja_nil))) (by kernel_rfl) (by decide +kernel) (fun s H C cl fp => (jg_nm 6 g.blk)) (fun s H C cl fp => (jc_some (jt_and (jwa_cons (jt_cmp g.blk (j_ix g.blk (j_var 1) (j_bin (j_bin (j_bfun bi_len (by rfl) (ab.z_len) PySem.boot_len (ja_cons (j_var 1) ja_nil)) j_int) (j_var 6))) (j_var 4)) (jwa_one (jt_cmp g.blk (j_var 6) (j_var 3))))))) (fun s H C cl fp => (j_var 6)))
    (jss_cons (js_ite (jt_not (jt_var (j_var 5))) (jss_cons (js_ret j_non)
    jss_nil) jss_nil)
    (jss_cons (js_ex (j_me PySem.F.plainAttrs_list PySem.F.slot_list_append PySem.F.type_list_append me_append (ty_lst (by decide)) (j_var 3) (ja_cons (j_ix g (j_var 5) (j_call ((kn .law_take).plain rfl) (hl .law_take) hr (by rfl) (ja_cons (j_var 0) (ja_cons (j_bfun bi_len (by rfl) (ab.z_len) PySem.boot_len (ja_cons (j_var 5) ja_nil)) ja_nil)))) ja_nil)))
    jss_nil))))
    (jss_cons (js_ret (j_var 3))
    jss_nil)))
theorem w_law_drawn (fa : Addr) (A : Around) (outer : List PySem.Env) (s : Shared) (H : Hp) (hr : Room k (cxN lib P w K mg base .law_drawn fa (cv .law_drawn) A outer s H).A) : JSs Tb (cxN lib P w K mg base .law_drawn fa (cv .law_drawn) A outer s H) Φ (defBody (stF .law_drawn)) b_law_drawn :=
  have g : Gd (cxN lib P w K mg base .law_drawn fa (cv .law_drawn) A outer s H) := ⟨rfl, (sc_law_drawn).nd, Nat.lt_of_le_of_lt (by omega) hr.un⟩
  (jss_cons (js_sub g (j_bin (j_ix g (j_var 0) j_int) j_int) (j_var 0) j_int)
    (jss_cons (js_set 6 g (j_bin (j_var 3) (j_ix g (j_var 4) j_int)))
    (jss_cons (js_set 7 g (j_call ((kn .law_heads).plain rfl) (hl .law_heads) hr (by rfl) (ja_cons (j_var 1) (ja_cons (j_var 2) (ja_cons (j_var 6) (ja_cons (j_ix g (j_var 4) j_int) ja_nil))))))
    (jss_cons (js_ite (jt_or (jwo_cons (jt_cmp g (j_var 5) j_int) (jwo_one (jt_cmp g (j_ix g (j_var 0) j_int) j_int)))) (jss_cons (js_setLc 7 [("row", 12)] g (ji_val (j_var 7)) (by kernel_rfl) (by decide +kernel) (fun s H C cl fp => (jg_nm 12 g.blk)) (fun s H C cl fp => (jc_some (jt_or (jwo_cons (jt_cmp g.blk (j_ix g.blk (j_ix g.blk (j_var 12) j_int) j_int) (j_tup ja_nil)) (jwo_one (jt_cmp g.blk (j_ix g.blk (j_ix g.blk (j_var 12) j_int) j_int) (j_str (by decide +kernel) (by decide +kernel)))))))) (fun s H C cl fp => (j_var 12)))
    jss_nil) jss_nil)
    (jss_cons (js_unp g (j_ix g (j_var 7) (j_call ((kn .law_take).plain rfl) (hl .law_take) hr (by rfl) (ja_cons (j_var 0) (ja_cons (j_bfun bi_len (by rfl) (ab.z_len) PySem.boot_len (ja_cons (j_var 7) ja_nil)) ja_nil)))) (jgs_cons (jg_nm 9 g) (jgs_cons (jg_nm 10 g) jgs_nil)))
    (jss_cons (js_ite (jt_cmp g (j_ix g (j_var 9) j_int) (j_str (by decide +kernel) (by decide +kernel))) (jss_cons (js_set 11 g (j_call ((kn .law_choice).plain rfl) (hl .law_choice) hr (by rfl) (ja_cons (j_var 0) (ja_cons (j_var 6) (ja_cons (j_ix g (j_var 10) j_int) ja_nil)))))
    (jss_cons (js_ite (jt_isN (j_isN (j_var 11)) (j_var 11)) (jss_cons (js_ret (j_call ((kn .law_least).plain rfl) (hl .law_least) hr (by rfl) (ja_cons (j_var 1) (ja_cons (j_var 4) ja_nil))))
    jss_nil) jss_nil)
    (jss_cons (js_ret (j_tup (ja_cons (j_bfun bi_len (by rfl) (ab.z_len) PySem.boot_len (ja_cons (j_ix g (j_var 4) j_int) ja_nil)) (ja_cons (j_var 9) (ja_cons (j_btyp bi_tuple (by rfl) (ab.z_tuple) PyProof.Rows.boot_tuple (ja_cons (j_lc [("j", 14)] g (ji_rng1 (by rfl) ab.z_range (j_bfun bi_len (by rfl) (ab.z_len) PySem.boot_len (ja_cons (j_var 11) ja_nil))) (by kernel_rfl) (by decide +kernel) (fun s H C cl fp => (jg_nm 14 g.blk)) (fun s H C cl fp => jc_none) (fun s H C cl fp => (j_call ((kn .law_long).plain rfl) (hl .law_long) hr (by rfl) (ja_cons (j_tup (ja_cons (j_str (by decide +kernel) (by decide +kernel)) (ja_cons (j_ix g.blk (j_var 11) (j_var 14)) ja_nil))) (ja_cons (j_ix g.blk (j_ix g.blk (j_var 10) j_int) (j_var 14)) ja_nil))))) ja_nil)) ja_nil)))))
    jss_nil))) jss_nil)
    (jss_cons (js_set 8 g (j_btyp bi_tuple (by rfl) (ab.z_tuple) PyProof.Rows.boot_tuple (ja_cons (j_lc [("one", 13)] g (ji_val (j_ix g (j_var 10) j_int)) (by kernel_rfl) (by decide +kernel) (fun s H C cl fp => (jg_nm 13 g.blk)) (fun s H C cl fp => jc_none) (fun s H C cl fp => (j_call ((kn .law_drawn).plain rfl) (hl .law_drawn) hr (by rfl) (ja_cons (j_var 0) (ja_cons (j_var 1) (ja_cons (j_var 2) (ja_cons (j_var 6) (ja_cons (j_var 13) (ja_cons (j_bin (j_var 5) j_int) ja_nil))))))))) ja_nil)))
    (jss_cons (js_ret (j_tup (ja_cons (j_bfun bi_len (by rfl) (ab.z_len) PySem.boot_len (ja_cons (j_ix g (j_var 4) j_int) ja_nil)) (ja_cons (j_var 9) (ja_cons (j_var 8) ja_nil)))))
    jss_nil))))))))
theorem w_law_met (fa : Addr) (A : Around) (outer : List PySem.Env) (s : Shared) (H : Hp) (hr : Room k (cxN lib P w K mg base .law_met fa (cv .law_met) A outer s H).A) : JSs Tb (cxN lib P w K mg base .law_met fa (cv .law_met) A outer s H) Φ (defBody (stF .law_met)) b_law_met :=
  have g : Gd (cxN lib P w K mg base .law_met fa (cv .law_met) A outer s H) := ⟨rfl, (sc_law_met).nd, Nat.lt_of_le_of_lt (by omega) hr.un⟩
  (jss_cons (js_ite (jt_cmp g (j_ix g (j_ix g (j_var 0) j_int) j_int) (j_str (by decide +kernel) (by decide +kernel))) (jss_cons (js_ex (j_me PySem.F.plainAttrs_list PySem.F.slot_list_append PySem.F.type_list_append me_append (ty_lst (by decide)) (j_var 1) (ja_cons (j_var 0) ja_nil)))
    jss_nil) jss_nil)
    (jss_cons (js_for g PassesOwn.never (ji_val (j_ix g (j_var 0) j_int)) (jg_nm 2 g) (jss_cons (js_ex (j_call ((kn .law_met).plain rfl) (hl .law_met) hr (by rfl) (ja_cons (j_var 2) (ja_cons (j_var 1) ja_nil))))
    jss_nil))
    (jss_cons (js_ret (j_var 1))
    jss_nil)))
theorem w_law_ordered (fa : Addr) (A : Around) (outer : List PySem.Env) (s : Shared) (H : Hp) (hr : Room k (cxN lib P w K mg base .law_ordered fa (cv .law_ordered) A outer s H).A) : JSs Tb (cxN lib P w K mg base .law_ordered fa (cv .law_ordered) A outer s H) Φ (defBody (stF .law_ordered)) b_law_ordered :=
  have g : Gd (cxN lib P w K mg base .law_ordered fa (cv .law_ordered) A outer s H) := ⟨rfl, (sc_law_ordered).nd, Nat.lt_of_le_of_lt (by omega) hr.un⟩
  (jss_cons (js_ite (jt_cmp g (j_ix g (j_ix g (j_var 0) j_int) j_int) (j_str (by decide +kernel) (by decide +kernel))) (jss_cons (js_unp g (j_ix g (j_var 1) (j_ix g (j_ix g (j_var 0) j_int) j_int)) (jgs_cons (jg_nm 2 g) (jgs_cons (jg_nm 3 g) jgs_nil)))
    (jss_cons (js_ret (j_tup (ja_cons (j_ix g (j_var 0) j_int) (ja_cons (j_tup (ja_cons (j_str (by decide +kernel) (by decide +kernel)) (ja_cons (j_var 2) ja_nil))) (ja_cons (j_btyp bi_tuple (by rfl) (ab.z_tuple) PyProof.Rows.boot_tuple (ja_cons (j_lc [("j", 5)] g (ji_val (j_var 3)) (by kernel_rfl) (by decide +kernel) (fun s H C cl fp => (jg_nm 5 g.blk)) (fun s H C cl fp => jc_none) (fun s H C cl fp => (j_call ((kn .law_ordered).plain rfl) (hl .law_ordered) hr (by rfl) (ja_cons (j_ix g.blk (j_ix g.blk (j_var 0) j_int) (j_var 5)) (ja_cons (j_var 1) ja_nil))))) ja_nil)) ja_nil)))))
    jss_nil)) jss_nil)
    (jss_cons (js_ret (j_tup (ja_cons (j_ix g (j_var 0) j_int) (ja_cons (j_ix g (j_var 0) j_int) (ja_cons (j_btyp bi_tuple (by rfl) (ab.z_tuple) PyProof.Rows.boot_tuple (ja_cons (j_lc [("part", 4)] g (ji_val (j_ix g (j_var 0) j_int)) (by kernel_rfl) (by decide +kernel) (fun s H C cl fp => (jg_nm 4 g.blk)) (fun s H C cl fp => jc_none) (fun s H C cl fp => (j_call ((kn .law_ordered).plain rfl) (hl .law_ordered) hr (by rfl) (ja_cons (j_var 4) (ja_cons (j_var 1) ja_nil))))) ja_nil)) ja_nil)))))
    jss_nil))
theorem w_law_rows_of (fa : Addr) (A : Around) (outer : List PySem.Env) (s : Shared) (H : Hp) (hr : Room k (cxN lib P w K mg base .law_rows_of fa (cv .law_rows_of) A outer s H).A) : JSs Tb (cxN lib P w K mg base .law_rows_of fa (cv .law_rows_of) A outer s H) Φ (defBody (stF .law_rows_of)) b_law_rows_of :=
  have g : Gd (cxN lib P w K mg base .law_rows_of fa (cv .law_rows_of) A outer s H) := ⟨rfl, (sc_law_rows_of).nd, Nat.lt_of_le_of_lt (by omega) hr.un⟩
  (jss_cons (js_set 2 g j_dnew)
    (jss_cons (js_set 3 g (j_lst ja_nil))
    (jss_cons (js_for g PassesOwn.never (ji_val (j_var 1)) (jg_nm 4 g) (jss_cons (js_for g PassesOwn.never (ji_val (j_call ((kn .law_met).plain rfl) (hl .law_met) hr (by rfl) (ja_cons (j_var 4) (ja_cons (j_lst ja_nil) ja_nil)))) (jg_nm 5 g) (jss_cons (js_set 6 g (j_ix g (j_ix g (j_var 5) j_int) j_int))
    (jss_cons (js_ite (jt_cmp g (j_var 6) (j_var 2)) (jss_cons (js_set 7 g (j_bfun bi_sorted (by rfl) (ab.z_sorted) PyProof.Rows.boot_sorted (ja_cons (j_lc [("j", 10)] g (ji_rng1 (by rfl) ab.z_range (j_bfun bi_len (by rfl) (ab.z_len) PySem.boot_len (ja_cons (j_ix g (j_var 5) j_int) ja_nil))) (by kernel_rfl) (by decide +kernel) (fun s H C cl fp => (jg_nm 10 g.blk)) (fun s H C cl fp => jc_none) (fun s H C cl fp => (j_tup (ja_cons (j_bin j_int (j_call ((kn .law_number).plain rfl) (hl .law_number) hr (by rfl) (ja_cons (j_ix g.blk (j_ix g.blk (j_var 5) j_int) (j_var 10)) ja_nil))) (ja_cons (j_var 10) ja_nil))))) ja_nil)))
    (jss_cons (js_setLc 8 [("row", 9)] g (ji_val (j_var 7)) (by kernel_rfl) (by decide +kernel) (fun s H C cl fp => (jg_nm 9 g.blk)) (fun s H C cl fp => jc_none) (fun s H C cl fp => (j_ix g.blk (j_var 9) j_int)))
    (jss_cons (js_sub g (j_lst (ja_cons (j_bfun bi_len (by rfl) (ab.z_len) PySem.boot_len (ja_cons (j_var 2) ja_nil)) (ja_cons (j_var 8) ja_nil))) (j_var 2) (j_var 6))
    (jss_cons (js_ex (j_me PySem.F.plainAttrs_list PySem.F.slot_list_append PySem.F.type_list_append me_append (ty_lst (by decide)) (j_var 3) (ja_cons (j_tup (ja_cons (j_btyp bi_tuple (by rfl) (ab.z_tuple) PyProof.Rows.boot_tuple (ja_cons (j_lc [("j", 10)] g (ji_val (j_var 8)) (by kernel_rfl) (by decide +kernel) (fun s H C cl fp => (jg_nm 10 g.blk)) (fun s H C cl fp => jc_none) (fun s H C cl fp => (j_ix g.blk (j_ix g.blk (j_ix g.blk (j_var 0) (j_var 6)) j_int) (j_var 10)))) ja_nil)) (ja_cons (j_ix g (j_ix g (j_var 0) (j_var 6)) j_int) ja_nil))) ja_nil)))
    jss_nil)))) jss_nil)
    jss_nil)))
    jss_nil))
    (jss_cons (js_ret (j_lst (ja_cons (j_var 2) (ja_cons (j_btyp bi_tuple (by rfl) (ab.z_tuple) PyProof.Rows.boot_tuple (ja_cons (j_var 3) ja_nil)) ja_nil))))
    jss_nil))))
theorem w_law_tidied (fa : Addr) (A : Around) (outer : List PySem.Env) (s : Shared) (H : Hp) (hr : Room k (cxN lib P w K mg base .law_tidied fa (cv .law_tidied) A outer s H).A) : JSs Tb (cxN lib P w K mg base .law_tidied fa (cv .law_tidied) A outer s H) Φ (defBody (stF .law_tidied)) b_law_tidied :=
  have g : Gd (cxN lib P w K mg base .law_tidied fa (cv .law_tidied) A outer s H) := ⟨rfl, (sc_law_tidied).nd, Nat.lt_of_le_of_lt (by omega) hr.un⟩
  (jss_cons (js_unp g (j_call ((kn .law_rows_of).plain rfl) (hl .law_rows_of) hr (by rfl) (ja_cons (j_var 0) (ja_cons (j_var 1) ja_nil))) (jgs_cons (jg_nm 2 g) (jgs_cons (jg_nm 3 g) jgs_nil)))
    (jss_cons (js_ret (j_tup (ja_cons (j_var 3) (ja_cons (j_btyp bi_tuple (by rfl) (ab.z_tuple) PyProof.Rows.boot_tuple (ja_cons (j_lc [("value", 4)] g (ji_val (j_var 1)) (by kernel_rfl) (by decide +kernel) (fun s H C cl fp => (jg_nm 4 g.blk)) (fun s H C cl fp => jc_none) (fun s H C cl fp => (j_call ((kn .law_ordered).plain rfl) (hl .law_ordered) hr (by rfl) (ja_cons (j_var 4) (ja_cons (j_var 2) ja_nil))))) ja_nil)) ja_nil))))
    jss_nil))
theorem w_law_other (fa : Addr) (A : Around) (outer : List PySem.Env) (s : Shared) (H : Hp) (hr : Room k (cxN lib P w K mg base .law_other fa (cv .law_other) A outer s H).A) : JSs Tb (cxN lib P w K mg base .law_other fa (cv .law_other) A outer s H) Φ (defBody (stF .law_other)) b_law_other :=
  have g : Gd (cxN lib P w K mg base .law_other fa (cv .law_other) A outer s H) := ⟨rfl, (sc_law_other).nd, Nat.lt_of_le_of_lt (by omega) hr.un⟩
  (jss_cons (js_sub g (j_bin (j_ix g (j_var 6) j_int) j_int) (j_var 6) j_int)
    (jss_cons (js_ite (jt_cmp g (j_ix g (j_var 6) j_int) j_int) (jss_cons (js_sub g j_int (j_var 0) j_int)
    (jss_cons (js_ret (j_call ((kn .law_term).plain rfl) (hl .law_term) hr (by rfl) (ja_cons (j_var 0) (ja_cons (j_var 1) (ja_cons (j_var 2) (ja_cons (j_var 3) (ja_cons (j_var 4) (ja_cons j_int ja_nil))))))))
    jss_nil)) jss_nil)
    (jss_cons (js_set 7 g (j_bin (j_var 3) (j_ix g (j_var 4) j_int)))
    (jss_cons (js_set 8 g (j_call ((kn .law_needed).plain rfl) (hl .law_needed) hr (by rfl) (ja_cons (j_var 1) (ja_cons (j_var 2) (ja_cons (j_var 7) (ja_cons (j_ix g (j_var 5) j_int) ja_nil))))))
    (jss_cons (js_setLc 9 [("j", 10)] g (ji_rng1 (by rfl) ab.z_range (j_bfun bi_len (by rfl) (ab.z_len) PySem.boot_len (ja_cons (j_ix g (j_var 5) j_int) ja_nil))) (by kernel_rfl) (by decide +kernel) (fun s H C cl fp => (jg_nm 10 g.blk)) (fun s H C cl fp => jc_none) (fun s H C cl fp => (j_call ((kn .law_other).plain rfl) (hl .law_other) hr (by rfl) (ja_cons (j_var 0) (ja_cons (j_var 1) (ja_cons (j_var 2) (ja_cons (j_var 7) (ja_cons (j_ix g.blk (j_ix g.blk (j_var 8) j_int) (j_var 10)) (ja_cons (j_ix g.blk (j_ix g.blk (j_var 5) j_int) (j_var 10)) (ja_cons (j_var 6) ja_nil))))))))))
    (jss_cons (js_ret (j_tup (ja_cons (j_ix g (j_var 5) j_int) (ja_cons (j_ix g (j_var 5) j_int) (ja_cons (j_btyp bi_tuple (by rfl) (ab.z_tuple) PyProof.Rows.boot_tuple (ja_cons (j_var 9) ja_nil)) ja_nil)))))
    jss_nil))))))
theorem w_law_is_apt (fa : Addr) (A : Around) (outer : List PySem.Env) (s : Shared) (H : Hp) (hr : Room k (cxN lib P w K mg base .law_is_apt fa (cv .law_is_apt) A outer s H).A) : JSs Tb (cxN lib P w K mg base .law_is_apt fa (cv .law_is_apt) A outer s H) Φ (defBody (stF .law_is_apt)) b_law_is_apt :=
  have g : Gd (cxN lib P w K mg base .law_is_apt fa (cv .law_is_apt) A outer s H) := ⟨rfl, (sc_law_is_apt).nd, Nat.lt_of_le_of_lt (by omega) hr.un⟩
  (jss_cons (js_set 1 g (j_lst ja_nil))
    (jss_cons (js_for g PassesOwn.never (ji_val (j_var 0)) (jg_nm 2 g) (jss_cons (js_par3 3 4 5 g (ja_cons (j_lst (ja_cons (j_tup (ja_cons (j_var 2) (ja_cons j_int ja_nil))) ja_nil)) (ja_cons j_int (ja_cons j_int ja_nil))))
    (jss_cons (js_whl PassesOwn.never (jt_var (j_var 3)) (jss_cons (js_unp g (j_me0 PySem.F.plainAttrs_list PySem.F.slot_list_pop PySem.F.type_list_pop me_pop (ty_lst (by decide)) (j_var 3)) (jgs_cons (jg_nm 6 g) (jgs_cons (jg_nm 7 g) jgs_nil)))
    (jss_cons (js_par2 4 5 g (ja_cons (j_bin (j_var 4) j_int) (ja_cons (j_bfun (bi_max rfl) (by rfl) (ab.z_max) PyProof.Rows.boot_max (ja_cons (j_var 5) (ja_cons (j_var 7) ja_nil))) ja_nil)))
    (jss_cons (js_ex (j_me PySem.F.plainAttrs_list PySem.F.slot_list_extend PySem.F.type_list_extend me_extend (ty_lst (by decide)) (j_var 3) (ja_cons (j_lc [("part", 8)] g (ji_val (j_ix g (j_var 6) j_int)) (by kernel_rfl) (by decide +kernel) (fun s H C cl fp => (jg_nm 8 g.blk)) (fun s H C cl fp => jc_none) (fun s H C cl fp => (j_tup (ja_cons (j_var 8) (ja_cons (j_bin (j_var 7) j_int) ja_nil))))) ja_nil)))
    jss_nil))))
    (jss_cons (js_ex (j_me PySem.F.plainAttrs_list PySem.F.slot_list_append PySem.F.type_list_append me_append (ty_lst (by decide)) (j_var 1) (ja_cons (j_and (jea_cons (j_cmp g (j_var 4) j_int) (jea_one (j_cmp g (j_var 5) j_int)))) ja_nil)))
    jss_nil))))
    (jss_cons (js_ret (j_bfun (bi_all rfl) (by rfl) (ab.z_all) PyProof.Rows.boot_all (ja_cons (j_var 1) ja_nil)))
    jss_nil)))
theorem w_law (fa : Addr) (A : Around) (outer : List PySem.Env) (s : Shared) (H : Hp) (hr : Room k (cxN lib P w K mg base .law fa (cv .law) A outer s H).A) : JSs Tb (cxN lib P w K mg base .law fa (cv .law) A outer s H) Φ (defBody (stF .law)) b_law :=
  have g : Gd (cxN lib P w K mg base .law fa (cv .law) A outer s H) := ⟨rfl, (sc_law).nd, Nat.lt_of_le_of_lt (by omega) hr.un⟩
  (jss_cons (js_set 1 g (j_call ((kn .law_start).plain rfl) (hl .law_start) hr (by rfl) (ja_cons (j_var 0) ja_nil)))
    (jss_cons (js_set 2 g (j_call ((kn .law_signature).plain rfl) (hl .law_signature) hr (by rfl) (ja_cons (j_var 1) ja_nil)))
    (jss_cons (js_set 3 g (j_btyp bi_tuple (by rfl) (ab.z_tuple) PyProof.Rows.boot_tuple (ja_cons (j_lc [("k", 13)] g (ji_rng1 (by rfl) ab.z_range (j_bin j_int (j_call ((kn .law_take).plain rfl) (hl .law_take) hr (by rfl) (ja_cons (j_var 1) (ja_cons j_int ja_nil))))) (by kernel_rfl) (by decide +kernel) (fun s H C cl fp => (jg_nm 13 g.blk)) (fun s H C cl fp => jc_none) (fun s H C cl fp => (j_call ((kn .law_kind).plain rfl) (hl .law_kind) hr (by rfl) (ja_cons (j_var 1) (ja_cons j_int ja_nil))))) ja_nil)))
    (jss_cons (js_set 4 g (j_btyp bi_tuple (by rfl) (ab.z_tuple) PyProof.Rows.boot_tuple (ja_cons (j_lc [("k", 13)] g (ji_rng1 (by rfl) ab.z_range (j_bin j_int (j_call ((kn .law_take).plain rfl) (hl .law_take) hr (by rfl) (ja_cons (j_var 1) (ja_cons j_int ja_nil))))) (by kernel_rfl) (by decide +kernel) (fun s H C cl fp => (jg_nm 13 g.blk)) (fun s H C cl fp => jc_none) (fun s H C cl fp => (j_call ((kn .law_kind).plain rfl) (hl .law_kind) hr (by rfl) (ja_cons (j_var 1) (ja_cons j_int ja_nil))))) ja_nil)))
    (jss_cons (js_set 5 g (j_lst ja_nil))
    (jss_cons (js_for g PassesOwn.never (ji_val (j_var 3)) (jg_nm 6 g) (jss_cons (js_sub g (j_bin j_int (j_call ((kn .law_take).plain rfl) (hl .law_take) hr (by rfl) (ja_cons (j_var 1) (ja_cons j_int ja_nil)))) (j_var 1) j_int)
    (jss_cons (js_ex (j_me PySem.F.plainAttrs_list PySem.F.slot_list_append PySem.F.type_list_append me_append (ty_lst (by decide)) (j_var 5) (ja_cons (j_call ((kn .law_drawn).plain rfl) (hl .law_drawn) hr (by rfl) (ja_cons (j_var 1) (ja_cons (j_var 2) (ja_cons (j_var 4) (ja_cons (j_tup ja_nil) (ja_cons (j_var 6) (ja_cons (j_bin j_int (j_call ((kn .law_take).plain rfl) (hl .law_take) hr (by rfl) (ja_cons (j_var 1) (ja_cons j_int ja_nil)))) ja_nil))))))) ja_nil)))
    jss_nil)))
    (jss_cons (js_unp g (j_call ((kn .law_tidied).plain rfl) (hl .law_tidied) hr (by rfl) (ja_cons (j_var 4) (ja_cons (j_var 5) ja_nil))) (jgs_cons (jg_nm 12 g) (jgs_cons (jg_nm 5 g) jgs_nil)))
    (jss_cons (js_set 7 g (j_btyp bi_tuple (by rfl) (ab.z_tuple) PyProof.Rows.boot_tuple (ja_cons (j_lc [("k", 13)] g (ji_rng1 (by rfl) ab.z_range (j_call ((kn .law_take).plain rfl) (hl .law_take) hr (by rfl) (ja_cons (j_var 1) (ja_cons j_int ja_nil)))) (by kernel_rfl) (by decide +kernel) (fun s H C cl fp => (jg_nm 13 g.blk)) (fun s H C cl fp => jc_none) (fun s H C cl fp => (j_call ((kn .law_kind).plain rfl) (hl .law_kind) hr (by rfl) (ja_cons (j_var 1) (ja_cons j_int ja_nil))))) ja_nil)))
    (jss_cons (js_set 8 g (j_lst ja_nil))
    (jss_cons (js_for g PassesOwn.never (ji_val (j_var 12)) (jg_nm 6 g) (jss_cons (js_sub g (j_bin j_int (j_call ((kn .law_take).plain rfl) (hl .law_take) hr (by rfl) (ja_cons (j_var 1) (ja_cons j_int ja_nil)))) (j_var 1) j_int)
    (jss_cons (js_ex (j_me PySem.F.plainAttrs_list PySem.F.slot_list_append PySem.F.type_list_append me_append (ty_lst (by decide)) (j_var 8) (ja_cons (j_call ((kn .law_term).plain rfl) (hl .law_term) hr (by rfl) (ja_cons (j_var 1) (ja_cons (j_var 2) (ja_cons (j_var 7) (ja_cons (j_tup ja_nil) (ja_cons (j_var 6) (ja_cons (j_bin j_int (j_call ((kn .law_take).plain rfl) (hl .law_take) hr (by rfl) (ja_cons (j_var 1) (ja_cons j_int ja_nil)))) ja_nil))))))) ja_nil)))
    jss_nil)))
    (jss_cons (js_set 9 g (j_btyp bi_tuple (by rfl) (ab.z_tuple) PyProof.Rows.boot_tuple (ja_cons (j_lc [("value", 16)] g (ji_val (j_var 5)) (by kernel_rfl) (by decide +kernel) (fun s H C cl fp => (jg_nm 16 g.blk)) (fun s H C cl fp => jc_none) (fun s H C cl fp => (j_call ((kn .law_filled).plain rfl) (hl .law_filled) hr (by rfl) (ja_cons (j_var 8) (ja_cons (j_var 16) ja_nil))))) ja_nil)))
    (jss_cons (js_ite (jt_or (jwo_cons (jt_cmp g (j_bfun (bi_sum rfl) (by rfl) (ab.z_sum) PyProof.Rows.boot_sum (ja_cons (j_lc [("value", 16)] g (ji_val (j_var 9)) (by kernel_rfl) (by decide +kernel) (fun s H C cl fp => (jg_nm 16 g.blk)) (fun s H C cl fp => jc_none) (fun s H C cl fp => (j_call ((kn .law_size).plain rfl) (hl .law_size) hr (by rfl) (ja_cons (j_var 16) ja_nil)))) ja_nil)) j_int) (jwo_one (jt_not (jt_call (j_call ((kn .law_is_apt).plain rfl) (hl .law_is_apt) hr (by rfl) (ja_cons (j_bin (j_var 5) (j_var 9)) ja_nil))))))) (jss_cons (js_ret j_bl)
    jss_nil) jss_nil)
    (jss_cons (js_set 10 g (j_call ((kn .more_of).plain rfl) (hl .more_of) hr (by rfl) (ja_cons (j_var 2) (ja_cons (j_var 3) (ja_cons (j_var 12) (ja_cons (j_var 5) (ja_cons (j_var 9) ja_nil)))))))
    (jss_cons (js_ite (jt_or (jwo_cons (jt_not (jt_isi (j_isi "tuple" (by rfl) ab.z_isinstance (by rfl) ab.z_tuple PyProof.Rows.boot_tuple (by decide) (j_var 10)))) (jwo_one (jt_cmp g (j_var 10) (j_btyp bi_tuple (by rfl) (ab.z_tuple) PyProof.Rows.boot_tuple (ja_cons (j_var 8) ja_nil)))))) (jss_cons (js_ret j_bl)
    jss_nil) jss_nil)
    (jss_cons (js_for g PassesOwn.never (ji_rng1 (by rfl) ab.z_range j_int) (jg_nm 11 g) (jss_cons (js_set 13 g (j_call ((kn .law_take).plain rfl) (hl .law_take) hr (by rfl) (ja_cons (j_var 1) (ja_cons (j_bfun bi_len (by rfl) (ab.z_len) PySem.boot_len (ja_cons (j_var 3) ja_nil)) ja_nil))))
    (jss_cons (js_set 14 g (j_bin j_int (j_call ((kn .law_take).plain rfl) (hl .law_take) hr (by rfl) (ja_cons (j_var 1) (ja_cons (j_call ((kn .law_size).plain rfl) (hl .law_size) hr (by rfl) (ja_cons (j_ix g (j_var 9) (j_var 13)) ja_nil)) ja_nil)))))
    (jss_cons (js_set 15 g (j_call ((kn .law_other).plain rfl) (hl .law_other) hr (by rfl) (ja_cons (j_var 1) (ja_cons (j_var 2) (ja_cons (j_var 7) (ja_cons (j_tup ja_nil) (ja_cons (j_ix g (j_var 3) (j_var 13)) (ja_cons (j_ix g (j_var 9) (j_var 13)) (ja_cons (j_lst (ja_cons (j_var 14) ja_nil)) ja_nil)))))))))
    (jss_cons (js_set 9 g (j_bin (j_bin (j_sl (j_var 9) jo_none (jo_some (j_var 13))) (j_tup (ja_cons (j_var 15) ja_nil))) (j_sl (j_var 9) (jo_some (j_bin (j_var 13) j_int)) jo_none)))
    (jss_cons (js_ite (jt_cmp g (j_call ((kn .more_of).plain rfl) (hl .more_of) hr (by rfl) (ja_cons (j_var 2) (ja_cons (j_var 3) (ja_cons (j_var 12) (ja_cons (j_var 5) (ja_cons (j_var 9) ja_nil)))))) (j_call ((kn .law_more).plain rfl) (hl .law_more) hr (by rfl) (ja_cons (j_var 5) (ja_cons (j_var 9) (ja_cons (j_bfun bi_len (by rfl) (ab.z_len) PySem.boot_len (ja_cons (j_var 12) ja_nil)) ja_nil))))) (jss_cons (js_ret j_bl)
    jss_nil) jss_nil)
    jss_nil))))))
    (jss_cons (js_ret j_bl)
    jss_nil))))))))))))))))
def G0 : NF := NF.of (stF .is_integer) "" "" [] 0
theorem wP (f : Fn) (fa : Addr) (A : Around) (outer : List PySem.Env) (s : Shared) (H : Hp) (e : kdF f = .plain) (hr : Room k (cxN lib P w K mg base f fa (cv f) A outer s H).A) : ∃ bx, JSs Tb (cxN lib P w K mg base f fa (cv f) A outer s H) Φ (defBody (stF f)) (boF f bx) := by
  cases f
  · exact ⟨⟨[], G0, []⟩, w_is_integer ab cs mk kn hl fa A outer s H hr⟩
  · exact ⟨⟨[], G0, []⟩, w_type_of_head ab cs mk kn hl fa A outer s H hr⟩
  · exact ⟨⟨[], G0, []⟩, w_own_binders ab cs mk kn hl fa A outer s H hr⟩
  · exact ⟨⟨[], G0, []⟩, w_long_binder ab cs mk kn hl fa A outer s H hr⟩
  · cases e
  · exact ⟨⟨[], G0, []⟩, w_binder_of ab cs mk kn hl fa A outer s H hr⟩
  · exact ⟨⟨[], G0, []⟩, w_binders_of ab cs mk kn hl fa A outer s H hr⟩
  · cases e
  · exact ⟨⟨_, G0, []⟩, w_closed_over ab cs mk kn hl fa A outer s H hr⟩
  · exact ⟨⟨[], G0, []⟩, w_more_of ab cs mk kn hl fa A outer s H hr⟩
  · exact ⟨⟨[], G0, []⟩, w_law_start ab cs mk kn hl fa A outer s H hr⟩
  · exact ⟨⟨[], G0, []⟩, w_law_fill ab cs mk kn hl fa A outer s H hr⟩
  · exact ⟨⟨[], G0, []⟩, w_law_take ab cs mk kn hl fa A outer s H hr⟩
  · exact ⟨⟨[], G0, []⟩, w_law_signature ab cs mk kn hl fa A outer s H hr⟩
  · exact ⟨⟨[], G0, []⟩, w_law_kind ab cs mk kn hl fa A outer s H hr⟩
  · exact ⟨⟨[], G0, []⟩, w_law_long ab cs mk kn hl fa A outer s H hr⟩
  · exact ⟨⟨[], G0, []⟩, w_law_lifted ab cs mk kn hl fa A outer s H hr⟩
  · exact ⟨⟨[], G0, []⟩, w_law_body ab cs mk kn hl fa A outer s H hr⟩
  · exact ⟨⟨[], G0, []⟩, w_law_within ab cs mk kn hl fa A outer s H hr⟩
  · exact ⟨⟨[], G0, []⟩, w_law_filled ab cs mk kn hl fa A outer s H hr⟩
  · exact ⟨⟨[], G0, []⟩, w_law_size ab cs mk kn hl fa A outer s H hr⟩
  · exact ⟨⟨[], G0, []⟩, w_law_is_int ab cs mk kn hl fa A outer s H hr⟩
  · exact ⟨⟨[], G0, []⟩, w_law_needed ab cs mk kn hl fa A outer s H hr⟩
  · exact ⟨⟨[], G0, []⟩, w_law_heads ab cs mk kn hl fa A outer s H hr⟩
  · exact ⟨⟨[], G0, []⟩, w_law_least ab cs mk kn hl fa A outer s H hr⟩
  · exact ⟨⟨[], G0, []⟩, w_law_term ab cs mk kn hl fa A outer s H hr⟩
  · exact ⟨⟨[], G0, []⟩, w_law_number ab cs mk kn hl fa A outer s H hr⟩
  · exact ⟨⟨[], G0, []⟩, w_law_named ab cs mk kn hl fa A outer s H hr⟩
  · exact ⟨⟨[], G0, []⟩, w_law_read ab cs mk kn hl fa A outer s H hr⟩
  · exact ⟨⟨[], G0, []⟩, w_law_more ab cs mk kn hl fa A outer s H hr⟩
  · exact ⟨⟨[], G0, []⟩, w_law_choice ab cs mk kn hl fa A outer s H hr⟩
  · exact ⟨⟨[], G0, []⟩, w_law_drawn ab cs mk kn hl fa A outer s H hr⟩
  · exact ⟨⟨[], G0, []⟩, w_law_met ab cs mk kn hl fa A outer s H hr⟩
  · exact ⟨⟨[], G0, []⟩, w_law_ordered ab cs mk kn hl fa A outer s H hr⟩
  · exact ⟨⟨[], G0, []⟩, w_law_rows_of ab cs mk kn hl fa A outer s H hr⟩
  · exact ⟨⟨[], G0, []⟩, w_law_tidied ab cs mk kn hl fa A outer s H hr⟩
  · exact ⟨⟨[], G0, []⟩, w_law_other ab cs mk kn hl fa A outer s H hr⟩
  · exact ⟨⟨[], G0, []⟩, w_law_is_apt ab cs mk kn hl fa A outer s H hr⟩
  · exact ⟨⟨[], G0, []⟩, w_law ab cs mk kn hl fa A outer s H hr⟩
theorem wTk (f g : Fn) (G : NF) (us : List T) (fa : Addr) (A : Around) (outer : List PySem.Env) (s : Shared) (H : Hp) (e : kdF f = .takes g) (hG : lib.IsG g G) (hr : Room k (cxN lib P w K mg base f fa (cv f) A outer s H).A) (clo : Clo (cxN lib P w K mg base f fa (cv f) A outer s H) (lib.fr g) G us) : JSs Tb (cxN lib P w K mg base f fa (cv f) A outer s H) Φ (defBody (stF f)) (boF f ⟨[], G, us⟩) := by
  cases f
  · cases e
  · cases e
  · cases e
  · cases e
  · cases e; exact w_changed__closed_over ab cs mk kn hl G us hG fa A outer s H hr clo
  · cases e
  · cases e
  · cases e
  · cases e
  · cases e
  · cases e
  · cases e
  · cases e
  · cases e
  · cases e
  · cases e
  · cases e
  · cases e
  · cases e
  · cases e
  · cases e
  · cases e
  · cases e
  · cases e
  · cases e
  · cases e
  · cases e
  · cases e
  · cases e
  · cases e
  · cases e
  · cases e
  · cases e
  · cases e
  · cases e
  · cases e
  · cases e
  · cases e
  · cases e
theorem wNs (f : Fn) (fr : List Str) (cl : List (Str × Addr)) (c : Addr) (fa : Addr) (A : Around) (outer : List PySem.Env) (s : Shared) (H : Hp) (e : kdF f = .nest fr) (hr : Room k (cxM lib P w K mg base f cl c fa A outer s H).A) : ∃ bx, JSs Tb (cxM lib P w K mg base f cl c fa A outer s H) Φ (C8.fnBody (stF f)) (boF f bx) := by
  cases f
  · cases e
  · cases e
  · cases e
  · cases e
  · cases e
  · cases e
  · cases e
  · cases e; exact ⟨⟨[], G0, []⟩, w_closed_over_change ab cs mk kn hl cl c fa A outer s H hr⟩
  · cases e
  · cases e
  · cases e
  · cases e
  · cases e
  · cases e
  · cases e
  · cases e
  · cases e
  · cases e
  · cases e
  · cases e
  · cases e
  · cases e
  · cases e
  · cases e
  · cases e
  · cases e
  · cases e
  · cases e
  · cases e
  · cases e
  · cases e
  · cases e
  · cases e
  · cases e
  · cases e
  · cases e
  · cases e
  · cases e
  · cases e

end
end K07

namespace K07
open PySem PySem.Spec TV
open L2 (ixN atI Key)
/-! the end -/
theorem bindF (f : Fn) (nn : ∀ fr, kdF f ≠ .nest fr) : ∀ (kV doc pm : Value) (an : Option Addr) (cdv ct : Value) (us : List Value), us.length = (psF f).length → bindArgs (PySem.W.fnOf (nmF f) (nmF f) (L2.defArgs (stF f)) (L2.defBody (stF f)) (L2.defScope (stF f)) .none kV doc pm an cdv ct) ⟨us, []⟩ = pure ((psF f).zip us) := by
  cases f
  · intro _ _ _ _ _ _ us hl; exact match us, hl with | [_], _ => rfl
  · intro _ _ _ _ _ _ us hl; exact match us, hl with | [_, _, _, _], _ => rfl
  · intro _ _ _ _ _ _ us hl; exact match us, hl with | [_], _ => rfl
  · intro _ _ _ _ _ _ us hl; exact match us, hl with | [_, _], _ => rfl
  · intro _ _ _ _ _ _ us hl; exact match us, hl with | [_, _], _ => rfl
  · intro _ _ _ _ _ _ us hl; exact match us, hl with | [_, _], _ => rfl
  · intro _ _ _ _ _ _ us hl; exact match us, hl with | [_, _], _ => rfl
  · exact absurd rfl (nn _)
  · intro _ _ _ _ _ _ us hl; exact match us, hl with | [_, _], _ => rfl
  · intro _ _ _ _ _ _ us hl; exact match us, hl with | [_, _, _, _, _], _ => rfl
  · intro _ _ _ _ _ _ us hl; exact match us, hl with | [_], _ => rfl
  · intro _ _ _ _ _ _ us hl; exact match us, hl with | [_], _ => rfl
  · intro _ _ _ _ _ _ us hl; exact match us, hl with | [_, _], _ => rfl
  · intro _ _ _ _ _ _ us hl; exact match us, hl with | [_], _ => rfl
  · intro _ _ _ _ _ _ us hl; exact match us, hl with | [_, _], _ => rfl
  · intro _ _ _ _ _ _ us hl; exact match us, hl with | [_, _], _ => rfl
  · intro _ _ _ _ _ _ us hl; exact match us, hl with | [_, _, _], _ => rfl
  · intro _ _ _ _ _ _ us hl; exact match us, hl with | [_, _, _, _], _ => rfl
  · intro _ _ _ _ _ _ us hl; exact match us, hl with | [_, _, _], _ => rfl
  · intro _ _ _ _ _ _ us hl; exact match us, hl with | [_, _], _ => rfl
  · intro _ _ _ _ _ _ us hl; exact match us, hl with | [_], _ => rfl
  · intro _ _ _ _ _ _ us hl; exact match us, hl with | [_], _ => rfl
  · intro _ _ _ _ _ _ us hl; exact match us, hl with | [_, _, _, _], _ => rfl
  · intro _ _ _ _ _ _ us hl; exact match us, hl with | [_, _, _, _], _ => rfl
  · intro _ _ _ _ _ _ us hl; exact match us, hl with | [_, _], _ => rfl
  · intro _ _ _ _ _ _ us hl; exact match us, hl with | [_, _, _, _, _, _], _ => rfl
  · intro _ _ _ _ _ _ us hl; exact match us, hl with | [_], _ => rfl
  · intro _ _ _ _ _ _ us hl; exact match us, hl with | [_, _, _, _], _ => rfl
  · intro _ _ _ _ _ _ us hl; exact match us, hl with | [_, _, _], _ => rfl
  · intro _ _ _ _ _ _ us hl; exact match us, hl with | [_, _, _], _ => rfl
  · intro _ _ _ _ _ _ us hl; exact match us, hl with | [_, _, _], _ => rfl
  · intro _ _ _ _ _ _ us hl; exact match us, hl with | [_, _, _, _, _, _], _ => rfl
  · intro _ _ _ _ _ _ us hl; exact match us, hl with | [_, _], _ => rfl
  · intro _ _ _ _ _ _ us hl; exact match us, hl with | [_, _], _ => rfl
  · intro _ _ _ _ _ _ us hl; exact match us, hl with | [_, _], _ => rfl
  · intro _ _ _ _ _ _ us hl; exact match us, hl with | [_, _], _ => rfl
  · intro _ _ _ _ _ _ us hl; exact match us, hl with | [_, _, _, _, _, _, _], _ => rfl
  · intro _ _ _ _ _ _ us hl; exact match us, hl with | [_], _ => rfl
  · intro _ _ _ _ _ _ us hl; exact match us, hl with | [_], _ => rfl
theorem bindN (f : Fn) (fr : List Str) (e : kdF f = .nest fr) (cl : List (Str × Addr)) (c : Addr) (doc pm ctv : Value) : ∀ (us : List Value), us.length = (psF f).length → bindArgs ((nfOf lib f cl c).fd doc pm ctv) ⟨us, []⟩ = pure ((psF f).zip us) := by
  cases f
  · cases e
  · cases e
  · cases e
  · cases e
  · cases e
  · cases e
  · cases e
  · intro us hl; exact match us, hl with | [_, _], _ => rfl
  · cases e
  · cases e
  · cases e
  · cases e
  · cases e
  · cases e
  · cases e
  · cases e
  · cases e
  · cases e
  · cases e
  · cases e
  · cases e
  · cases e
  · cases e
  · cases e
  · cases e
  · cases e
  · cases e
  · cases e
  · cases e
  · cases e
  · cases e
  · cases e
  · cases e
  · cases e
  · cases e
  · cases e
  · cases e
  · cases e
  · cases e
abbrev tabsOf (P_closed_over : Addr) : List NdefX.NTab := [(P_closed_over, fun _ _ => qualF .closed_over_change)]
abbrev spLaw (K : PySem.W.Frag) (Tb : List NdefX.NTab) : L2.Sp := spOf K Tb 1 (Phi 101 .law)
theorem the_pre {K : PySem.W.Frag} {Tb : List NdefX.NTab} {H : L2.Hp} {a : Addr} {ns : List Int} (hl : ns.length ≤ 63) (tb : NdefX.TabsN Tb H) (hS : L2.SqL K H a (ns.map L2.V.int)) : spLaw K Tb [.ref a] H (fun v _ => v = .bl true) fun _ _ _ => False := by
  obtain ⟨x, μ, hx, r, rh⟩ := script_rep hS tb
  refine ⟨[x], μ, rfl, r, rh, ⟨by decide, ns, x, rfl, hx, hl⟩, fun t μ' p v H' _ r _ => ?_⟩
  obtain ⟨rfl, _⟩ := p
  exact r
theorem the_end {l : PySem.W.OpenLaw} {w : World} {K : PySem.W.Frag} {h : Heap} {mg : Str → Option Value} {fa : Addr} {c_closed_over P_closed_over : Addr} {cd0 cd1 cd2 cd3 cd4 cd5 cd6 cd8 cd9 cd10 cd11 cd12 cd13 cd14 cd15 cd16 cd17 cd18 cd19 cd20 cd21 cd22 cd23 cd24 cd25 cd26 cd27 cd28 cd29 cd30 cd31 cd32 cd33 cd34 cd35 cd36 cd37 : Value} (X : K.In h) (G : h.Ns mainGlobals mg) (hfa : mg "law" = some (.ref fa)) (t_closed_over : h.get? P_closed_over = some { cls := .none, data := .fields #[] } ∧ K.lookup P_closed_over = none ∧ PySem.W.CodeHd h c_closed_over P_closed_over) (d0 : FDc K "is_integer" (topS 1) (cd0)) (d1 : FDc K "type_of_head" (topS 2) (cd1)) (d2 : FDc K "own_binders" (topS 3) (cd2)) (d3 : FDc K "long_binder" (topS 4) (cd3)) (d4 : FDc K "changed" (topS 5) (cd4)) (d5 : FDc K "binder_of" (topS 6) (cd5)) (d6 : FDc K "binders_of" (topS 7) (cd6)) (d7 : FDc K "closed_over" (topS 9) (.ref c_closed_over)) (d8 : FDc K "more_of" (topS 10) (cd8)) (d9 : FDc K "_law_start" (topS 12) (cd9)) (d10 : FDc K "_law_fill" (topS 13) (cd10)) (d11 : FDc K "_law_take" (topS 14) (cd11)) (d12 : FDc K "_law_signature" (topS 15) (cd12)) (d13 : FDc K "_law_kind" (topS 16) (cd13)) (d14 : FDc K "_law_long" (topS 17) (cd14)) (d15 : FDc K "_law_lifted" (topS 18) (cd15)) (d16 : FDc K "_law_body" (topS 19) (cd16)) (d17 : FDc K "_law_within" (topS 20) (cd17)) (d18 : FDc K "_law_filled" (topS 21) (cd18)) (d19 : FDc K "_law_size" (topS 22) (cd19)) (d20 : FDc K "_law_is_int" (topS 23) (cd20)) (d21 : FDc K "_law_needed" (topS 24) (cd21)) (d22 : FDc K "_law_heads" (topS 25) (cd22)) (d23 : FDc K "_law_least" (topS 26) (cd23)) (d24 : FDc K "_law_term" (topS 27) (cd24)) (d25 : FDc K "_law_number" (topS 28) (cd25)) (d26 : FDc K "_law_named" (topS 29) (cd26)) (d27 : FDc K "_law_read" (topS 30) (cd27)) (d28 : FDc K "_law_more" (topS 31) (cd28)) (d29 : FDc K "_law_choice" (topS 32) (cd29)) (d30 : FDc K "_law_drawn" (topS 33) (cd30)) (d31 : FDc K "_law_met" (topS 34) (cd31)) (d32 : FDc K "_law_ordered" (topS 35) (cd32)) (d33 : FDc K "_law_rows_of" (topS 36) (cd33)) (d34 : FDc K "_law_tidied" (topS 37) (cd34)) (d35 : FDc K "_law_other" (topS 38) (cd35)) (d36 : FDc K "_law_is_apt" (topS 39) (cd36)) (d37 : FDc K "law" (topS 40) (cd37)) (z0 : PySem.W.nsIn K mainGlobals "all" = some none) (z1 : PySem.W.nsIn K mainGlobals "bool" = some none) (z2 : PySem.W.nsIn K mainGlobals "dict" = some none) (z3 : PySem.W.nsIn K mainGlobals "enumerate" = some none) (z4 : PySem.W.nsIn K mainGlobals "int" = some none) (z5 : PySem.W.nsIn K mainGlobals "isinstance" = some none) (z6 : PySem.W.nsIn K mainGlobals "len" = some none) (z7 : PySem.W.nsIn K mainGlobals "max" = some none) (z8 : PySem.W.nsIn K mainGlobals "range" = some none) (z9 : PySem.W.nsIn K mainGlobals "sorted" = some none) (z10 : PySem.W.nsIn K mainGlobals "str" = some none) (z11 : PySem.W.nsIn K mainGlobals "sum" = some none) (z12 : PySem.W.nsIn K mainGlobals "tuple" = some none) :
    LamX.LawAtS l w K L2.CX0 101 63 "script" mg fa h := by
  let cv : Fn → Value := fun f => match f with
    | .is_integer => cd0
    | .type_of_head => cd1
    | .own_binders => cd2
    | .long_binder => cd3
    | .changed__closed_over => cd4
    | .binder_of => cd5
    | .binders_of => cd6
    | .closed_over_change => .none
    | .closed_over => .ref c_closed_over
    | .more_of => cd8
    | .law_start => cd9
    | .law_fill => cd10
    | .law_take => cd11
    | .law_signature => cd12
    | .law_kind => cd13
    | .law_long => cd14
    | .law_lifted => cd15
    | .law_body => cd16
    | .law_within => cd17
    | .law_filled => cd18
    | .law_size => cd19
    | .law_is_int => cd20
    | .law_needed => cd21
    | .law_heads => cd22
    | .law_least => cd23
    | .law_term => cd24
    | .law_number => cd25
    | .law_named => cd26
    | .law_read => cd27
    | .law_more => cd28
    | .law_choice => cd29
    | .law_drawn => cd30
    | .law_met => cd31
    | .law_ordered => cd32
    | .law_rows_of => cd33
    | .law_tidied => cd34
    | .law_other => cd35
    | .law_is_apt => cd36
    | .law => cd37
  have D : ∀ f : Fn, (∀ fr, kdF f ≠ .nest fr) → FDc K (nmF f) (stF f) (cv f) := by
    intro f nn; cases f
    · exact d0
    · exact d1
    · exact d2
    · exact d3
    · exact d4
    · exact d5
    · exact d6
    · exact absurd rfl (nn _)
    · exact d7
    · exact d8
    · exact d9
    · exact d10
    · exact d11
    · exact d12
    · exact d13
    · exact d14
    · exact d15
    · exact d16
    · exact d17
    · exact d18
    · exact d19
    · exact d20
    · exact d21
    · exact d22
    · exact d23
    · exact d24
    · exact d25
    · exact d26
    · exact d27
    · exact d28
    · exact d29
    · exact d30
    · exact d31
    · exact d32
    · exact d33
    · exact d34
    · exact d35
    · exact d36
    · exact d37
  have ab : Abs mg := ⟨PySem.W.mg_none_of X G z0, PySem.W.mg_none_of X G z1, PySem.W.mg_none_of X G z2, PySem.W.mg_none_of X G z3, PySem.W.mg_none_of X G z4, PySem.W.mg_none_of X G z5, PySem.W.mg_none_of X G z6, PySem.W.mg_none_of X G z7, PySem.W.mg_none_of X G z8, PySem.W.mg_none_of X G z9, PySem.W.mg_none_of X G z10, PySem.W.mg_none_of X G z11, PySem.W.mg_none_of X G z12⟩
  have cs : Csts K mg := ⟨trivial⟩
  have top : TopN lib K mg cv := ⟨fun f nn => by
    obtain ⟨fa, fd, F, hc, m, b, _⟩ := FDc.use X G (bindF f nn) (D f nn)
    exact ⟨fa, fd, F, hc, m, b⟩⟩
  obtain ⟨fa', fd, F, hcd, m, b, kV, dc, pm, an, cd, ct, efd⟩ := FDc.use X G (bindF .law (by intro _ z; cases z)) (D .law (by intro _ z; cases z))
  have e : fa = fa' := by have := hfa.symm.trans m; cases this; rfl
  subst e
  refine ⟨fd, [(c_closed_over, P_closed_over)], spLaw K (tabsOf P_closed_over), (fun p hp => by
    simp only [List.mem_cons, List.not_mem_nil, or_false] at hp
    rcases hp with rfl
    · exact t_closed_over.1), (fun p hp => by
    simp only [List.mem_cons, List.not_mem_nil, or_false] at hp
    rcases hp with rfl
    · exact t_closed_over.2.1), (fun p hp => by
    simp only [List.mem_cons, List.not_mem_nil, or_false] at hp
    rcases hp with rfl
    · exact t_closed_over.2.2), fun s v => by subst efd; exact .of_eq rfl, fun H a ns hl _ ht hS => the_pre hl ?_ hS, fun base _ _ hb => ?_⟩
  · intro p hp
    simp only [tabsOf, List.mem_cons, List.not_mem_nil, or_false] at hp
    rcases hp with rfl
    · exact NdefX.TabN.nil (ht (c_closed_over, P_closed_over) (by simp))
  have mk : Mks mg base (tabsOf P_closed_over) cv := ⟨⟨c_closed_over, P_closed_over, hb (c_closed_over, P_closed_over) (by simp), rfl, by simp [tabsOf], by intro p hp _; simp only [tabsOf, List.mem_cons, List.not_mem_nil, or_false] at hp; subst hp; rfl⟩⟩
  have W : ∀ k, Walks lib l.prog w K mg base (tabsOf P_closed_over) cv k (Phi k) := fun k => ⟨fun f fa A outer s H e kn hr => wP ab cs mk kn (phi_len k) f fa A outer s H e hr, fun f g G us fa A outer s H e hG kn hr clo => wTk ab cs mk kn (phi_len k) f g G us fa A outer s H e hG hr clo, fun f fr cl c fa A outer s H e kn hr => wNs ab cs mk kn (phi_len k) f fr cl c fa A outer s H e hr⟩
  have all : ∀ g, Pr lib l.prog w K mg base (tabsOf P_closed_over) 100 (Phi 100) g := tableN Phi phi_zero phi_len top scF snF bindN W vcs 100
  exact top_ok (f := .law) rfl F hcd (scF .law (by intro _ z; cases z)) all (W 100) (vcs 100)
end K07
open PySem PySem.W PyProof.Rows
set_option maxHeartbeats 0 in
theorem PySem.Challenge.cw_gapless_k07_instances_holds : PySem.Challenge.rw_gapless_k07_instances.Holds := by
  w_on; o_law; k_head; (case hw => w_witness2)
  k_fill
  refine LamX.walk_ofTs (l := PySem.Challenge.rw_gapless_k07_instances) (n := 63) (k := 101) (x := "script") (CX := fun _ => L2.CX0) rfl (by decide) rfl ⟨rfl, by decide, by decide⟩ (fun w h Y => PySem.W.km_in_of Y) ?F (fun _ _ _ _ _ h => h)
  case F =>
    intro w mg fa h Y KX G hmg
    have hT8 := PySem.W.km_tabs_of Y
    refine' K07.the_end KX G hmg ⟨?yt0, ?yn0, ?yc0⟩ ?yd0 ?yd1 ?yd2 ?yd3 ?yd4 ?yd5 ?yd6 ?yd7 ?yd8 ?yd9 ?yd10 ?yd11 ?yd12 ?yd13 ?yd14 ?yd15 ?yd16 ?yd17 ?yd18 ?yd19 ?yd20 ?yd21 ?yd22 ?yd23 ?yd24 ?yd25 ?yd26 ?yd27 ?yd28 ?yd29 ?yd30 ?yd31 ?yd32 ?yd33 ?yd34 ?yd35 ?yd36 ?yd37 ?yz0 ?yz1 ?yz2 ?yz3 ?yz4 ?yz5 ?yz6 ?yz7 ?yz8 ?yz9 ?yz10 ?yz11 ?yz12 
    case yd7 => (refine' TV.FDc.mk2 ?l ?a ?c ?k; (case a => k_is); (case l => k_is); (case c => k_is); (case k => k_is))
    case yd0 => (refine' TV.FDc.mk2 ?l ?a ?c ?k; (case a => k_is); (case l => k_is); (case c => k_is); (case k => k_is))
    case yd1 => (refine' TV.FDc.mk2 ?l ?a ?c ?k; (case a => k_is); (case l => k_is); (case c => k_is); (case k => k_is))
    case yd2 => (refine' TV.FDc.mk2 ?l ?a ?c ?k; (case a => k_is); (case l => k_is); (case c => k_is); (case k => k_is))
    case yd3 => (refine' TV.FDc.mk2 ?l ?a ?c ?k; (case a => k_is); (case l => k_is); (case c => k_is); (case k => k_is))
    case yd4 => (refine' TV.FDc.mk2 ?l ?a ?c ?k; (case a => k_is); (case l => k_is); (case c => k_is); (case k => k_is))
    case yd5 => (refine' TV.FDc.mk2 ?l ?a ?c ?k; (case a => k_is); (case l => k_is); (case c => k_is); (case k => k_is))
    case yd6 => (refine' TV.FDc.mk2 ?l ?a ?c ?k; (case a => k_is); (case l => k_is); (case c => k_is); (case k => k_is))
    case yd8 => (refine' TV.FDc.mk2 ?l ?a ?c ?k; (case a => k_is); (case l => k_is); (case c => k_is); (case k => k_is))
    case yd9 => (refine' TV.FDc.mk2 ?l ?a ?c ?k; (case a => k_is); (case l => k_is); (case c => k_is); (case k => k_is))
    case yd10 => (refine' TV.FDc.mk2 ?l ?a ?c ?k; (case a => k_is); (case l => k_is); (case c => k_is); (case k => k_is))
    case yd11 => (refine' TV.FDc.mk2 ?l ?a ?c ?k; (case a => k_is); (case l => k_is); (case c => k_is); (case k => k_is))
    case yd12 => (refine' TV.FDc.mk2 ?l ?a ?c ?k; (case a => k_is); (case l => k_is); (case c => k_is); (case k => k_is))
    case yd13 => (refine' TV.FDc.mk2 ?l ?a ?c ?k; (case a => k_is); (case l => k_is); (case c => k_is); (case k => k_is))
    case yd14 => (refine' TV.FDc.mk2 ?l ?a ?c ?k; (case a => k_is); (case l => k_is); (case c => k_is); (case k => k_is))
    case yd15 => (refine' TV.FDc.mk2 ?l ?a ?c ?k; (case a => k_is); (case l => k_is); (case c => k_is); (case k => k_is))
    case yd16 => (refine' TV.FDc.mk2 ?l ?a ?c ?k; (case a => k_is); (case l => k_is); (case c => k_is); (case k => k_is))
    case yd17 => (refine' TV.FDc.mk2 ?l ?a ?c ?k; (case a => k_is); (case l => k_is); (case c => k_is); (case k => k_is))
    case yd18 => (refine' TV.FDc.mk2 ?l ?a ?c ?k; (case a => k_is); (case l => k_is); (case c => k_is); (case k => k_is))
    case yd19 => (refine' TV.FDc.mk2 ?l ?a ?c ?k; (case a => k_is); (case l => k_is); (case c => k_is); (case k => k_is))
    case yd20 => (refine' TV.FDc.mk2 ?l ?a ?c ?k; (case a => k_is); (case l => k_is); (case c => k_is); (case k => k_is))
    case yd21 => (refine' TV.FDc.mk2 ?l ?a ?c ?k; (case a => k_is); (case l => k_is); (case c => k_is); (case k => k_is))
    case yd22 => (refine' TV.FDc.mk2 ?l ?a ?c ?k; (case a => k_is); (case l => k_is); (case c => k_is); (case k => k_is))
    case yd23 => (refine' TV.FDc.mk2 ?l ?a ?c ?k; (case a => k_is); (case l => k_is); (case c => k_is); (case k => k_is))
    case yd24 => (refine' TV.FDc.mk2 ?l ?a ?c ?k; (case a => k_is); (case l => k_is); (case c => k_is); (case k => k_is))
    case yd25 => (refine' TV.FDc.mk2 ?l ?a ?c ?k; (case a => k_is); (case l => k_is); (case c => k_is); (case k => k_is))
    case yd26 => (refine' TV.FDc.mk2 ?l ?a ?c ?k; (case a => k_is); (case l => k_is); (case c => k_is); (case k => k_is))
    case yd27 => (refine' TV.FDc.mk2 ?l ?a ?c ?k; (case a => k_is); (case l => k_is); (case c => k_is); (case k => k_is))
    case yd28 => (refine' TV.FDc.mk2 ?l ?a ?c ?k; (case a => k_is); (case l => k_is); (case c => k_is); (case k => k_is))
    case yd29 => (refine' TV.FDc.mk2 ?l ?a ?c ?k; (case a => k_is); (case l => k_is); (case c => k_is); (case k => k_is))
    case yd30 => (refine' TV.FDc.mk2 ?l ?a ?c ?k; (case a => k_is); (case l => k_is); (case c => k_is); (case k => k_is))
    case yd31 => (refine' TV.FDc.mk2 ?l ?a ?c ?k; (case a => k_is); (case l => k_is); (case c => k_is); (case k => k_is))
    case yd32 => (refine' TV.FDc.mk2 ?l ?a ?c ?k; (case a => k_is); (case l => k_is); (case c => k_is); (case k => k_is))
    case yd33 => (refine' TV.FDc.mk2 ?l ?a ?c ?k; (case a => k_is); (case l => k_is); (case c => k_is); (case k => k_is))
    case yd34 => (refine' TV.FDc.mk2 ?l ?a ?c ?k; (case a => k_is); (case l => k_is); (case c => k_is); (case k => k_is))
    case yd35 => (refine' TV.FDc.mk2 ?l ?a ?c ?k; (case a => k_is); (case l => k_is); (case c => k_is); (case k => k_is))
    case yd36 => (refine' TV.FDc.mk2 ?l ?a ?c ?k; (case a => k_is); (case l => k_is); (case c => k_is); (case k => k_is))
    case yd37 => (refine' TV.FDc.mk2 ?l ?a ?c ?k; (case a => k_is); (case l => k_is); (case c => k_is); (case k => k_is))
    case yt0 => exact hT8 _ List.mem_cons_self
    case yn0 => kernel_rfl
    case yc0 => exact PySem.W.codeHd_of_K KX (by kernel_rfl)
    case yz0 => k_is
    case yz1 => k_is
    case yz2 => k_is
    case yz3 => k_is
    case yz4 => k_is
    case yz5 => k_is
    case yz6 => k_is
    case yz7 => k_is
    case yz8 => k_is
    case yz9 => k_is
    case yz10 => k_is
    case yz11 => k_is
    case yz12 => k_is
