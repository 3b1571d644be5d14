import PyProof.Rows.All
import Wide.All
import OpenK.AllK
import Wide.FinOn
import KE.KStateDown
import HandS.ForMost
import HandS.ForExc
import HandS.Defaults
import HandS.Head0
import HandS.Head1
import HandS.Head2
import HandS.HeadEnd
import HandS.HeadHook1
import HandS.HeadHook2
import HandS.HeadHook3
import HandS.HeadHook4
import PySem.Challenge.RW_latekinds_k32_whole_best_and_worst_order
import KE.GoesEnum
import KE.GoesMore
import KE.DataMinMax
import HandS.SetFor
import HandS.TupAny
import HandS.DictComp
import HandS.Codes
import HandS.IsInst
import HandS.Zip
import HandS.CallSlots
import HandS.ReCall
import HandS.Strs
import KE.SortData
import HandS.ExcInit
import HandS.Conv
import HandS.Walk
import KE.KExcSuper
import HandS.Exc
import HandS.ExcField
import HandS.ExcOwn
import HandS.WordsExc
set_option Elab.async false
set_option linter.all false
set_option maxRecDepth 100000
set_option maxHeartbeats 4000000
namespace K32
open PySem PySem.Spec PyProof.Rows L2
/-! the text by places -/
def top (i : Nat) : Stmt := PySem.Challenge.pw_latekinds_k32_whole_best_and_worst_order.main.body.getD i (.Pass ⟨0, 0, 0, 0⟩)
abbrev sIsInteger : Stmt := top 6
abbrev sIsWithin : Stmt := top 7
abbrev sIsLot : Stmt := top 8
abbrev sAreAll : Stmt := top 9
abbrev sCheckMost : Stmt := top 10
abbrev sAreParents : Stmt := top 14
abbrev sBookOf : Stmt := top 16
abbrev sManyOf : Stmt := top 17
abbrev sIsOne : Stmt := top 18
abbrev sReordered : Stmt := top 19
abbrev sEntriesOf : Stmt := top 22
abbrev sGoneThrough : Stmt := top 23
abbrev sPlaced : Stmt := top 24
abbrev sAllOrders : Stmt := top 27
abbrev sMayCome : Stmt := top 28
abbrev sCountsOf : Stmt := top 29
abbrev sBestOrder : Stmt := top 30
abbrev sWorstOrder : Stmt := top 31
abbrev sLPool : Stmt := top 33
abbrev sLDraw : Stmt := top 34
abbrev sLMixed : Stmt := top 35
abbrev sLIsInt : Stmt := top 36
abbrev sLLot : Stmt := top 37
abbrev sLParents : Stmt := top 38
abbrev sLAbove : Stmt := top 39
abbrev sLOrders : Stmt := top 40
abbrev sLGroupsDone : Stmt := top 41
abbrev sLMoved : Stmt := top 42
abbrev sLMostRefused : Stmt := top 43
abbrev sThelaw : Stmt := top 44
abbrev sBookInit : Stmt := inClass (top 15) 0
abbrev sBookFill : Stmt := inClass (top 15) 1
abbrev sGroupsInit : Stmt := inClass (top 21) 0
abbrev sGroupsFitting : Stmt := inClass (top 21) 1
abbrev sGroupsTaken : Stmt := inClass (top 21) 2
abbrev sGroupsPut : Stmt := inClass (top 21) 3
abbrev sTooInit : Stmt := inClass (top 4) 0
def dIsInteger : He.DefD := ⟨("is_integer", none), "is_integer", "is_integer", defArgs sIsInteger, defBody sIsInteger, defScope sIsInteger, [], []⟩
def dIsWithin : He.DefD := ⟨("is_within", none), "is_within", "is_within", defArgs sIsWithin, defBody sIsWithin, defScope sIsWithin, [], []⟩
def dIsLot : He.DefD := ⟨("is_lot", none), "is_lot", "is_lot", defArgs sIsLot, defBody sIsLot, defScope sIsLot, [], []⟩
def dAreAll : He.DefD := ⟨("are_all", none), "are_all", "are_all", defArgs sAreAll, defBody sAreAll, defScope sAreAll, [], []⟩
def dCheckMost : He.DefD := ⟨("check_most", none), "check_most", "check_most", defArgs sCheckMost, defBody sCheckMost, defScope sCheckMost, [], []⟩
def dAreParents : He.DefD := ⟨("are_parents", none), "are_parents", "are_parents", defArgs sAreParents, defBody sAreParents, defScope sAreParents, [], []⟩
def dBookOf : He.DefD := ⟨("book_of", none), "book_of", "book_of", defArgs sBookOf, defBody sBookOf, defScope sBookOf, [], []⟩
def dManyOf : He.DefD := ⟨("many_of", none), "many_of", "many_of", defArgs sManyOf, defBody sManyOf, defScope sManyOf, [], []⟩
def dIsOne : He.DefD := ⟨("is_one", none), "is_one", "is_one", defArgs sIsOne, defBody sIsOne, defScope sIsOne, [], []⟩
def dReordered : He.DefD := ⟨("reordered", none), "reordered", "reordered", defArgs sReordered, defBody sReordered, defScope sReordered, [], []⟩
def dEntriesOf : He.DefD := ⟨("entries_of", none), "entries_of", "entries_of", defArgs sEntriesOf, defBody sEntriesOf, defScope sEntriesOf, [], []⟩
def dGoneThrough : He.DefD := ⟨("gone_through", none), "gone_through", "gone_through", defArgs sGoneThrough, defBody sGoneThrough, defScope sGoneThrough, [], []⟩
def dPlaced : He.DefD := ⟨("placed", none), "placed", "placed", defArgs sPlaced, defBody sPlaced, defScope sPlaced, [], []⟩
def dAllOrders : He.DefD := ⟨("all_orders", none), "all_orders", "all_orders", defArgs sAllOrders, defBody sAllOrders, defScope sAllOrders, [], []⟩
def dMayCome : He.DefD := ⟨("may_come", none), "may_come", "may_come", defArgs sMayCome, defBody sMayCome, defScope sMayCome, [], []⟩
def dCountsOf : He.DefD := ⟨("counts_of", none), "counts_of", "counts_of", defArgs sCountsOf, defBody sCountsOf, defScope sCountsOf, [], []⟩
def dBestOrder : He.DefD := ⟨("best_order", none), "best_order", "best_order", defArgs sBestOrder, defBody sBestOrder, defScope sBestOrder, [], []⟩
def dWorstOrder : He.DefD := ⟨("worst_order", none), "worst_order", "worst_order", defArgs sWorstOrder, defBody sWorstOrder, defScope sWorstOrder, [], []⟩
def dLPool : He.DefD := ⟨("_law_pool", none), "_law_pool", "_law_pool", defArgs sLPool, defBody sLPool, defScope sLPool, [], []⟩
def dLDraw : He.DefD := ⟨("_law_draw", none), "_law_draw", "_law_draw", defArgs sLDraw, defBody sLDraw, defScope sLDraw, [], []⟩
def dLMixed : He.DefD := ⟨("_law_mixed", none), "_law_mixed", "_law_mixed", defArgs sLMixed, defBody sLMixed, defScope sLMixed, [], []⟩
def dLIsInt : He.DefD := ⟨("_law_is_int", none), "_law_is_int", "_law_is_int", defArgs sLIsInt, defBody sLIsInt, defScope sLIsInt, [], []⟩
def dLLot : He.DefD := ⟨("_law_lot", none), "_law_lot", "_law_lot", defArgs sLLot, defBody sLLot, defScope sLLot, [], []⟩
def dLParents : He.DefD := ⟨("_law_parents", none), "_law_parents", "_law_parents", defArgs sLParents, defBody sLParents, defScope sLParents, [], []⟩
def dLAbove : He.DefD := ⟨("_law_above", none), "_law_above", "_law_above", defArgs sLAbove, defBody sLAbove, defScope sLAbove, [], []⟩
def dLOrders : He.DefD := ⟨("_law_orders", none), "_law_orders", "_law_orders", defArgs sLOrders, defBody sLOrders, defScope sLOrders, [], []⟩
def dLGroupsDone : He.DefD := ⟨("_law_groups_done", none), "_law_groups_done", "_law_groups_done", defArgs sLGroupsDone, defBody sLGroupsDone, defScope sLGroupsDone, [], []⟩
def dLMoved : He.DefD := ⟨("_law_moved", none), "_law_moved", "_law_moved", defArgs sLMoved, defBody sLMoved, defScope sLMoved, [], []⟩
def dLMostRefused : He.DefD := ⟨("_law_most_refused", none), "_law_most_refused", "_law_most_refused", defArgs sLMostRefused, defBody sLMostRefused, defScope sLMostRefused, [], []⟩
def dThelaw : He.DefD := ⟨("law", none), "law", "law", defArgs sThelaw, defBody sThelaw, defScope sThelaw, [], []⟩
def dBookInit : He.DefD := ⟨("Book", some "__init__"), "__init__", "Book.__init__", defArgs sBookInit, defBody sBookInit, defScope sBookInit, [], []⟩
def dBookFill : He.DefD := ⟨("Book", some "fill"), "fill", "Book.fill", defArgs sBookFill, defBody sBookFill, defScope sBookFill, [], []⟩
def dGroupsInit : He.DefD := ⟨("Groups", some "__init__"), "__init__", "Groups.__init__", defArgs sGroupsInit, defBody sGroupsInit, defScope sGroupsInit, [], []⟩
def dGroupsFitting : He.DefD := ⟨("Groups", some "fitting"), "fitting", "Groups.fitting", defArgs sGroupsFitting, defBody sGroupsFitting, defScope sGroupsFitting, [], []⟩
def dGroupsTaken : He.DefD := ⟨("Groups", some "taken"), "taken", "Groups.taken", defArgs sGroupsTaken, defBody sGroupsTaken, defScope sGroupsTaken, [], []⟩
def dGroupsPut : He.DefD := ⟨("Groups", some "put"), "put", "Groups.put", defArgs sGroupsPut, defBody sGroupsPut, defScope sGroupsPut, [], []⟩
def fn : List He.DefD := [dIsInteger, dIsWithin, dIsLot, dAreAll, dCheckMost, dAreParents, dBookOf, dManyOf, dIsOne, dReordered, dEntriesOf, dGoneThrough, dPlaced, dAllOrders, dMayCome, dCountsOf, dBestOrder, dWorstOrder, dLPool, dLDraw]
def fn2 : List He.DefD := [dLMixed, dLIsInt, dLLot, dLParents, dLAbove, dLOrders, dLGroupsDone, dLMoved, dLMostRefused, dThelaw, dBookInit, dBookFill, dGroupsInit, dGroupsFitting, dGroupsTaken, dGroupsPut]
def loose1 : List Str := ["__name__", "KindError", "BadBook", "NoOrder", "TooMany", "is_integer", "is_within", "is_lot", "are_all", "check_most", "MOST_KINDS", "MOST_PARENTS", "are_parents", "Book", "book_of", "many_of", "is_one", "reordered", "Groups", "entries_of"]
def loose2 : List Str := ["gone_through", "placed", "MOST_ORDERED", "all_orders", "may_come", "counts_of", "best_order", "worst_order", "_law_pool", "_law_draw", "_law_mixed", "_law_is_int", "_law_lot", "_law_parents", "_law_above", "_law_orders", "_law_groups_done", "_law_moved", "_law_most_refused"]
end K32
set_option Elab.async false
set_option linter.all false
set_option maxRecDepth 100000
set_option maxHeartbeats 4000000
namespace K32
open PySem PySem.Spec L2
open PyProof.Rows hiding St
/-! enumerate(a tuple) walked by a for or a comprehension -/
section
open AutoSeq1 (wpAny_loadPart')
abbrev enuO (i0 : Addr) : Obj := { cls := .type "enumerate", data := .fields #[.none, .bool false, .ref i0, rawInt 0, .none, .none] }
theorem newB {v : Value} {o : Obj} {HB : Heap → Prop} (B : Begins v o HB) :
    Meets (Builtin.«enumerate.__new__» ⟨[.type "enumerate", v], []⟩) (fun _ R s => HB s.heap ∧
      R (.ok (.ret (.ref (s.heap.push o).objs.size))) { s with heap := (s.heap.push o).push (enuO s.heap.objs.size) }) :=
  .of_wp fun prog w A R s hh => by
    obtain ⟨hp, g, d, tk, os⟩ := s
    obtain ⟨hb, hh⟩ := hh
    have hsub := sub_enumerate
    have itq : ∀ {A' : Around} {E : Value → Shared → Prop} {Q : Value → Shared → Prop}, Q (.ref hp.objs.size) ⟨hp.push o, g, d, tk, os⟩ → wpAny (model prog w) A' (pyIter v) Q E ⟨hp, g, d, tk, os⟩ :=
      fun q => B.iter prog w _ _ ⟨hp, g, d, tk, os⟩ _ hb q
    wp_walk using itq
    refine wpAny_stack_any fun st => wpAny_pure ?_
    split
    · rename_i c _ _ _ _ _
      cases (c == Value.type "enumerate")
      all_goals
        wp_walk using itq
        exact ⟨_, rfl, hh⟩
    · wp_walk using itq
      exact ⟨_, rfl, hh⟩
theorem call_enumT {prog : Program} {w : World} {A : Around} {E : Value → Shared → Prop} {s : Shared} {v : Value} {o : Obj} {HB : Heap → Prop} {Q : Value → Shared → Prop} (B : Begins v o HB) (hb : HB s.heap)
    (q : ∀ h', IsEnum h' (s.heap.objs.size + 1) s.heap.objs.size 0 .none → h'.get? s.heap.objs.size = some o → (∀ b u, s.heap.get? b = some u → h'.get? b = some u) → Q (.ref (s.heap.objs.size + 1)) { s with heap := h' }) :
    wpAny (model prog w) A (call (.type "enumerate") [v]) Q E s := by
  refine callType_new F.called_enumerate (by decide) (F.typeCall_enumerate_1 _) (F.newCall_enumerate_1 _) (fun ob => F.args_object_init_2 ob _) F.entry_enumerate_new (newB B) ⟨hb, ?_⟩
  have hz : (s.heap.push o).objs.size = s.heap.objs.size + 1 := Heap.size_push ..
  show _ ∧ _
  rw [hz]
  have he : IsEnum ((s.heap.push o).push (enuO s.heap.objs.size)) (s.heap.objs.size + 1) s.heap.objs.size 0 .none := by
    have z := Heap.get?_push_size (s.heap.push o) (o := enuO s.heap.objs.size) rfl
    rw [hz] at z
    exact z
  exact ⟨⟨_, he, rfl⟩, q _ he (Heap.get?_push_of_some _ (Heap.get?_push_size _ B.free)) fun b u x => Heap.get?_push_of_some _ (Heap.get?_push_of_some _ x)⟩
end
/-- the tuple at a, each item in a new pair with its place -/
def IteT (K : PySem.W.Frag) (a : Addr) : It :=
  ⟨fun i H => ∃ (xs : List V) (x : V), SqT K H a xs ∧ xs[i]? = some x,
   fun i H v H' => ∃ T x, v = .ref T ∧ H T = none ∧ H' = upd H T (.tup [.int (i : Nat), x]) ∧ ∀ xs, SqT K H a xs → xs[i]? = some x,
   fun i H => ∃ xs : List V, SqT K H a xs ∧ xs.length = i⟩
theorem turn_enumT {P : Program} {w : World} {K : PySem.W.Frag} {elts : List Expr} {kk : Nat} {tpos : Pos} (a e it : Addr) :
    Turn P w K (.Tuple elts kk tpos) (IteT K a) [e, it] e (fun i h => (∃ old, IsEnum h e it ((i : Nat) : Int) old) ∧ h.IsTupleIter it a i ∧ e ≠ it) where
  mem := by simp
  obj := fun i h st b hb => by
    obtain ⟨⟨old, he⟩, ⟨o, ho, hc, hd⟩, _⟩ := st
    rcases (by simpa using hb : b = e ∨ b = it) with z | z
    · rw [z]; exact ⟨_, he, fun v q => nomatch q⟩
    · rw [z]; exact ⟨o, ho, fun v q => by rw [hd] at q; cases q⟩
  keep := fun i h h' st k => ⟨let ⟨old, he⟩ := st.1; ⟨old, k e (by simp) _ he⟩, st.2.1.at fun o q => k it (by simp) o q, st.2.2⟩
  item := by
    intro X hP hw hK hc i pins s σ H E I hf st hg
    subst hP hw hK
    obtain ⟨⟨old, he⟩, hit, hne⟩ := st
    obtain ⟨xs, x, hq, hx⟩ := hg
    obtain ⟨its, rv, p, hz⟩ := I.tuple hq
    have htup : s.heap.IsTuple a its.toArray := p
    have hel : e < s.heap.objs.size := Heap.lt_size he
    have hil : it < s.heap.objs.size := by
      obtain ⟨_, q, _⟩ := hit
      exact Heap.lt_size q
    have hae : e ≠ a := fun z => by
      obtain ⟨o, ho, hcl, _⟩ := p
      rw [← z, he] at ho
      cases ho
      exact absurd (show Value.type "enumerate" = .type "tuple" from hcl) (by decide)
    have hai : a ≠ it := fun z => by
      obtain ⟨o, ho, hcl, _⟩ := p
      obtain ⟨o2, ho2, hcl2, _⟩ := hit
      rw [z, ho2] at ho
      cases ho
      rw [hcl2] at hcl
      exact absurd hcl (by decide)
    have hlen : its.toArray.size = xs.length := by simpa using rv.length.symm
    have hlt : i < its.toArray.size := by
      rw [hlen]
      exact (List.getElem?_eq_some_iff.mp hx).1
    refine wpAny_pyNext_enum_itemD (Draws.tuple (A := X.A.in1) (I.ok.hd hc) it a hai its.toArray) he ⟨hit, htup⟩ hlt hne (by simp [hne, hae]) fun u h' tk hu ho hst' hT hsz hk => ?_
    obtain ⟨u0, hu0, ru⟩ := rv.get hx
    obtain rfl : u = u0 := by
      have z : its.toArray[i]? = some u := hu
      rw [List.getElem?_toArray, hu0] at z
      exact (Option.some.inj z).symm
    refine ⟨_, rfl, wpAny_letOwnedTupleGo_enum (s := { s with heap := h', toks := tk + 1 }) ho fun h'' he' sb => ?_⟩
    have hT2 : h''.get? s.heap.objs.size = some { cls := .type "tuple", data := .seq #[.int i tk, u] } := (sb.2 _ (Nat.ne_of_gt hel)).trans hT
    have fresh : ObjOk X.prog X.w (upd H s.heap.objs.size (.tup [.int (i : Nat), x])) h'' s.heap.objs.size (.tup [.int (i : Nat), x]) :=
      ⟨by show 2 ≤ sizeLine; decide, [.int i tk, u], .cons ⟨_, rfl⟩ (.cons ru .nil), ⟨_, hT2, rfl, _, rfl⟩⟩
    have I1 : Inv X pins σ (upd H s.heap.objs.size (.tup [.int (i : Nat), x])) { s with heap := h'', toks := tk + 1 } :=
      I.turnedNew (ch := [e, it]) (fun b ob hb q => (sb.2 b (fun z => hb (by simp [z]))).trans (hk b ob (fun z => hb (by simp [z])) (fun z => hb (by simp [z])) q)) hf (Nat.le_refl _) fresh
    refine ⟨.ref s.heap.objs.size, _, I1, rfl, ⟨_, x, rfl, I.hok.fresh (Nat.le_refl _), rfl, fun ys hy => by rw [I.tuple_inj hy hq]; exact hx⟩, ⟨⟨u, ?_⟩, hst'.1.at fun o q => (sb.2 it (Ne.symm hne)).trans q, hne⟩, fun b hb => ?_⟩
    · rw [show ((i + 1 : Nat) : Int) = (i : Int) + 1 by omega]
      exact he'
    · have hb' : b < s.heap.objs.size := by
        rcases (by simpa using hb : b = e ∨ b = it) with z | z
        · exact z ▸ hel
        · exact z ▸ hil
      rw [upd_ne (Nat.ne_of_lt hb')]
      exact (hf b hb).1
  done := by
    intro X hP hw hK hc i pins s σ H E I hf st hg
    subst hP hw hK
    obtain ⟨⟨old, he⟩, hit, hne⟩ := st
    obtain ⟨xs, hq, hx⟩ := hg
    obtain ⟨its, rv, p, hz⟩ := I.tuple hq
    obtain ⟨f0, f1, f2, f3, f4, f5⟩ := hf it (by simp)
    have htup : s.heap.IsTuple a its.toArray := p
    have hai : a ≠ it := fun z => by
      obtain ⟨o, ho, hcl, _⟩ := p
      obtain ⟨o2, ho2, hcl2, _⟩ := hit
      rw [z, ho2] at ho
      cases ho
      rw [hcl2] at hcl
      exact absurd hcl (by decide)
    have hn : i = its.toArray.size := by
      rw [List.size_toArray, ← rv.length]
      exact hx.symm
    exact wpAny_pyNext_enum_endD (Draws.tuple (A := X.A.in1) (I.ok.hd hc) it a hai its.toArray) he (by rw [← hn]; exact ⟨hit, htup⟩) fun h' eb => ⟨rfl, I.turned (t' := s.toks) (fun b o hb q => eb b o hb q) f0 f1 f3 f4 f5⟩
  self := fun A i s Q E st h => wpAny_pyIter_enum st.1.choose_spec h
def iEnumT (K : PySem.W.Frag) (ta : TA) : TI := fun σ H R => ta σ H fun vs H1 => ∃ a xs, vs = [.ref a] ∧ SqT K H1 a xs ∧ R (IteT K a) H1
theorem pi_enumT {X : Cx} {e : Expr} {ta : TA} {p pos tpos : Pos} {elts : List Expr} {kk : Nat} (hg : Gl X "enumerate") (hm : X.mg "enumerate" = none) (ha : PA X [e] ta) (hs : starEach [e] X.env = [(false, eval e X.env)] := by rfl) :
    PI X (.Tuple elts kk tpos) (.Call (.Name "enumerate" p) [e] [] pos) (iEnumT X.K ta) := by
  refine ⟨fun pins s σ H R I h => ?_⟩
  refine Call_ (ld_blt I hg hm boot_enumerate (PyProof.Rows.callWith_type1 (thn (ha.run pos pins s σ H _ I h) fun us s1 ⟨vs, H1, I1, r1, a, xs, ex, hq, q⟩ => ?_) hs rfl))
  subst ex
  cases r1 with
  | cons r rr =>
    cases rr
    cases r
    obtain ⟨its, rv, pt, hz⟩ := I1.tuple hq
    refine call_enumT (begins_tuple a its.toArray) (show s1.heap.IsTuple a its.toArray from pt) fun h' he hit hk => wpAny_pyIter_enum he ?_
    refine ⟨s1.heap.objs.size + 1, [s1.heap.objs.size + 1, s1.heap.objs.size], _, _, H1, rfl, I1.kept (t' := s1.toks) hk, turn_enumT a _ _, ⟨⟨.none, he⟩, ⟨_, hit, rfl, rfl⟩, Nat.succ_ne_self _⟩, fun b hb => ?_, q⟩
    have hle : s1.heap.objs.size ≤ b := by
      rcases (by simpa using hb : b = s1.heap.objs.size + 1 ∨ b = s1.heap.objs.size) with z | z <;> rw [z]
      exact Nat.le_add_right _ _
      exact Nat.le_refl _
    exact I1.fpOk hle (I1.hok.fresh hle)
/-- a for over it -/
theorem for_enumT {K : PySem.W.Frag} {a : Addr} {xs : List V} {g : TG} {tb : TS} {D : Ends} {σ : St} {H : Hp} (Pv : Nat → St → Hp → Prop) (h0 : Pv 0 σ H) (hl : ∀ i σ H, i ≤ xs.length → Pv i σ H → SqT K H a xs)
    (hs : ∀ i x σ H T, xs[i]? = some x → Pv i σ H → H T = none → g (.ref T) σ (upd H T (.tup [.int (i : Nat), x])) fun σ2 H2 => tb { D with nx := Pv (i + 1), ct := Pv (i + 1), bk := D.nx } σ2 H2) (hd : ∀ σ H, Pv xs.length σ H → D.nx σ H) :
    ∃ W : Nat → Nat → St → Hp → Prop, (∃ m, W 0 m σ H) ∧ ∀ i m σ H, W i m σ H →
      ((IteT K a).stop i H ∧ D.nx σ H) ∨ ((IteT K a).go i H ∧ ∃ N : St → Hp → Prop, (∀ σ' H', N σ' H' → ∃ m', m' < m ∧ W (i + 1) m' σ' H') ∧ ∀ x H', (IteT K a).yld i H x H' → g x σ H' fun σ2 H2 => tb { D with nx := N, ct := N, bk := D.nx } σ2 H2) := by
  refine ⟨fun i m σ H => m = xs.length - i ∧ i ≤ xs.length ∧ Pv i σ H, ⟨xs.length, rfl, Nat.zero_le _, h0⟩, ?_⟩
  rintro i m σ H ⟨rfl, hi, p⟩
  have q := hl i σ H hi p
  by_cases hlt : i < xs.length
  · refine .inr ⟨⟨xs, xs[i], q, by simp [hlt]⟩, Pv (i + 1), fun σ' H' p' => ⟨_, by omega, rfl, hlt, p'⟩, fun x H' y => ?_⟩
    obtain ⟨T, z, rfl, hT, rfl, hz⟩ := y
    exact hs i z σ _ T (hz xs q) p hT
  · obtain rfl : i = xs.length := by omega
    exact .inl ⟨⟨xs, q, rfl⟩, hd σ H p⟩
/-- a for over enumerate(a list) that the body leaves as it is -/
theorem for_enumL {K : PySem.W.Frag} {a : Addr} {xs : List V} {g : TG} {tb : TS} {D : Ends} {σ : St} {H : Hp} (Pv : Nat → St → Hp → Prop) (h0 : Pv 0 σ H) (hl : ∀ i σ H, i ≤ xs.length → Pv i σ H → SqL K H a xs)
    (hs : ∀ i x σ H T, xs[i]? = some x → Pv i σ H → H T = none → g (.ref T) σ (upd H T (.tup [.int (i : Nat), x])) fun σ2 H2 => tb { D with nx := Pv (i + 1), ct := Pv (i + 1), bk := D.nx } σ2 H2) (hd : ∀ σ H, Pv xs.length σ H → D.nx σ H) :
    ∃ W : Nat → Nat → St → Hp → Prop, (∃ m, W 0 m σ H) ∧ ∀ i m σ H, W i m σ H →
      ((Ite K a).stop i H ∧ D.nx σ H) ∨ ((Ite K a).go i H ∧ ∃ N : St → Hp → Prop, (∀ σ' H', N σ' H' → ∃ m', m' < m ∧ W (i + 1) m' σ' H') ∧ ∀ x H', (Ite K a).yld i H x H' → g x σ H' fun σ2 H2 => tb { D with nx := N, ct := N, bk := D.nx } σ2 H2) := by
  refine ⟨fun i m σ H => m = xs.length - i ∧ i ≤ xs.length ∧ Pv i σ H, ⟨xs.length, rfl, Nat.zero_le _, h0⟩, ?_⟩
  rintro i m σ H ⟨rfl, hi, p⟩
  have q := hl i σ H hi p
  by_cases hlt : i < xs.length
  · refine .inr ⟨⟨xs, xs[i], q, by simp [hlt]⟩, Pv (i + 1), fun σ' H' p' => ⟨_, by omega, rfl, hlt, p'⟩, fun x H' y => ?_⟩
    obtain ⟨T, z, rfl, hT, rfl, hz⟩ := y
    exact hs i z σ _ T (hz xs q) p hT
  · obtain rfl : i = xs.length := by omega
    exact .inl ⟨⟨xs, q, Nat.le_refl _⟩, hd σ H p⟩
end K32
set_option Elab.async false
set_option linter.all false
set_option maxRecDepth 100000
set_option maxHeartbeats 4000000
namespace K32
open PySem PySem.Spec L2
open PyProof.Rows hiding St
/-! min of a list of data, nested: one that is least -/
def rMinD (K : PySem.W.Frag) : List V → Hp → VK → Prop := fun vs H Q => ∃ (a : Addr) (xs : List V) (d : PyData) (ds : List PyData), vs = [V.ref a] ∧ SqL K H a xs ∧ DpAll K H xs (d :: ds) ∧ PySem.W.AlikeAll (d :: ds) ∧ PyData.depthAll (d :: ds) ≤ 40 ∧
  ∀ (i : Nat) (v : V), xs[i]? = some v → (d :: ds)[i]? = some (PySem.W.minD d ds) → Q v H
theorem cr_minD {X : Cx} (hc : X.calm = true) (hu : X.A.units + 64 < cLine) : CallR X (.builtin "min") (rMinD X.K) := by
  intro pins s σ H vs us Q I r h
  obtain ⟨a, xs, d, ds, rfl, hs, hd, ha, hdep, q⟩ := h
  obtain ⟨its, rv, hl, _⟩ := I.list hs
  rw [Vals.ref1 r]
  obtain ⟨as, hr⟩ := Dp.readsAll I (d :: ds) xs its hd rv
  have hn : its.toArray.size = ds.length + 1 := PySem.W.readsAll_len (by simpa using hr)
  have hr' : ReadsAll s.heap its.toArray.toList (d :: ds) as := by simpa using hr
  refine call_min_walkH (PySem.W.iter_listW (A := X.A.in1) (I.ok.hd hc) hl.isList fun s2 e W st hfp hw hk => ?_)
  refine ⟨_, _, _, _, _, _, _, s.heap, _, rfl, W, st, hfp, by omega, hw, hk, PySem.W.cmpIn_lt (A := X.A.in1) hr' ha (by show X.A.units + 1 + _ < _; omega), fun v s' hP m => ?_⟩
  obtain ⟨h', tk, rfl, hk'⟩ := PySem.W.moved_old e rfl m
  obtain ⟨b1, b2⟩ := PySem.W.argBest_fold PySem.W.dataLt PyData.none d ds ds.length (Nat.le_refl _)
  rw [List.take_length] at b2
  have e1 : its.toArray.size - 1 = ds.length := by omega
  rw [e1] at hP
  generalize hi : argBest (fun i j => PySem.W.dataLt ((d :: ds).getD i .none) ((d :: ds).getD j .none)) ds.length = i at hP b2
  have hil : i < (d :: ds).length := (PySem.W.readsAll_atA hr' i v hP).choose_spec.2.1
  have hlen : xs.length = its.length := rv.length
  have hiu : its[i]? = some v := by simpa using hP
  have hix : i < xs.length := by
    rw [hlen]
    exact (List.getElem?_eq_some_iff.mp hiu).1
  obtain ⟨u, hu2, ru⟩ := rv.get (List.getElem?_eq_getElem hix)
  rw [hiu] at hu2
  cases hu2
  refine ⟨xs[i], H, I.kept hk', ru, q i _ (List.getElem?_eq_getElem hix) ?_⟩
  rw [List.getElem?_eq_getElem hil]
  have e3 : (d :: ds).getD i .none = (d :: ds)[i] := by rw [List.getD_eq_getElem?_getD, List.getElem?_eq_getElem hil]; rfl
  rw [← e3, b2]
  rfl
/-! len(set(t)), t a tuple of ints -/
def tLenSetT (K : PySem.W.Frag) (ta : TE) : TE := fun σ H Q => ta σ H fun x H1 => ∃ (l : Addr) (ns : List Int), x = V.ref l ∧ SqT K H1 l (ns.map V.int) ∧ ns.length ≤ 1000 ∧ ∀ ks : List Int, ks.Nodup → (∀ k, k ∈ ks ↔ k ∈ ns) → Q (.int (ks.length : Nat)) H1
theorem pe_lenSetT {X : Cx} {a : Expr} {ta : TE} {p p2 q pos : Pos} (hg : Gl X "len") (hm : X.mg "len" = none) (hg2 : Gl X "set") (hm2 : X.mg "set" = none) (ha : PE X a ta) (hc : X.calm = true := by rfl)
    (na : starEach [a] X.env = (false, eval a X.env) :: starEach [] X.env := by rfl) : PE X (.Call (.Name "len" p) [.Call (.Name "set" p2) [a] [] q] [] pos) (tLenSetT X.K ta) := by
  refine ⟨fun pins s σ H Q I h => Call_ (ld_blt I hg hm boot_len ?_)⟩
  refine callWith_builtin1 (args_cons ?_ rfl) rfl rfl
  refine Call_ (ld_blt I hg2 hm2 boot_set ?_)
  refine callWith_type1 (args_cons (thn (ha.run pins s σ H _ I h) fun v s1 ⟨x, H1, I1, r1, l, ns, ex, hq, hl, q1⟩ => args_nil ?_) na) na rfl
  subst ex
  cases r1
  obtain ⟨its, r, pt, hz⟩ := I1.tuple hq
  have hi : IntsAre its.toArray.toList ns := by simpa using intsAre_of r
  refine call_set_tupI ns (I1.ok.hd hc) (show s1.heap.IsTuple l its.toArray from pt) hi (by unfold scanBound; omega) fun h' tk c hS hcn hk => args_nil ?_
  obtain ⟨o, es, ep, t, ho, hex, hdt, g, nd, hm2, hb, hf, hn, _⟩ := hS
  have I2 : Inv X pins σ H1 { s1 with heap := h', toks := tk } := I1.kept hk
  refine call_len_set ho hex hdt hf (by rw [hn]; omega) ⟨.int es.size, H1, I2.tok _, ⟨_, rfl⟩, ?_⟩
  have z := q1 (es.toList.map _) nd fun k => by rw [← hm2 k, decide_eq_true_eq]
  rw [List.length_map, Array.length_toList] at z
  exact z
end K32
set_option Elab.async false
set_option linter.all false
set_option maxRecDepth 100000
set_option maxHeartbeats 4000000
namespace K32
open PySem PySem.Spec L2
open PyProof.Rows hiding St
/-! d.update(e), both tracked dicts -/
def rDupd : V → List V → Hp → VK → Prop := fun x xs H Q => ∃ (d o : Addr) (kvs more : List (L2.Key × V)), x = .ref d ∧ xs = [.ref o] ∧ d ≠ o ∧ H d = some (.dK kvs) ∧ H o = some (.dK more) ∧ kvs.length + more.length ≤ sizeLine ∧ Q .non (upd H d (.dK (mergeK kvs more)))
theorem mt_dupd {X : Cx} : MtR X "dict.update" rDupd := by
  intro pins s σ H x xs v us Q I rx rs h
  obtain ⟨d, o, kvs, more, rfl, rfl, hne, hd, ho, hz, q⟩ := h
  cases rx
  obtain ⟨u, rfl, ru⟩ := vals1 rs
  cases ru
  obtain ⟨z1, m1, vs, rel, dd⟩ := dk_of I.hok hd
  obtain ⟨z2, m2, ws, rel2, dd2⟩ := dk_of I.hok ho
  have hz' : vs.length + ws.length ≤ sizeLine := by
    rw [← rel.length, ← rel2.length]
    exact hz
  refine call_meetsIn PySem.F.slot_dict_update dd.typeIs PySem.F.entry_dict_update (PySem.F.args_dict_update_2 _ _) (meets_dict_update (mixKind X.prog X.w) d o hne m2) ⟨vs, ws, dd, dd2, hz', fun h' dd' _ hs => ?_⟩
  have he : ∃ q, h'.get? d = some q := let ⟨q, _, _, hq, _⟩ := dd'; ⟨q, hq⟩
  have hl : (mergeK kvs more).length ≤ sizeLine := by
    have rm : KV (mergeK kvs more) (merged vs ws) := KV.merge rel2 rel
    rw [rm.length]
    exact Nat.le_trans (merged_length_le vs ws) hz'
  exact ⟨.non, _, d_write (t' := s.toks) I (by rw [hd]; exact True.intro) hs he (dk_new hl m1 (KV.merge rel2 rel) dd'), rfl, q⟩
/-! tuples of which it is known that no dict hangs on them -/
def TFz (H : Hp) (a : Addr) (xs : List V) : Prop := ∃ o : Obj, H a = some (.frz o (.tup xs)) ∧ o.dict = none
theorem TFz.sq {K : PySem.W.Frag} {H : Hp} {a : Addr} {xs : List V} (h : TFz H a xs) : SqT K H a xs := .inl (.inr ⟨_, h.choose_spec.1⟩)
def tTupF (t : TA) : TE := fun σ H Q => t σ H fun xs H1 => xs.length ≤ sizeLine ∧ ∀ p o, H1 p = none → o.dict = none → Q (.ref p) (upd H1 p (.frz o (.tup xs)))
section
variable {X : Cx} {pos : Pos}
theorem pe_tupF {x1} {es : List Expr} {t : TA} (h : PA X es t) : PE X (.Tuple es x1 pos) (tTupF t) := by
  refine ⟨fun pins s σ H Q I hq => ?_⟩
  refine wpAny_Tuple_spliced (thn (h.run pos pins s σ H _ I hq) fun us s1 ⟨xs, H1, I1, r, z, q⟩ => ⟨by rw [← r.length]; exact z, ?_⟩)
  have hg := Heap.get?_push_size s1.heap (o := { cls := .type "tuple", data := .seq us.toArray }) rfl
  refine ⟨.ref s1.heap.objs.size, upd H1 s1.heap.objs.size (.frz { cls := .type "tuple", data := .seq us.toArray } (.tup xs)), I1.laid (t' := s1.toks) (fun b u e => Heap.get?_push_of_some _ e) (Nat.le_refl _) ?_, rfl, q _ _ (I1.hok.fresh (Nat.le_refl _)) rfl⟩
  exact ⟨hg, z, us, r, ⟨_, hg, rfl, _, rfl⟩⟩
/-- t + u, u such a tuple: if t is empty u itself; else a new one -/
def rCatF (K : PySem.W.Frag) : R2 := fun x y H Q => ∃ a b xs ys, x = .ref a ∧ y = .ref b ∧ SqT K H a xs ∧ SqT K H b ys ∧ xs.length + ys.length ≤ sizeLine ∧ ys ≠ [] ∧
  (xs = [] → Q (.ref b) H) ∧ (xs ≠ [] → ∀ p o, H p = none → o.dict = none → Q (.ref p) (upd H p (.frz o (.tup (xs ++ ys)))))
theorem op_catF : OpR X (binaryOp .Add) (rCatF X.K) := by
  intro pins s σ H x y v u Q I rx ry h
  obtain ⟨a, b, xs, ys, rfl, rfl, ha, hb, hz, hy, q0, q2⟩ := h
  by_cases hx : xs = []
  · exact op_catA pins s σ H _ _ v u Q I rx ry ⟨a, b, xs, ys, rfl, rfl, ha, hb, hz, q0, fun z => absurd hx z, fun z => absurd hx z⟩
  · cases rx
    cases ry
    obtain ⟨its, r1, p1, _⟩ := I.tuple ha
    obtain ⟨its2, r2, p2, _⟩ := I.tuple hb
    refine HT.cat_tup p1 p2 (fun z => hx (r1.nil_iff.mp z)) (fun z => absurd (r2.nil_iff.mp z) hy) (fun z => ?_) (by rw [← r1.length, ← r2.length]; exact hz)
    have hg := Heap.get?_push_size s.heap (o := { cls := .type "tuple", data := .seq (its ++ its2).toArray }) rfl
    refine ⟨.ref s.heap.objs.size, upd H s.heap.objs.size (.frz { cls := .type "tuple", data := .seq (its ++ its2).toArray } (.tup (xs ++ ys))), I.laid (t' := s.toks) (fun b ob q => Heap.get?_push_of_some _ q) (Nat.le_refl _) ?_, rfl, q2 hx _ _ (I.hok.fresh (Nat.le_refl _)) rfl⟩
    exact ⟨hg, by rw [List.length_append]; exact hz, its ++ its2, r1.append r2, ⟨_, hg, rfl, _, rfl⟩⟩
/-! t.index(n), t such a tuple of ints -/
def tyTF (x : V) (H : Hp) : Prop := ∃ a xs, x = .ref a ∧ TFz H a xs
theorem ty_TF : TyOk X "tuple" tyTF := by
  intro pins σ H s x v I r ty
  obtain ⟨a, xs, rfl, o, ha, hd⟩ := ty
  cases r
  obtain ⟨ho, _, its, _, o2, ho2, hc, _⟩ := (show ObjOk X.prog X.w H s.heap a (.frz o (.tup xs)) from I.hok a _ ha)
  refine ⟨⟨o2, ho2, hc⟩, fun b e => ?_⟩
  cases e
  exact ⟨o, ho, hd⟩
theorem flat_ints (ns : List Int) : (ns.map V.int).all flatV = true := by
  rw [List.all_map]
  exact List.all_eq_true.mpr fun _ _ => rfl
def rTupIx (K : PySem.W.Frag) : V → List V → Hp → VK → Prop := fun x xs H Q => ∃ (p : Addr) (ns : List Int) (k : Int) (j : Nat), x = .ref p ∧ xs = [.int k] ∧ SqT K H p (ns.map V.int) ∧ ns[j]? = some k ∧ (∀ m, m < j → ns[m]? ≠ some k) ∧ Q (.int (j : Nat)) H
theorem mt_tupIx : MtR X "tuple.index" (rTupIx X.K) := by
  intro pins s σ H x xs v us Q I rx rs h
  obtain ⟨p, ns, k, j, rfl, rfl, hq, hy, hno, q⟩ := h
  cases rx
  obtain ⟨u, rfl, t, rfl⟩ := vals1 rs
  obtain ⟨its, r, ⟨⟨cls, dd, dt, sl⟩, ho, hc, n, hd⟩, hz⟩ := I.tuple hq
  simp only at hc hd
  subst hc hd
  have hl : its.toArray.size = ns.length := by rw [List.size_toArray, ← r.length, List.length_map]
  have hj : j < its.toArray.size := by
    rw [hl]
    exact (List.getElem?_eq_some_iff.mp hy).1
  have at' : ∀ (m : Nat) (hm : m < its.toArray.size), ∃ y t', ns[m]? = some y ∧ its.toArray[m] = Value.int y t' := fun m hm => by
    have hm' : m < ns.length := hl ▸ hm
    obtain ⟨w, hw, t', hw'⟩ := r.get (i := m) (x := .int ns[m]) (by simp [hm'])
    refine ⟨ns[m], t', List.getElem?_eq_getElem hm', ?_⟩
    have e := (List.getElem?_eq_some_iff.mp hw).2
    rw [← hw', ← e]
    simp
  refine call_meets PySem.F.slot_tuple_index ⟨_, ho, rfl⟩ PySem.F.entry_tuple_index (PySem.F.args_tuple_index_2 _ _) (TI.tuple_indexAt p its.toArray n dd sl (.int k t) (eqU (.int k)) j hj ?_ ?_)
    ⟨ho, fun w hw => mem_eqAt (x := .int k) ⟨t, rfl⟩ rfl r (flat_ints ns) w (by simpa using hw), ⟨.int (j : Nat), H, I.tok _, ⟨_, rfl⟩, q⟩⟩
  · obtain ⟨y, t', h1, h2⟩ := at' j hj
    rw [hy] at h1
    cases h1
    rw [h2]
    show (k == k) = true
    exact beq_self_eq_true k
  · intro m hm hmj
    obtain ⟨y, t', h1, h2⟩ := at' m hm
    rw [h2]
    show (y == k) = false
    exact beq_eq_false_iff_ne.mpr fun e => hno m hmj (e ▸ h1)
/-! f(e, ..) where f is any expression whose value is one of some defs with one promise -/
def tCallW (C : Addr → Prop) (sp : Sp) (E : St → XK) (tf : TE) (t : TA) : TE := fun σ H Q => tf σ H fun v H1 => ∃ a, v = .ref a ∧ C a ∧ t σ H1 fun vs H2 => sp vs H2 Q (E σ)
theorem pe_callW {CX : CXT} {k : Nat} {C : Addr → Prop} {sp : Sp} {E : St → XK} {f e : Expr} {es : List Expr} {tf : TE} {t : TA}
    (hC : ∀ a, C a → ∃ (fd : FuncData) (ps : List Str), FnOk X.prog X.w X.K X.mg X.base CX k a fd ps sp ∧ PySem.W.keepIn X.K (.ref a) = true ∧ Binds X.K fd ps []) (hr : Room k X.A) (hx : ∀ σ, PassesAt CX X σ (E σ)) (hf : PE X f tf) (ha : PA X (e :: es) t)
    (hev : eval (.Call f (e :: es) [] pos) X.env = (do callWith pos (← eval f X.env) [] (backTo pos (starEach (e :: es) X.env)) (backToKw pos (keywordEach [] X.env))) := by rfl)
    (he : starEach (e :: es) X.env = (false, eval e X.env) :: starEach es X.env := by rfl) (hpl : (backTo pos (starEach es X.env)).any (·.1) = false := by rfl) :
    PE X (.Call f (e :: es) [] pos) (tCallW C sp E tf t) := by
  refine ⟨fun pins s σ H Q I h => Call_ (thn (hf.run pins s σ H _ I h) fun v s1 ⟨x, H1, I1, r1, a, ex, ca, q1⟩ => ?_) hev⟩
  subst ex
  cases r1
  obtain ⟨fd, ps, F, kp, b⟩ := hC a ca
  refine PySem.W.callWith_K (h₀ := X.base) I.ok.mod.kin kp (thn (ha.run pos pins s1 σ H1 _ I1 q1) fun us s2 ⟨vs, H2, I2, r, q⟩ => ⟨I2.kIn, ?_⟩) he hpl
  exact run_fnSD F hr b .nil (hx σ) I2 r (by rw [List.append_nil]; exact q)
end
end K32
set_option Elab.async false
set_option linter.all false
set_option maxRecDepth 100000
set_option maxHeartbeats 4000000
namespace K32
open PySem PySem.W
open PyProof.Rows (itemOrd itemLt)
/-! the order of data: least items, pairs -/
theorem dl_irr (x : PyData) : dataLt x x = false := PyProof.Rows.lex_irrefl (O := itemOrd) _
theorem dl_tr {x y z : PyData} (h1 : dataLt x y = true) (h2 : dataLt y z = true) : dataLt x z = true := PyProof.Rows.lex_trans (O := itemOrd) _ _ _ h1 h2
theorem foldMin (xs : List PyData) : ∀ (x : PyData) (seen : List PyData), x ∈ seen → (∀ y ∈ seen, dataLt y x = false) →
    (xs.foldl (fun a y => if dataLt y a then y else a) x) ∈ seen ++ xs ∧ ∀ y ∈ seen ++ xs, dataLt y (xs.foldl (fun a y => if dataLt y a then y else a) x) = false := by
  induction xs with
  | nil =>
    intro x seen hx hl
    simpa using ⟨hx, hl⟩
  | cons z r ih =>
    intro x seen hx hl
    have key := ih (if dataLt z x then z else x) (seen ++ [z]) (by split <;> simp [hx]) (by
      intro y hy
      rcases List.mem_append.mp hy with hy | hy
      · split
        · rename_i hz
          cases e : dataLt y z with
          | false => rfl
          | true =>
            have c := dl_tr e hz
            rw [hl y hy] at c
            cases c
        · exact hl y hy
      · obtain rfl : y = z := by simpa using hy
        split
        · exact dl_irr _
        · rename_i hz
          simpa using hz)
    simpa [List.append_assoc] using key
theorem minD_mem (x : PyData) (xs : List PyData) : minD x xs ∈ x :: xs := by
  unfold minD
  simpa using (foldMin xs x [x] (by simp) (fun y hy => by rw [List.mem_singleton.mp hy]; exact dl_irr _)).1
theorem minD_le (x : PyData) (xs : List PyData) : ∀ y ∈ x :: xs, dataLt y (minD x xs) = false := by
  unfold minD
  simpa using (foldMin xs x [x] (by simp) (fun y hy => by rw [List.mem_singleton.mp hy]; exact dl_irr _)).2
/-- a tuple of ints; a number and an order -/
def IT (o : List Nat) : PyData := .tuple (o.map fun n : Nat => PyData.int (n : Int))
def PD (c : Nat) (o : List Nat) : PyData := .tuple [.int c, IT o]
theorem toksInj : ∀ (o o' : List Nat), keyToksAll (o.map fun n : Nat => PyData.int (n : Int)) = keyToksAll (o'.map fun n : Nat => PyData.int (n : Int)) → o = o'
  | [], [], _ => rfl
  | [], y :: t, h => by simp [keyToksAll, keyToks] at h
  | x :: r, [], h => by simp [keyToksAll, keyToks] at h
  | x :: r, y :: t, h => by
    simp only [List.map_cons, keyToksAll, keyToks, List.cons_append, List.nil_append, List.cons.injEq, Sum.inl.injEq, true_and] at h
    obtain ⟨h1, h2⟩ := h
    rw [toksInj r t h2, Int.ofNat_inj.mp h1]
theorem IT_tot {o o' : List Nat} (h1 : dataLt (IT o) (IT o') = false) (h2 : dataLt (IT o') (IT o) = false) : o = o' := by
  have e := PyProof.Rows.lex_total (O := itemOrd) _ _ h1 h2
  refine toksInj o o' ?_
  simpa only [IT, keyToks] using e
theorem alikeIT : ∀ (o o' : List Nat), alikeAll (o.map fun n : Nat => PyData.int (n : Int)) (o'.map fun n : Nat => PyData.int (n : Int)) = true
  | [], _ => by simp [alikeAll]
  | _ :: _, [] => by simp [alikeAll]
  | x :: r, y :: t => by simp [alikeAll, alike, alikeIT r t]
theorem eqvIT : ∀ (o o' : List Nat), PyData.eqvAll (o.map fun n : Nat => PyData.int (n : Int)) (o'.map fun n : Nat => PyData.int (n : Int)) = true → o = o'
  | [], [], _ => rfl
  | [], y :: t, h => by simp [PyData.eqvAll] at h
  | x :: r, [], h => by simp [PyData.eqvAll] at h
  | x :: r, y :: t, h => by
    simp only [List.map_cons, PyData.eqvAll, PyData.eqv, Bool.and_eq_true, beq_iff_eq] at h
    rw [eqvIT r t h.2, Int.ofNat_inj.mp h.1]
theorem eqvRefl : ∀ (o : List Nat), PyData.eqvAll (o.map fun n : Nat => PyData.int (n : Int)) (o.map fun n : Nat => PyData.int (n : Int)) = true
  | [] => rfl
  | x :: r => by simp [PyData.eqvAll, PyData.eqv, eqvRefl r]
theorem eqvPD (c : Nat) (o : List Nat) : PyData.eqv (PD c o) (PD c o) = true := by
  simp [PD, IT, PyData.eqv, PyData.eqvAll, eqvRefl]
theorem alikeIT' (o o' : List Nat) : alike (IT o) (IT o') = true := by simp [IT, alike, alikeIT]
theorem PD_lt {a b : Nat} (o o' : List Nat) : dataLt (PD a o) (PD b o') = (decide (a < b) || (decide (a = b) && dataLt (IT o) (IT o'))) := by
  unfold PD
  rw [dataLt_tuple, dataLt_cons (by simp [alike])]
  by_cases h : a = b
  · subst h
    rw [if_pos (by simp [PyData.eqv]), dataLt_cons (alikeIT' o o')]
    by_cases e : PyData.eqv (IT o) (IT o') = true
    · rw [if_pos e]
      have eo : o = o' := eqvIT o o' (by simpa [IT, PyData.eqv] using e)
      subst eo
      rw [dl_irr, PyProof.Rows.lex_irrefl (O := itemOrd)]
      simp
    · rw [if_neg e]
      simp
  · rw [if_neg (by simp [PyData.eqv]; omega)]
    simp [dataLt, keyToks, PyProof.Rows.lexLt, itemLt, h]
theorem alikeP (l : List (Nat × List Nat)) : AlikeAll (l.map fun p => PD p.1 p.2) := by
  refine ⟨fun x hx y hy => ?_, fun x hx => ?_⟩
  · obtain ⟨p, _, rfl⟩ := List.mem_map.mp hx
    obtain ⟨q, _, rfl⟩ := List.mem_map.mp hy
    simp [PD, alike, alikeAll, alikeIT']
  · obtain ⟨p, _, rfl⟩ := List.mem_map.mp hx
    simp [PD]
theorem alikeI (l : List (List Nat)) : AlikeAll (l.map IT) := by
  refine ⟨fun x hx y hy => ?_, fun x hx => ?_⟩
  · obtain ⟨p, _, rfl⟩ := List.mem_map.mp hx
    obtain ⟨q, _, rfl⟩ := List.mem_map.mp hy
    exact alikeIT' p q
  · obtain ⟨p, _, rfl⟩ := List.mem_map.mp hx
    simp [IT]
theorem depI : ∀ (o : List Nat), PyData.depthAll (o.map fun n : Nat => PyData.int (n : Int)) ≤ 1
  | [] => by simp [PyData.depthAll]
  | x :: r => by
    have := depI r
    simp only [List.map_cons, PyData.depthAll, PyData.depth]
    omega
theorem depIT (o : List Nat) : (IT o).depth ≤ 2 := by
  have := depI o
  simp only [IT, PyData.depth]
  omega
theorem depAI : ∀ (l : List (List Nat)), PyData.depthAll (l.map IT) ≤ 2
  | [] => by simp [PyData.depthAll]
  | x :: r => by
    have h1 := depAI r
    have h2 := depIT x
    simp only [List.map_cons, PyData.depthAll]
    omega
theorem depAP : ∀ (l : List (Nat × List Nat)), PyData.depthAll (l.map fun p => PD p.1 p.2) ≤ 3
  | [] => by simp [PyData.depthAll]
  | x :: r => by
    have h1 := depAP r
    have h2 := depIT x.2
    simp only [PD] at h1
    simp only [List.map_cons, PyData.depthAll, PD, PyData.depth]
    omega
end K32
set_option Elab.async false
set_option linter.all false
set_option maxRecDepth 100000
set_option maxHeartbeats 4000000
namespace K32
/-! books of kinds by plain lists -/
abbrev Par := List (List Nat)
def Lot (n : Nat) (l : List Nat) : Prop := l.Pairwise (· < ·) ∧ ∀ p ∈ l, p < n
def Valid (ps : Par) : Prop := ∀ k l, ps[k]? = some l → Lot k l ∧ l.length ≤ 6
def bitsStep (acc item : List Nat) : Nat := item.foldl (fun f p => f ||| acc.getD p 0) (2 ^ acc.length)
def bitsL (ps : Par) : List Nat := ps.foldl (fun acc item => acc ++ [bitsStep acc item]) []
def isA (ps : Par) (x p : Nat) : Bool := ((bitsL ps).getD x 0).testBit p
theorem bitsL_snoc (ps : Par) (item : List Nat) : bitsL (ps ++ [item]) = bitsL ps ++ [bitsStep (bitsL ps) item] := by
  unfold bitsL
  rw [List.foldl_append]
  rfl
theorem fold_len (ps : Par) : ∀ acc : List Nat, (ps.foldl (fun acc item => acc ++ [bitsStep acc item]) acc).length = acc.length + ps.length := by
  induction ps with
  | nil => intro acc; simp
  | cons x r ih => intro acc; rw [List.foldl_cons, ih]; simp; omega
theorem bitsL_length (ps : Par) : (bitsL ps).length = ps.length := by
  unfold bitsL
  rw [fold_len]
  simp
theorem fold_pre (ps : Par) : ∀ acc : List Nat, ∃ t, ps.foldl (fun acc item => acc ++ [bitsStep acc item]) acc = acc ++ t := by
  induction ps with
  | nil => intro acc; exact ⟨[], by simp⟩
  | cons x r ih =>
    intro acc
    obtain ⟨t, e⟩ := ih (acc ++ [bitsStep acc x])
    exact ⟨bitsStep acc x :: t, by rw [List.foldl_cons, e]; simp⟩
theorem bitsL_take (ps : Par) (k : Nat) (h : k ≤ ps.length) : (bitsL ps).take k = bitsL (ps.take k) := by
  have e : bitsL ps = (ps.drop k).foldl (fun acc item => acc ++ [bitsStep acc item]) (bitsL (ps.take k)) := by
    unfold bitsL
    rw [← List.foldl_append, List.take_append_drop]
  obtain ⟨t, ht⟩ := fold_pre (ps.drop k) (bitsL (ps.take k))
  have hl : (bitsL (ps.take k)).length = k := by rw [bitsL_length, List.length_take]; omega
  rw [e, ht, List.take_append_of_le_length (by omega), List.take_of_length_le (by omega)]
theorem bitsL_take_succ {ps : Par} {k : Nat} {l : List Nat} (h : ps[k]? = some l) : bitsL (ps.take (k + 1)) = bitsL (ps.take k) ++ [bitsStep (bitsL (ps.take k)) l] := by
  rw [List.take_add_one, h]
  exact bitsL_snoc _ _
theorem bitsL_at {ps : Par} {k : Nat} {l : List Nat} (h : ps[k]? = some l) : (bitsL ps).getD k 0 = bitsStep (bitsL (ps.take k)) l := by
  have hk : k < ps.length := (List.getElem?_eq_some_iff.mp h).1
  have e := bitsL_take ps (k + 1) hk
  rw [bitsL_take_succ h] at e
  have hl : (bitsL (ps.take k)).length = k := by rw [bitsL_length, List.length_take]; omega
  have e2 : ((bitsL ps).take (k + 1))[k]? = some (bitsStep (bitsL (ps.take k)) l) := by
    rw [e, List.getElem?_append_right (by omega), hl]
    simp
  rw [List.getElem?_take_of_lt (by omega)] at e2
  rw [List.getD_eq_getElem?_getD, e2]
  rfl
theorem bits_below {ps : Par} {k q : Nat} (h : k ≤ ps.length) (hq : q < k) : (bitsL (ps.take k)).getD q 0 = (bitsL ps).getD q 0 := by
  rw [← bitsL_take ps k h, List.getD_eq_getElem?_getD, List.getD_eq_getElem?_getD, List.getElem?_take_of_lt hq]
theorem fold_bit (acc item : List Nat) (j : Nat) : ∀ b : Nat, (item.foldl (fun f p => f ||| acc.getD p 0) b).testBit j = (b.testBit j || item.any fun p => (acc.getD p 0).testBit j) := by
  induction item with
  | nil => intro b; simp
  | cons x r ih => intro b; rw [List.foldl_cons, ih, Nat.testBit_or, List.any_cons, Bool.or_assoc]
theorem isA_eq {ps : Par} {x : Nat} {l : List Nat} (hv : Valid ps) (h : ps[x]? = some l) (p : Nat) : isA ps x p = (decide (p = x) || l.any fun q => isA ps q p) := by
  have hx : x < ps.length := (List.getElem?_eq_some_iff.mp h).1
  have hl : (bitsL (ps.take x)).length = x := by rw [bitsL_length, List.length_take]; omega
  unfold isA
  rw [bitsL_at h]
  unfold bitsStep
  rw [fold_bit, hl, Nat.testBit_two_pow]
  congr 1
  · by_cases e : x = p <;> simp [e, eq_comm]
  · rw [Bool.eq_iff_iff, List.any_eq_true, List.any_eq_true]
    constructor
    · rintro ⟨q, hq, e⟩
      refine ⟨q, hq, ?_⟩
      rw [← bits_below (Nat.le_of_lt hx) ((hv x l h).1.2 q hq)]
      exact e
    · rintro ⟨q, hq, e⟩
      refine ⟨q, hq, ?_⟩
      rw [bits_below (Nat.le_of_lt hx) ((hv x l h).1.2 q hq)]
      exact e
theorem isA_le {ps : Par} (hv : Valid ps) : ∀ x p, isA ps x p = true → p ≤ x ∧ x < ps.length := by
  intro x
  induction x using Nat.strongRecOn with
  | _ x ih =>
    intro p h
    cases e : ps[x]? with
    | none =>
      have hx : ps.length ≤ x := List.getElem?_eq_none_iff.mp e
      unfold isA at h
      rw [List.getD_eq_getElem?_getD, List.getElem?_eq_none_iff.mpr (by rw [bitsL_length]; exact hx)] at h
      simp at h
    | some l =>
      have hx : x < ps.length := (List.getElem?_eq_some_iff.mp e).1
      rw [isA_eq hv e] at h
      rcases Bool.or_eq_true_iff.mp h with h | h
      · exact ⟨Nat.le_of_eq (of_decide_eq_true h), hx⟩
      · obtain ⟨q, hq, h⟩ := List.any_eq_true.mp h
        have hqx := (hv x l e).1.2 q hq
        have := (ih q hqx p h).1
        exact ⟨by omega, hx⟩
theorem isA_self {ps : Par} (hv : Valid ps) {x : Nat} (h : x < ps.length) : isA ps x x = true := by
  rw [isA_eq hv (List.getElem?_eq_getElem h)]
  simp
theorem isA_par {ps : Par} (hv : Valid ps) {x q : Nat} {l : List Nat} (h : ps[x]? = some l) (hq : q ∈ l) : isA ps x q = true ∧ q < x := by
  have hx : x < ps.length := (List.getElem?_eq_some_iff.mp h).1
  have hqx := (hv x l h).1.2 q hq
  refine ⟨?_, hqx⟩
  rw [isA_eq hv h]
  rw [Bool.or_eq_true_iff]
  exact .inr (List.any_eq_true.mpr ⟨q, hq, isA_self hv (by omega)⟩)
/-! ### orders -/
def mayC (up : Nat → Nat → Bool) (n : Nat) (o : List Nat) (x : Nat) : Bool := !(o.contains x) && (List.range n).all fun p => p == x || (!(up x p) || o.contains p)
def extM (up : Nat → Nat → Bool) (n : Nat) (f : List (List Nat)) : List (List Nat) := f.flatMap fun o => ((List.range n).filter (mayC up n o)).map fun x => o ++ [x]
def ordM (up : Nat → Nat → Bool) (n : Nat) : Nat → List (List Nat)
  | 0 => [[]]
  | k + 1 => extM up n (ordM up n k)
structure OrdK (up : Nat → Nat → Bool) (n k : Nat) (o : List Nat) : Prop where
  len : o.length = k
  nd : o.Nodup
  lt : ∀ x ∈ o, x < n
  anc : ∀ i x p, o[i]? = some x → up x p = true → p ≠ x → p < n → p ∈ o.take i
theorem mayC_iff {up : Nat → Nat → Bool} {n : Nat} {o : List Nat} {x : Nat} : mayC up n o x = true ↔ x ∉ o ∧ ∀ p, p < n → p ≠ x → up x p = true → p ∈ o := by
  unfold mayC
  rw [Bool.and_eq_true, Bool.not_eq_true', List.all_eq_true]
  constructor
  · rintro ⟨h1, h2⟩
    refine ⟨fun hm => (by rw [List.contains_iff_mem.mpr hm] at h1; cases h1), fun p hp hne hu => ?_⟩
    have h := h2 p (List.mem_range.mpr hp)
    rw [hu] at h
    simpa [hne] using h
  · rintro ⟨h1, h2⟩
    refine ⟨by simpa using h1, fun p hp => ?_⟩
    by_cases hne : p = x
    · simp [hne]
    · cases hu : up x p with
      | false => simp
      | true => simpa [hne] using h2 p (List.mem_range.mp hp) hne hu
theorem ordM_ok {up : Nat → Nat → Bool} {n : Nat} : ∀ {k : Nat} {o : List Nat}, o ∈ ordM up n k → OrdK up n k o
  | 0, o, h => by
    obtain rfl : o = [] := by simpa [ordM] using h
    exact ⟨rfl, List.nodup_nil, by simp, by simp⟩
  | k + 1, o, h => by
    obtain ⟨o', ho, h2⟩ := List.mem_flatMap.mp (show o ∈ extM up n (ordM up n k) from h)
    obtain ⟨x, hx, rfl⟩ := List.mem_map.mp h2
    obtain ⟨hr, hm⟩ := List.mem_filter.mp hx
    obtain ⟨m1, m2⟩ := mayC_iff.mp hm
    have q := ordM_ok ho
    refine ⟨by simp [q.len], ?_, ?_, ?_⟩
    · rw [List.nodup_append]
      refine ⟨q.nd, by simp, fun a ha b hb e => ?_⟩
      obtain rfl : b = x := by simpa using hb
      exact m1 (e ▸ ha)
    · intro y hy
      rcases List.mem_append.mp hy with hy | hy
      · exact q.lt y hy
      · obtain rfl : y = x := by simpa using hy
        exact List.mem_range.mp hr
    · intro i y p hy hu hne hp
      by_cases hi : i < o'.length
      · rw [List.getElem?_append_left hi] at hy
        rw [List.take_append_of_le_length (Nat.le_of_lt hi)]
        exact q.anc i y p hy hu hne hp
      · rw [List.getElem?_append_right (by omega)] at hy
        have hi2 : i = o'.length := by
          have := (List.getElem?_eq_some_iff.mp hy).1
          simp at this
          omega
        subst hi2
        obtain rfl : y = x := by simpa using hy.symm
        rw [List.take_append_of_le_length (Nat.le_refl _), List.take_length]
        exact m2 p hp hne hu
theorem flat_len {α β : Type} (f : α → List β) (n : Nat) : ∀ l : List α, (∀ a ∈ l, (f a).length ≤ n) → (l.flatMap f).length ≤ l.length * n
  | [], _ => by simp
  | x :: r, h => by
    have h1 := h x (by simp)
    have h2 := flat_len f n r fun a ha => h a (by simp [ha])
    rw [List.flatMap_cons, List.length_append, List.length_cons, Nat.succ_mul]
    omega
theorem ext_len (up : Nat → Nat → Bool) (n : Nat) (o : List Nat) : (((List.range n).filter (mayC up n o)).map fun x => o ++ [x]).length ≤ n := by
  rw [List.length_map]
  exact Nat.le_trans (List.length_filter_le _ _) (by simp)
theorem ordM_len (up : Nat → Nat → Bool) (n : Nat) : ∀ k, (ordM up n k).length ≤ n ^ k
  | 0 => by simp [ordM]
  | k + 1 => by
    have h := flat_len _ n (ordM up n k) fun o _ => ext_len up n o
    have h2 := Nat.mul_le_mul_right n (ordM_len up n k)
    exact Nat.le_trans h h2
theorem ordM_ne {up : Nat → Nat → Bool} {n : Nat} (hup : ∀ x p, up x p = true → p ≤ x) : ∀ k, k ≤ n → List.range k ∈ ordM up n k
  | 0, _ => by simp [ordM]
  | k + 1, h => by
    refine List.mem_flatMap.mpr ⟨List.range k, ordM_ne hup k (by omega), List.mem_map.mpr ⟨k, List.mem_filter.mpr ⟨List.mem_range.mpr h, mayC_iff.mpr ⟨by simp, fun p hp hne hu => ?_⟩⟩, List.range_succ.symm⟩⟩
    have := hup k p hu
    exact List.mem_range.mpr (by omega)
/-! ### a book loaded in another order -/
def sortN (l : List Nat) : List Nat := l.mergeSort fun a b => decide (a ≤ b)
theorem sortN_perm (l : List Nat) : (sortN l).Perm l := List.mergeSort_perm _ _
theorem sortN_le (l : List Nat) : (sortN l).Pairwise (· ≤ ·) := by
  have h := List.pairwise_mergeSort (le := fun a b : Nat => decide (a ≤ b)) (fun a b c h1 h2 => by simp at *; omega) (fun a b => by simp; omega) l
  exact h.imp fun hab => by simpa using hab
theorem sortN_eq {l l' : List Nat} (h1 : l'.Perm l) (h2 : l'.Pairwise (· ≤ ·)) : l' = sortN l :=
  List.Perm.eq_of_pairwise (fun a b _ _ h h' => Nat.le_antisymm h h') h2 (sortN_le l) (h1.trans (sortN_perm l).symm)
def movedM (ps : Par) (o : List Nat) : Par := o.map fun k => sortN ((ps.getD k []).map fun q => o.idxOf q)
theorem movedM_at {ps : Par} {o : List Nat} {i k : Nat} {l : List Nat} (hk : o[i]? = some k) (hl : ps[k]? = some l) : (movedM ps o)[i]? = some (sortN (l.map fun q => o.idxOf q)) := by
  unfold movedM
  rw [List.getElem?_map, hk, Option.map_some, List.getD_eq_getElem?_getD, hl]
  rfl
theorem idx_lt {o : List Nat} {q i : Nat} (h : q ∈ o.take i) : o.idxOf q < i := by
  have e : o.idxOf q = (o.take i).idxOf q := by
    conv => lhs; rw [← List.take_append_drop i o]
    rw [List.idxOf_append, if_pos h]
  rw [e]
  exact Nat.lt_of_lt_of_le (List.idxOf_lt_length_of_mem h) (by simp; omega)
theorem idx_inj {o : List Nat} {a b : Nat} (ha : a ∈ o) (hb : b ∈ o) (e : o.idxOf a = o.idxOf b) : a = b := by
  have h1 := List.getElem_idxOf (List.idxOf_lt_length_of_mem ha)
  have h2 := List.getElem_idxOf (List.idxOf_lt_length_of_mem hb)
  rw [← h1, ← h2]
  congr 1
theorem strict_of {l : List Nat} (h : l.Pairwise (· ≤ ·)) (n : l.Nodup) : l.Pairwise (· < ·) := by
  have := h.and n
  exact this.imp fun ⟨a, b⟩ => Nat.lt_of_le_of_ne a b
theorem map_nodup {f : Nat → Nat} : ∀ {l : List Nat}, (∀ a ∈ l, ∀ b ∈ l, f a = f b → a = b) → l.Nodup → (l.map f).Nodup
  | [], _, _ => by simp
  | x :: r, h, hn => by
    rw [List.map_cons, List.nodup_cons]
    rw [List.nodup_cons] at hn
    refine ⟨fun hm => ?_, map_nodup (fun a ha b hb => h a (by simp [ha]) b (by simp [hb])) hn.2⟩
    obtain ⟨a, ha, e⟩ := List.mem_map.mp hm
    have := h a (by simp [ha]) x (by simp) e
    exact hn.1 (this ▸ ha)
theorem moved_item {ps : Par} {o : List Nat} {i k : Nat} {l : List Nat} (hv : Valid ps) (ho : OrdK (isA ps) ps.length ps.length o) (hk : o[i]? = some k) (hl : ps[k]? = some l) :
    (∀ q ∈ l, q ∈ o.take i) ∧ Lot i (sortN (l.map fun q => o.idxOf q)) ∧ (sortN (l.map fun q => o.idxOf q)).length ≤ 6 := by
  have h1 : ∀ q ∈ l, q ∈ o.take i := fun q hq => by
    obtain ⟨a, b⟩ := isA_par hv hl hq
    have hkl : k < ps.length := (List.getElem?_eq_some_iff.mp hl).1
    exact ho.anc i k q hk a (by omega) (by omega)
  have hmem : ∀ q ∈ l, q ∈ o := fun q hq => List.mem_of_mem_take (h1 q hq)
  have hn : l.Nodup := (hv k l hl).1.1.imp fun h => Nat.ne_of_lt h
  refine ⟨h1, ⟨strict_of (sortN_le _) ((sortN_perm _).nodup_iff.mpr (map_nodup (fun a ha b hb e => idx_inj (hmem a ha) (hmem b hb) e) hn)), fun p hp => ?_⟩, ?_⟩
  · obtain ⟨q, hq, rfl⟩ := List.mem_map.mp ((sortN_perm _).mem_iff.mp hp)
    exact idx_lt (h1 q hq)
  · rw [(sortN_perm _).length_eq, List.length_map]
    exact (hv k l hl).2
theorem movedM_valid {ps : Par} {o : List Nat} (hv : Valid ps) (ho : OrdK (isA ps) ps.length ps.length o) : Valid (movedM ps o) := by
  intro i m hm
  unfold movedM at hm
  rw [List.getElem?_map] at hm
  cases hk : o[i]? with
  | none => rw [hk] at hm; cases hm
  | some k =>
    have hkn : k < ps.length := ho.lt k (List.mem_of_getElem? hk)
    have hl := List.getElem?_eq_getElem hkn
    have e := movedM_at hk hl
    unfold movedM at e
    rw [List.getElem?_map] at e
    rw [e] at hm
    cases hm
    exact (moved_item hv ho hk hl).2
theorem movedM_length (ps : Par) (o : List Nat) : (movedM ps o).length = o.length := by simp [movedM]
end K32
set_option Elab.async false
set_option linter.all false
set_option maxRecDepth 100000
set_option maxHeartbeats 4000000
namespace K32
open PySem.W (dataLt)
/-! the told rule by plain lists -/
def fitL (up : Nat → Bool) (lasts lot : List Nat) : List Nat := lot.filter fun s => up (lasts.getD s 0)
def takeG (up : Nat → Bool) (lasts : List Nat) : Nat → List (List Nat) → Nat × Option Nat
  | g, [] => (g, none)
  | g, lot :: r => match (fitL up lasts lot).min? with
    | some s => (g, some s)
    | none => if lot.length ≤ g then (g, none) else takeG up lasts (g + 1) r
structure RS where
  lots : List (List Nat)
  lasts : List Nat
def shiftM (g s : Nat) (lots : List (List Nat)) : List (List Nat) :=
  if 0 < g then (lots.set g (lots.getD (g - 1) [] ++ [s])).set (g - 1) ((lots.getD g []).filter fun z => decide (z ≠ s)) else lots
/-- the groups with one more, if the g-th is not there yet -/
def grow (g : Nat) (lots : List (List Nat)) : List (List Nat) := if g = lots.length then lots ++ [[]] else lots
def putM (up : Nat → Bool) (x : Nat) (st : RS) : Nat × RS :=
  match takeG up st.lasts 0 st.lots with
  | (g, some s) => (s, ⟨shiftM g s st.lots, st.lasts.set s x⟩)
  | (g, none) => (st.lasts.length, ⟨shiftM g st.lasts.length ((grow g st.lots).set g ((grow g st.lots).getD g [] ++ [st.lasts.length])), st.lasts ++ [x]⟩)
def runM (up : Nat → Nat → Bool) : Nat → RS × List Nat
  | 0 => (⟨[], []⟩, [])
  | n + 1 => ((putM (up n) n (runM up n).1).2, (runM up n).2 ++ [(putM (up n) n (runM up n).1).1])
def slotsM (up : Nat → Nat → Bool) (n : Nat) : List Nat := (runM up n).2
theorem slotsM_length (up : Nat → Nat → Bool) : ∀ n, (slotsM up n).length = n
  | 0 => rfl
  | n + 1 => by
    have h := slotsM_length up n
    unfold slotsM at h ⊢
    simp only [runM, List.length_append, h, List.length_cons, List.length_nil]
structure RInv (n : Nat) (st : RS) : Prop where
  many : st.lots.length ≤ n
  lot : ∀ l ∈ st.lots, l.length ≤ 2 * n ∧ ∀ s ∈ l, s < st.lasts.length
  las : st.lasts.length ≤ n
  lt : ∀ x ∈ st.lasts, x < n
theorem min_mem {l : List Nat} {s : Nat} (h : l.min? = some s) : s ∈ l ∧ ∀ y ∈ l, s ≤ y := by
  rw [List.min?_eq_some_iff] at h
  exact h
theorem min_none {l : List Nat} (h : l.min? = none) : l = [] := List.min?_eq_none_iff.mp h
theorem takeG_ok {up : Nat → Bool} {lasts : List Nat} : ∀ {lots : List (List Nat)} {g0 g : Nat} {o : Option Nat}, takeG up lasts g0 lots = (g, o) →
    g0 ≤ g ∧ g ≤ g0 + lots.length ∧ (∀ s, o = some s → ∃ lot, lots[g - g0]? = some lot ∧ s ∈ fitL up lasts lot) ∧ (o = none → g < g0 + lots.length → ∃ lot, lots[g - g0]? = some lot ∧ lot.length ≤ g ∧ fitL up lasts lot = [])
  | [], g0, g, o, h => by
    simp only [takeG, Prod.mk.injEq] at h
    obtain ⟨rfl, rfl⟩ := h
    exact ⟨Nat.le_refl _, Nat.le_refl _, fun s e => (by cases e), fun _ z => absurd z (by simp)⟩
  | lot :: r, g0, g, o, h => by
    unfold takeG at h
    split at h
    · rename_i s hs
      simp only [Prod.mk.injEq] at h
      obtain ⟨rfl, rfl⟩ := h
      refine ⟨Nat.le_refl _, by simp, fun s' e => ?_, fun e => (by cases e)⟩
      cases e
      exact ⟨lot, by simp, (min_mem hs).1⟩
    · rename_i hs
      split at h
      · rename_i hle
        simp only [Prod.mk.injEq] at h
        obtain ⟨rfl, rfl⟩ := h
        refine ⟨Nat.le_refl _, by simp, fun s' e => (by cases e), fun _ _ => ⟨lot, by simp, hle, min_none hs⟩⟩
      · obtain ⟨a, b, c, d⟩ := takeG_ok h
        have e1 : g - g0 = (g - (g0 + 1)) + 1 := by omega
        refine ⟨by omega, by simp; omega, fun s e => ?_, fun e hlt => ?_⟩
        · rw [e1]
          simpa using c s e
        · rw [e1]
          simpa using d e (by simp at hlt; omega)
theorem takeG_step {up : Nat → Bool} {lasts : List Nat} {lots : List (List Nat)} {i : Nat} {lot : List Nat} (h : lots[i]? = some lot) :
    takeG up lasts i (lots.drop i) = match (fitL up lasts lot).min? with
      | some s => (i, some s)
      | none => if lot.length ≤ i then (i, none) else takeG up lasts (i + 1) (lots.drop (i + 1)) := by
  have hi := (List.getElem?_eq_some_iff.mp h)
  obtain ⟨hlt, e⟩ := hi
  rw [List.drop_eq_getElem_cons hlt, e]
  rfl
theorem takeG_end {up : Nat → Bool} {lasts : List Nat} {lots : List (List Nat)} : takeG up lasts lots.length (lots.drop lots.length) = (lots.length, none) := by
  rw [List.drop_length]
  rfl
theorem set_mem {α : Type} {l : List α} {i : Nat} {a x : α} (h : x ∈ l.set i a) : x = a ∨ x ∈ l := by
  rcases List.mem_or_eq_of_mem_set h with h | h
  · exact .inr h
  · exact .inl h
theorem getD_mem {l : List (List Nat)} {i : Nat} : l.getD i [] ∈ l ∨ l.getD i [] = [] := by
  rw [List.getD_eq_getElem?_getD]
  cases h : l[i]? with
  | none => exact .inr rfl
  | some a => exact .inl (List.mem_of_getElem? h)
theorem shift_lot {g s n m : Nat} {lots : List (List Nat)} (h : ∀ l ∈ lots, l.length ≤ n ∧ ∀ z ∈ l, z < m) (hs : s < m) : ∀ l ∈ shiftM g s lots, l.length ≤ n + 1 ∧ ∀ z ∈ l, z < m := by
  have hd : ∀ i, (lots.getD i []).length ≤ n ∧ ∀ z ∈ lots.getD i [], z < m := fun i => by
    rcases getD_mem (l := lots) (i := i) with e | e
    · exact h _ e
    · rw [e]; simp
  intro l hl
  unfold shiftM at hl
  split at hl
  · rcases set_mem hl with rfl | hl
    · exact ⟨Nat.le_succ_of_le (Nat.le_trans (List.length_filter_le _ _) (hd g).1), fun z hz => (hd g).2 z (List.mem_filter.mp hz).1⟩
    · rcases set_mem hl with rfl | hl
      · refine ⟨by have := (hd (g - 1)).1; simp only [List.length_append, List.length_cons, List.length_nil]; omega, fun z hz => ?_⟩
        rcases List.mem_append.mp hz with hz | hz
        · exact (hd _).2 z hz
        · obtain rfl : z = s := by simpa using hz
          exact hs
      · exact ⟨Nat.le_succ_of_le (h l hl).1, (h l hl).2⟩
  · exact ⟨Nat.le_succ_of_le (h l hl).1, (h l hl).2⟩
theorem shift_length (g s : Nat) (lots : List (List Nat)) : (shiftM g s lots).length = lots.length := by
  unfold shiftM
  split <;> simp
theorem grow_length {g : Nat} {lots : List (List Nat)} (h : g ≤ lots.length) : g < (grow g lots).length ∧ (grow g lots).length ≤ lots.length + 1 := by
  unfold grow
  split
  · simp; omega
  · omega
theorem grow_lot {g n m : Nat} {lots : List (List Nat)} (h : ∀ l ∈ lots, l.length ≤ n ∧ ∀ z ∈ l, z < m) : ∀ l ∈ grow g lots, l.length ≤ n ∧ ∀ z ∈ l, z < m := by
  intro l hl
  unfold grow at hl
  split at hl
  · rcases List.mem_append.mp hl with hl | hl
    · exact h l hl
    · obtain rfl : l = [] := by simpa using hl
      simp
  · exact h l hl
theorem putM_inv {up : Nat → Bool} {n : Nat} {st : RS} (r : RInv n st) : RInv (n + 1) (putM up n st).2 ∧ (putM up n st).1 < (putM up n st).2.lasts.length := by
  unfold putM
  cases e : takeG up st.lasts 0 st.lots with
  | mk g o =>
    obtain ⟨a, b, c, d⟩ := takeG_ok e
    cases o with
    | some s =>
      obtain ⟨lot, h1, h2⟩ := c s rfl
      have hs : s < st.lasts.length := (r.lot lot (List.mem_of_getElem? h1)).2 s (List.mem_filter.mp h2).1
      refine ⟨⟨?_, ?_, ?_, ?_⟩, ?_⟩
      · show (shiftM g s st.lots).length ≤ n + 1
        rw [shift_length]
        exact Nat.le_succ_of_le r.many
      · intro l hl
        obtain ⟨x, y⟩ := shift_lot (n := 2 * n) (m := st.lasts.length) r.lot hs l hl
        exact ⟨by omega, fun z hz => by show z < (st.lasts.set s n).length; rw [List.length_set]; exact y z hz⟩
      · show (st.lasts.set s n).length ≤ n + 1
        rw [List.length_set]
        exact Nat.le_succ_of_le r.las
      · intro x hx
        rcases set_mem (show x ∈ st.lasts.set s n from hx) with rfl | hx
        · exact Nat.lt_succ_self _
        · exact Nat.lt_succ_of_lt (r.lt x hx)
      · show s < (st.lasts.set s n).length
        rw [List.length_set]
        exact hs
    | none =>
      have hg : g ≤ st.lots.length := by omega
      obtain ⟨g1, g2⟩ := grow_length hg
      have hm := r.many
      have hla := r.las
      refine ⟨⟨?_, ?_, ?_, ?_⟩, ?_⟩
      · show (shiftM g _ _).length ≤ n + 1
        rw [shift_length, List.length_set]
        omega
      · have hG : ∀ l ∈ (grow g st.lots).set g ((grow g st.lots).getD g [] ++ [st.lasts.length]), l.length ≤ 2 * n + 1 ∧ ∀ z ∈ l, z < st.lasts.length + 1 := by
          have hgr := grow_lot (g := g) (n := 2 * n) (m := st.lasts.length) r.lot
          have hd : ((grow g st.lots).getD g []).length ≤ 2 * n ∧ ∀ z ∈ (grow g st.lots).getD g [], z < st.lasts.length := by
            rcases getD_mem (l := grow g st.lots) (i := g) with q | q
            · exact hgr _ q
            · rw [q]; simp
          intro l hl
          rcases set_mem hl with rfl | hl
          · refine ⟨by have := hd.1; rw [List.length_append]; simp only [List.length_cons, List.length_nil]; omega, fun z hz => ?_⟩
            rcases List.mem_append.mp hz with hz | hz
            · exact Nat.lt_succ_of_lt (hd.2 z hz)
            · obtain rfl : z = st.lasts.length := by simpa using hz
              exact Nat.lt_succ_self _
          · exact ⟨Nat.le_succ_of_le (hgr l hl).1, fun z hz => Nat.lt_succ_of_lt ((hgr l hl).2 z hz)⟩
        intro l hl
        obtain ⟨x, y⟩ := shift_lot (n := 2 * n + 1) (m := st.lasts.length + 1) hG (Nat.lt_succ_self _) l hl
        exact ⟨by omega, fun z hz => by show z < (st.lasts ++ [n]).length; rw [List.length_append]; exact y z hz⟩
      · show (st.lasts ++ [n]).length ≤ n + 1
        simp
        omega
      · intro x hx
        rcases List.mem_append.mp (show x ∈ st.lasts ++ [n] from hx) with hx | hx
        · exact Nat.lt_succ_of_lt (r.lt x hx)
        · obtain rfl : x = n := by simpa using hx
          exact Nat.lt_succ_self _
      · show st.lasts.length < (st.lasts ++ [n]).length
        simp
theorem runM_inv (up : Nat → Nat → Bool) : ∀ n, RInv n (runM up n).1
  | 0 => ⟨Nat.le_refl _, by simp [runM], Nat.le_refl _, by simp [runM]⟩
  | n + 1 => (putM_inv (runM_inv up n)).1
/-! how many unlike ones -/
def dd : List Int → List Int
  | [] => []
  | x :: r => if x ∈ dd r then dd r else x :: dd r
theorem dd_mem (k : Int) : ∀ l, k ∈ dd l ↔ k ∈ l
  | [] => Iff.rfl
  | x :: r => by
    have ih := dd_mem k r
    unfold dd
    split
    · rename_i hx
      rw [ih, List.mem_cons]
      refine ⟨.inr, fun h => h.elim (fun e => e ▸ (dd_mem x r).mp hx) id⟩
    · rw [List.mem_cons, List.mem_cons, ih]
theorem dd_nodup : ∀ l, (dd l).Nodup
  | [] => List.nodup_nil
  | x :: r => by
    unfold dd
    split
    · exact dd_nodup r
    · rename_i hx
      exact List.nodup_cons.mpr ⟨hx, dd_nodup r⟩
def ndist (l : List Nat) : Nat := (dd (l.map fun n : Nat => (n : Int))).length
theorem ndist_of {l : List Nat} {ks : List Int} (h1 : ks.Nodup) (h2 : ∀ k, k ∈ ks ↔ k ∈ l.map fun n : Nat => (n : Int)) : ks.length = ndist l :=
  ((List.perm_ext_iff_of_nodup h1 (dd_nodup _)).mpr fun k => by rw [h2, dd_mem]).length_eq
theorem ndist_nodup {l : List Nat} (h : l.Nodup) : ndist l = l.length := by
  have hn : (l.map fun n : Nat => (n : Int)).Nodup := by
    refine List.Pairwise.map _ (fun a b hab e => hab (Int.ofNat_inj.mp e)) h
  rw [← ndist_of hn fun _ => Iff.rfl, List.length_map]
/-! the law's end -/
def countsM (ps : Par) : List (Nat × List Nat) := (ordM (isA ps) ps.length ps.length).map fun o => (ndist (slotsM (isA (movedM ps o)) ps.length), o)
theorem countsM_ne {ps : Par} (hv : Valid ps) : countsM ps ≠ [] := by
  intro h
  have h1 := ordM_ne (up := isA ps) (n := ps.length) (fun x p hu => (isA_le hv x p hu).1) ps.length (Nat.le_refl _)
  have h2 : ordM (isA ps) ps.length ps.length = [] := List.map_eq_nil_iff.mp h
  rw [h2] at h1
  cases h1
theorem best_uniq {cs : List (Nat × List Nat)} {c0 c1 : Nat} {o0 o1 : List Nat} (h0 : (c0, o0) ∈ cs) (m0 : ∀ p ∈ cs, dataLt (PD p.1 p.2) (PD c0 o0) = false)
    (l1 : ∀ p ∈ cs, c1 ≤ p.1) (h1 : (c1, o1) ∈ cs) (m1 : ∀ p ∈ cs, p.1 = c1 → dataLt (IT p.2) (IT o1) = false) : c0 = c1 ∧ o0 = o1 := by
  have e : c0 = c1 := by
    have a := l1 _ h0
    have b := m0 _ h1
    rw [PD_lt] at b
    simp at b a
    omega
  subst e
  refine ⟨rfl, IT_tot (m1 _ h0 rfl) ?_⟩
  have b := m0 _ h1
  rw [PD_lt] at b
  simpa using b
theorem worst_uniq {cs : List (Nat × List Nat)} {c : Nat} {o0 o1 : List Nat} (h0 : (c, o0) ∈ cs) (m0 : ∀ p ∈ cs, p.1 = c → dataLt (PD p.1 p.2) (PD c o0) = false)
    (h1 : (c, o1) ∈ cs) (m1 : ∀ p ∈ cs, p.1 = c → dataLt (IT p.2) (IT o1) = false) : o0 = o1 := by
  refine IT_tot (m1 _ h0 rfl) ?_
  have b := m0 _ h1 rfl
  rw [PD_lt] at b
  simpa using b
end K32
set_option Elab.async false
set_option linter.all false
set_option maxRecDepth 100000
set_option maxHeartbeats 4000000
namespace K32
open PySem PySem.Spec L2 C8
/-! ### lists of naturals as values, frames -/
abbrev iv (n : Nat) : V := .int (n : Int)
theorem iv_map (ns : List Nat) : ns.map iv = (ns.map fun n : Nat => (n : Int)).map V.int := by rw [List.map_map]; rfl
abbrev rv (a : Addr) : V := .ref a
/-- at a stands a tuple of these naturals -/
def NT (K : PySem.W.Frag) (H : Hp) (a : Addr) (ns : List Nat) : Prop := SqT K H a (ns.map iv)
theorem sTup {K : PySem.W.Frag} {H H' : Hp} {a : Addr} {xs : List V} (e : Same H H') (h : SqT K H a xs) : SqT K H' a xs := by
  rcases h with (h | ⟨o, h⟩) | h
  · exact .inl (.inl (e _ _ h))
  · exact .inl (.inr ⟨o, e _ _ h⟩)
  · exact .inr h
theorem NT.same {K : PySem.W.Frag} {H H' : Hp} {a : Addr} {ns : List Nat} (e : Same H H') (h : NT K H a ns) : NT K H' a ns := sTup e h
/-- all that stood but at the addresses of S stands -/
def Fr1 (S : List Addr) (H H' : Hp) : Prop := ∀ b o, H b = some o → b ∉ S → H' b = some o
theorem sNew {H H' : Hp} {p : Addr} {o : HO} (e : Same H H') (hp : H p = none) : Same H (upd H' p o) := fun b u h => by rw [upd_ne (ne_of_none h hp)]; exact e b u h
theorem sPut {H : Hp} {p : Addr} {o : HO} (hp : H p = none) : Same H (upd H p o) := sNew (Same.refl H) hp
theorem ne_none {H : Hp} {a b : Addr} (h : H a = none) (h' : H b ≠ none) : a ≠ b := fun e => h' (e ▸ h)
/-- tuples are kept where something else is written -/
def NoT (H : Hp) (l : Addr) : Prop := (∀ xs, H l ≠ some (.tup xs)) ∧ ∀ o u, H l ≠ some (.frz o u)
theorem noT_l {H : Hp} {l : Addr} {xs : List V} (h : H l = some (.lst xs)) : NoT H l := ⟨fun _ e => (by rw [h] at e; cases e), fun _ _ e => (by rw [h] at e; cases e)⟩
theorem noT_n {H : Hp} {l : Addr} (h : H l = none) : NoT H l := ⟨fun _ e => (by rw [h] at e; cases e), fun _ _ e => (by rw [h] at e; cases e)⟩
theorem noT_i {H : Hp} {l C dx : Addr} {fs : List (Str × V)} (h : H l = some (.ins C dx fs)) : NoT H l := ⟨fun _ e => (by rw [h] at e; cases e), fun _ _ e => (by rw [h] at e; cases e)⟩
theorem noT_d {H : Hp} {l : Addr} {kvs : List (L2.Key × V)} (h : H l = some (.dK kvs)) : NoT H l := ⟨fun _ e => (by rw [h] at e; cases e), fun _ _ e => (by rw [h] at e; cases e)⟩
theorem tUpd {K : PySem.W.Frag} {H : Hp} {a l : Addr} {xs : List V} {o : HO} (h : SqT K H a xs) (n : NoT H l) : SqT K (upd H l o) a xs := by
  rcases h with (h | ⟨ob, h⟩) | h
  · exact .inl (.inl (by rw [upd_ne (fun e => n.1 _ (e ▸ h))]; exact h))
  · exact .inl (.inr ⟨ob, by rw [upd_ne (fun e => n.2 _ _ (e ▸ h))]; exact h⟩)
  · exact .inr h
theorem NT.upd {K : PySem.W.Frag} {H : Hp} {a l : Addr} {ns : List Nat} {o : HO} (h : NT K H a ns) (n : NoT H l) : NT K (upd H l o) a ns := tUpd h n
/-- a list, a tuple of references to tuples of naturals -/
def Nts (K : PySem.W.Frag) (H : Hp) (as : List Addr) (ls : List (List Nat)) : Prop := as.length = ls.length ∧ ∀ (i : Nat) (a : Addr) (l : List Nat), as[i]? = some a → ls[i]? = some l → NT K H a l
theorem Nts.nil {K : PySem.W.Frag} {H : Hp} : Nts K H [] [] := ⟨rfl, fun i a l h => by simp at h⟩
theorem Nts.imp {K : PySem.W.Frag} {H H' : Hp} {as : List Addr} {ls : List (List Nat)} (h : Nts K H as ls) (f : ∀ a l, NT K H a l → NT K H' a l) : Nts K H' as ls := ⟨h.1, fun i a l x y => f a l (h.2 i a l x y)⟩
theorem Nts.same {K : PySem.W.Frag} {H H' : Hp} {as : List Addr} {ls : List (List Nat)} (h : Nts K H as ls) (e : Same H H') : Nts K H' as ls := h.imp fun _ _ => NT.same e
theorem Nts.upd {K : PySem.W.Frag} {H : Hp} {as : List Addr} {ls : List (List Nat)} {l : Addr} {o : HO} (h : Nts K H as ls) (n : NoT H l) : Nts K (upd H l o) as ls := h.imp fun _ _ q => NT.upd q n
theorem Nts.snoc {K : PySem.W.Frag} {H : Hp} {as : List Addr} {ls : List (List Nat)} {a : Addr} {l : List Nat} (h : Nts K H as ls) (q : NT K H a l) : Nts K H (as ++ [a]) (ls ++ [l]) := by
  refine ⟨by simp [h.1], fun i b m x y => ?_⟩
  by_cases hi : i < as.length
  · rw [List.getElem?_append_left hi] at x
    rw [List.getElem?_append_left (by rw [← h.1]; exact hi)] at y
    exact h.2 i b m x y
  · rw [List.getElem?_append_right (by omega)] at x
    rw [List.getElem?_append_right (by rw [← h.1]; omega), ← h.1] at y
    have e0 : i - as.length = 0 := by
      have := (List.getElem?_eq_some_iff.mp x).1
      simp at this
      omega
    rw [e0] at x y
    cases x
    cases y
    exact q
theorem Nts.at {K : PySem.W.Frag} {H : Hp} {as : List Addr} {ls : List (List Nat)} {i : Nat} {l : List Nat} (h : Nts K H as ls) (y : ls[i]? = some l) : ∃ a, as[i]? = some a ∧ NT K H a l := by
  have hi : i < as.length := by rw [h.1]; exact (List.getElem?_eq_some_iff.mp y).1
  exact ⟨as[i], List.getElem?_eq_getElem hi, h.2 i _ l (List.getElem?_eq_getElem hi) y⟩
/-- the parents of a book -/
def PT (K : PySem.W.Frag) (H : Hp) (t : Addr) (ps : Par) : Prop := ∃ as : List Addr, SqT K H t (as.map rv) ∧ Nts K H as ps
theorem PT.imp {K : PySem.W.Frag} {H H' : Hp} {t : Addr} {ps : Par} (h : PT K H t ps) (f : ∀ a xs, SqT K H a xs → SqT K H' a xs) : PT K H' t ps := ⟨h.choose, f _ _ h.choose_spec.1, h.choose_spec.2.imp fun a l q => f _ _ q⟩
theorem PT.same {K : PySem.W.Frag} {H H' : Hp} {t : Addr} {ps : Par} (h : PT K H t ps) (e : Same H H') : PT K H' t ps := h.imp fun _ _ => sTup e
theorem PT.upd {K : PySem.W.Frag} {H : Hp} {t l : Addr} {ps : Par} {o : HO} (h : PT K H t ps) (n : NoT H l) : PT K (upd H l o) t ps := h.imp fun _ _ q => tUpd q n
abbrev cB (K : PySem.W.Frag) : Addr := He.ga K "Book"
abbrev cG (K : PySem.W.Frag) : Addr := He.ga K "Groups"
abbrev bkF (tp bl : Addr) : List (Str × V) := [("parents", .ref tp), ("bits", .ref bl)]
/-- a book with these parents -/
def BookAt (K : PySem.W.Frag) (H : Hp) (b : Addr) (ps : Par) : Prop := ∃ dx tp bl, H b = some (.ins (cB K) dx (bkF tp bl)) ∧ PT K H tp ps ∧ H bl = some (.lst ((bitsL ps).map iv))
theorem BookAt.same {K : PySem.W.Frag} {H H' : Hp} {b : Addr} {ps : Par} (h : BookAt K H b ps) (e : Same H H') : BookAt K H' b ps :=
  let ⟨dx, tp, bl, h1, h2, h3⟩ := h
  ⟨dx, tp, bl, e _ _ h1, h2.same e, e _ _ h3⟩
/-! ### the module's names -/
structure Txt (K : PySem.W.Frag) (mg : Str → Option Value) : Prop where
  len : mg "len" = none
  isinstance : mg "isinstance" = none
  int : mg "int" = none
  bool : mg "bool" = none
  tuple : mg "tuple" = none
  all : mg "all" = none
  set : mg "set" = none
  range : mg "range" = none
  enumerate : mg "enumerate" = none
  sorted : mg "sorted" = none
  min : mg "min" = none
  max : mg "max" = none
  sum : mg "sum" = none
  abs : mg "abs" = none
  list : mg "list" = none
  book : mg "Book" = some (.ref (cB K))
  clB : Cls K (cB K)
  bPar : NoAttr K (cB K) "parents"
  bBit : NoAttr K (cB K) "bits"
  groups : mg "Groups" = some (.ref (cG K))
  clG : Cls K (cG K)
  gLot : NoAttr K (cG K) "lots"
  gHel : NoAttr K (cG K) "held"
  mostP : ∃ t, mg "MOST_PARENTS" = some (.int 6 t)
  mostK : ∃ t, mg "MOST_KINDS" = some (.int 400 t)
  mostO : ∃ t, mg "MOST_ORDERED" = some (.int 7 t)
/-- a def of the module: what of it is told by the head -/
structure DefX (K : PySem.W.Frag) (mg : Str → Option Value) (x : Str) (st : Stmt) : Prop where
  ex : ∃ (f : Addr) (fd : FuncData), FunD K x x (defArgs st) (defBody st) (defScope st) [] [] f fd ∧ mg x = some (.ref f)
structure MetX (K : PySem.W.Frag) (C : Addr) (m q : Str) (st : Stmt) : Prop where
  ex : ∃ (f : Addr) (fd : FuncData), FunD K m q (defArgs st) (defBody st) (defScope st) [] [] f fd ∧ Meth K C m f ∧ Cls K C
section
variable {P : Program} {w : World} {K : PySem.W.Frag} {mg : Str → Option Value} {base : Heap}
theorem mkCal {x : Str} {st : Stmt} {N ps : List Str} {k : Nat} {sp : Sp} (D : DefX K mg x st) (S : FnScope N ps (defScope st)) (len : ∀ vs H Q E, sp vs H Q E → vs.length = ps.length)
    (hb : ∀ (kV doc pm : Value) (an : Option Addr) (cdv ct : Value) (us : List Value), us.length = ps.length → bindArgs (PySem.W.fnOf x x (defArgs st) (defBody st) (defScope st) .none kV doc pm an cdv ct) ⟨us, []⟩ = pure (ps.zip us))
    (hbody : ∀ (f : Addr) (cdv : Value) (A : Around) (outer : List Env) (s : Shared) (H : Hp) (vs : List V) (Q : VK) (E : XK), Room k (A.deeper (PyProof.Rows.envOfC x (defScope st) s.heap.objs.size f cdv)) → sp vs H Q E →
      ∃ t, PSs (cxOf L2.CX0 P w K mg base N x (defScope st) f cdv A outer s H E).nox (defBody st) t ∧ t { nx := fun _ H' => Q .non H', rt := Q } (start N vs) H) : Cal P w K mg base (k + 1) x sp [] := by
  obtain ⟨f, fd, F, hm⟩ := D.ex
  refine ⟨f, fd, ps, [], F.ok S len fun cdv A outer s H vs Q E hr h => ?_, hm, F.kp, ?_, .nil⟩
  · obtain ⟨t, h1, h2⟩ := hbody f cdv A outer s H vs Q E hr h
    exact ⟨t, h1.nox, h2⟩
  · exact F.bindsN hb
theorem mkMet {C : Addr} {m q : Str} {st : Stmt} {N ps : List Str} {k : Nat} {sp : Sp} (D : MetX K C m q st) (S : FnScope N ps (defScope st)) (len : ∀ vs H Q E, sp vs H Q E → vs.length = ps.length)
    (hb : ∀ (kV doc pm : Value) (an : Option Addr) (cdv ct : Value) (us : List Value), us.length = ps.length → bindArgs (PySem.W.fnOf m q (defArgs st) (defBody st) (defScope st) .none kV doc pm an cdv ct) ⟨us, []⟩ = pure (ps.zip us))
    (hbody : ∀ (f : Addr) (cdv : Value) (A : Around) (outer : List Env) (s : Shared) (H : Hp) (vs : List V) (Q : VK) (E : XK), Room k (A.deeper (PyProof.Rows.envOfC q (defScope st) s.heap.objs.size f cdv)) → sp vs H Q E →
      ∃ t, PSs (cxOf L2.CX0 P w K mg base N q (defScope st) f cdv A outer s H E).nox (defBody st) t ∧ t { nx := fun _ H' => Q .non H', rt := Q } (start N vs) H) : Met P w K mg base (k + 1) C m sp [] := by
  obtain ⟨f, fd, F, hm, hc⟩ := D.ex
  refine ⟨f, fd, ps, [], hc, hm, F.ok S len fun cdv A outer s H vs Q E hr h => ?_, ?_, .nil⟩
  · obtain ⟨t, h1, h2⟩ := hbody f cdv A outer s H vs Q E hr h
    exact ⟨t, h1.nox, h2⟩
  · exact F.bindsN hb
end
theorem tyT {K : PySem.W.Frag} {H : Hp} {a : Addr} {xs : List V} (h : SqT K H a xs) : TyX K H (.ref a) (.type "tuple") := by
  rcases h with (h | ⟨o, h⟩) | ⟨o, its, n, h, hc, _⟩
  · exact .base (.tup h)
  · exact .fTuple h
  · exact .kTuple h hc
theorem pe_ty {X : Cx} {x : Str} (T : String) {pos : Pos} (hg : Gl X x) (hm : X.mg x = none) (hv : bootBuiltins x = some (Value.type T)) (hn : x ≠ "__name__" := by decide) (hd : (x == ("__debug__" : Str)) = false := by decide) : PE X (.Name x pos) (tC (.ty T)) :=
  pe_bltn hg hm hv rfl hn hd
theorem qT {Q : VK} {H : Hp} {p : Prop} [Decidable p] (h : p) (q : Q (.bl true) H) : Q (.bl (decide p)) H := by
  rw [decide_eq_true h]
  exact q
theorem qF {Q : VK} {H : Hp} {p : Prop} [Decidable p] (h : ¬ p) (q : Q (.bl false) H) : Q (.bl (decide p)) H := by
  rw [decide_eq_false h]
  exact q
theorem blT {p : Prop} [Decidable p] (h : p) : V.bl (decide p) = .bl true := by rw [decide_eq_true h]
theorem blF {p : Prop} [Decidable p] (h : ¬ p) : V.bl (decide p) = .bl false := by rw [decide_eq_false h]
/-! ### is_integer, is_within, is_lot -/
section
variable {P : Program} {w : World} {K : PySem.W.Frag} {mg : Str → Option Value} {base : Heap}
def spIsInteger : Sp := fun vs H Q _ => ∃ i : Int, vs = [.int i] ∧ Q (.bl true) H
theorem scIsInteger : FnScope ["thing"] ["thing"] (defScope sIsInteger) := ⟨rfl, rfl, rfl, by decide +kernel, rfl, by decide +kernel, by decide +kernel⟩
theorem kIsInt : PySem.W.kitOne K (.type "int") (.type "int") = some true := kit_ty (by decide +kernel)
theorem kIsBool : PySem.W.kitOne K (.type "int") (.type "bool") = some false := kit_ty (by decide +kernel)
theorem kIsTup : PySem.W.kitOne K (.type "tuple") (.type "tuple") = some true := kit_ty (by decide +kernel)
theorem calIsInteger (T : Txt K mg) (D : DefX K mg "is_integer" sIsInteger) : Cal P w K mg base 1 "is_integer" spIsInteger [] := by
  refine mkCal D scIsInteger (fun vs H Q E h => by obtain ⟨i, rfl, _⟩ := h; rfl) (fun _ _ _ _ _ _ us hl => match us, hl with | [_], _ => rfl) (fun f cdv A outer s H vs Q E hr h => ?_)
  obtain ⟨i, rfl, q⟩ := h
  refine ⟨_, pss_one (ps_ret (pe_and (pe_callB call_isi (by rfl) T.isinstance (by decide +kernel) (pa_cons (pv 0) (pa_cons (pe_ty "int" (by rfl) T.int (by decide +kernel)) pa_nil)))
    (pe_one (pe_not (pe_callB call_isi (by rfl) T.isinstance (by decide +kernel) (pa_cons (pv 0) (pa_cons (pe_ty "bool" (by rfl) T.bool (by decide +kernel)) pa_nil))))))), ?_⟩
  refine ⟨_, rfl, _, _, _, _, true, rfl, .ty "int", .base (.int i), kIsInt, true, rfl, ?_⟩
  exact iteT ⟨_, rfl, _, _, _, _, false, rfl, .ty "bool", .base (.int i), kIsBool, false, rfl, q⟩
def spIsWithin : Sp := fun vs H Q _ => ∃ i a b : Int, vs = [.int i, .int a, .int b] ∧ a ≤ i ∧ i ≤ b ∧ Q (.bl true) H
theorem scIsWithin : FnScope ["thing", "least", "most"] ["thing", "least", "most"] (defScope sIsWithin) := ⟨rfl, rfl, rfl, by decide +kernel, rfl, by decide +kernel, by decide +kernel⟩
theorem calIsWithin (T : Txt K mg) (c1 : Cal P w K mg base 1 "is_integer" spIsInteger []) (D : DefX K mg "is_within" sIsWithin) : Cal P w K mg base 2 "is_within" spIsWithin [] := by
  refine mkCal D scIsWithin (fun vs H Q E h => by obtain ⟨i, a, b, rfl, _⟩ := h; rfl) (fun _ _ _ _ _ _ us hl => match us, hl with | [_, _, _], _ => rfl) (fun f cdv A outer s H vs Q E hr h => ?_)
  obtain ⟨i, a, b, rfl, h1, h2, q⟩ := h
  refine ⟨_, pss_one (ps_ret (pe_and (pe_c c1 hr (by decide) (by rfl) (pa_cons (pv 0) pa_nil)) (pe_one (pe_chain op_le op_le (pv 1) (pv 0) (pv 2))))), ?_⟩
  refine ⟨_, rfl, i, rfl, true, rfl, iteT ?_⟩
  refine ⟨_, rfl, _, rfl, _, _, rfl, rfl, true, blT h1, iteT ⟨_, rfl, _, _, rfl, rfl, qT h2 q⟩⟩
end
end K32
set_option Elab.async false
set_option linter.all false
set_option maxRecDepth 100000
set_option maxHeartbeats 4000000
namespace K32
open PySem PySem.Spec L2 C8
theorem Fr1.tup {K : PySem.W.Frag} {S : List Addr} {H H' : Hp} (e : Fr1 S H H') (n : ∀ b ∈ S, NoT H b) {a : Addr} {xs : List V} (h : SqT K H a xs) : SqT K H' a xs := by
  rcases h with (h | ⟨o, h⟩) | h
  · exact .inl (.inl (e _ _ h fun m => (n _ m).1 _ h))
  · exact .inl (.inr ⟨o, e _ _ h fun m => (n _ m).2 _ _ h⟩)
  · exact .inr h
theorem Fr1.refl (S : List Addr) (H : Hp) : Fr1 S H H := fun _ _ h _ => h
theorem Fr1.trans {S : List Addr} {H H1 H2 : Hp} (a : Fr1 S H H1) (b : Fr1 S H1 H2) : Fr1 S H H2 := fun c o h m => b c o (a c o h m) m
theorem Fr1.new {S : List Addr} {H H' : Hp} {p : Addr} {o : HO} (e : Fr1 S H H') (hp : H p = none) : Fr1 S H (upd H' p o) := fun b u h m => by rw [upd_ne (ne_of_none h hp)]; exact e b u h m
theorem Fr1.put {S : List Addr} {H H' : Hp} {p : Addr} {o : HO} (e : Fr1 S H H') (hp : p ∈ S) : Fr1 S H (upd H' p o) := fun b u h m => by
  have nb : b ≠ p := fun z => m (by rw [z]; exact hp)
  rw [upd_ne nb]
  exact e b u h m
theorem Fr1.free {S : List Addr} {H H' : Hp} (e : Fr1 S H H') {l : Addr} (h : H' l = none) (m : l ∉ S) : H l = none := by
  cases q : H l with
  | none => rfl
  | some o => rw [e l o q m] at h; cases h
theorem Fr1.same {S : List Addr} {H H1 H2 : Hp} (a : Fr1 S H H1) (b : Same H1 H2) : Fr1 S H H2 := fun c o h m => b c o (a c o h m)
theorem sFr {S : List Addr} {H H1 H2 : Hp} (a : Same H H1) (b : Fr1 S H1 H2) (n : ∀ s ∈ S, H s = none) : Same H H2 := fun c o h => b c o (a c o h) fun m => by rw [n c m] at h; cases h
theorem bk_par (tp bl : Addr) : (bkF tp bl).lookup ("parents" : Str) = some (.ref tp) := by
  rw [lookup_put, if_pos rfl]
theorem bk_bit (tp bl : Addr) : (bkF tp bl).lookup ("bits" : Str) = some (.ref bl) := by
  rw [lookup_put, if_neg (by decide +kernel), lookup_put, if_pos rfl]
theorem bk_no (tp bl : Addr) {m : Str} (h1 : ¬ m = "parents") (h2 : ¬ m = "bits") : (bkF tp bl).lookup m = none := by
  rw [lookup_put, if_neg h1, lookup_put, if_neg h2]
  rfl
theorem pe_gi {X : Cx} {x : Str} {i : Int} {pos : Pos} (hg : Gl X x) (h : ∃ t, X.mg x = some (Value.int i t)) (hd : (x == ("__debug__" : Str)) = false := by decide) : PE X (.Name x pos) (tC (.int i)) := by
  obtain ⟨t, e⟩ := h
  exact pe_glob hg e ⟨t, rfl⟩ hd
section
variable {P : Program} {w : World} {K : PySem.W.Frag} {mg : Str → Option Value} {base : Heap}
/-! ### is_lot, are_parents -/
def spIsLot (K : PySem.W.Frag) : Sp := fun vs H Q _ => ∃ (a : Addr) (n : Nat) (l : List Nat), vs = [.ref a, iv n] ∧ NT K H a l ∧ Lot n l ∧ Q (.bl true) H
theorem scIsLot : FnScope ["thing", "many", "last", "item"] ["thing", "many"] (defScope sIsLot) := ⟨rfl, rfl, rfl, by decide +kernel, rfl, by decide +kernel, by decide +kernel⟩
theorem calIsLot (T : Txt K mg) (c2 : Cal P w K mg base 2 "is_within" spIsWithin []) (D : DefX K mg "is_lot" sIsLot) : Cal P w K mg base 3 "is_lot" (spIsLot K) [] := by
  refine mkCal D scIsLot (fun vs H Q E h => by obtain ⟨a, n, l, rfl, _⟩ := h; rfl) (fun _ _ _ _ _ _ us hl => match us, hl with | [_, _], _ => rfl) (fun f cdv A outer s H vs Q E hr h => ?_)
  obtain ⟨a, n, l, rfl, ha, hl, q⟩ := h
  refine ⟨_, pss_cons (ps_if (pt_not (pt_val (pe_callB call_isi (by rfl) T.isinstance (by decide +kernel) (pa_cons (pv 0) (pa_cons (pe_ty "tuple" (by rfl) T.tuple (by decide +kernel)) pa_nil))))) pss_never pss_nil)
    (pss_cons (ps_set (i := 2) scIsLot.nd rfl (Or.inl rfl) (pe_un un_neg pe_int))
    (pss_cons (ps_for PassesOwn.never rfl (pi_tup (pv 0)) (pg_name (i := 3) scIsLot.nd rfl (Or.inl rfl))
      (pss_cons (ps_if (pt_not (pt_val (pe_c c2 hr (by decide) (by rfl) (pa_cons (pv 3) (pa_cons (pe_op op_add (pv 2) pe_int) (pa_cons (pe_op op_sub (pv 1) pe_int) pa_nil)))))) pss_never pss_nil)
        (pss_one (ps_set (i := 2) scIsLot.nd rfl (Or.inl rfl) (pv 3)))))
    (pss_one (ps_ret pe_bl)))), ?_⟩
  refine ⟨_, rfl, _, _, _, _, true, rfl, .ty "tuple", tyT ha, kIsTup, true, rfl, iteF ?_⟩
  refine ⟨_, rfl, _, rfl, a, rfl, ⟨_, ha⟩, ?_⟩
  refine for_tup (xs := l.map iv) (fun i σ H' => H' = H ∧ ∃ (z : Int) (v : Option V), σ = [some (.ref a), some (iv n), some (.int z), v] ∧ ∀ j x, i ≤ j → l[j]? = some x → z < (x : Int)) ⟨rfl, -1, none, rfl, fun j x _ _ => by omega⟩ (fun i σ H' _ h => by rw [h.1]; exact ha) ?_ ?_
  · rintro i y σ H' hi ⟨rfl, z, v, rfl, hz⟩
    rw [List.getElem?_map] at hi
    cases hx : l[i]? with
    | none => rw [hx] at hi; cases hi
    | some x =>
      rw [hx] at hi
      cases hi
      have h1 := hz i x (Nat.le_refl _) hx
      have h2 := hl.2 x (List.mem_of_getElem? hx)
      refine ⟨_, rfl, _, rfl, _, _, rfl, rfl, _, rfl, _, _, rfl, rfl, _, _, _, rfl, by omega, by omega, true, rfl, iteF ⟨_, rfl, rfl, _, _, rfl, fun j y hj hy => ?_⟩⟩
      have hp := List.pairwise_iff_getElem.mp hl.1
      obtain ⟨b1, e1⟩ := List.getElem?_eq_some_iff.mp hx
      obtain ⟨b2, e2⟩ := List.getElem?_eq_some_iff.mp hy
      have := hp i j b1 b2 (by omega)
      rw [e1, e2] at this
      omega
  · rintro σ H' ⟨rfl, _⟩
    exact q
def spAreParents (K : PySem.W.Frag) : Sp := fun vs H Q _ => ∃ (a : Addr) (n : Nat) (l : List Nat), vs = [.ref a, iv n] ∧ NT K H a l ∧ Lot n l ∧ l.length ≤ 6 ∧ Q (.bl true) H
theorem scAreParents : FnScope ["thing", "number"] ["thing", "number"] (defScope sAreParents) := ⟨rfl, rfl, rfl, by decide +kernel, rfl, by decide +kernel, by decide +kernel⟩
theorem calAreParents (T : Txt K mg) (c3 : Cal P w K mg base 3 "is_lot" (spIsLot K) []) (D : DefX K mg "are_parents" sAreParents) : Cal P w K mg base 4 "are_parents" (spAreParents K) [] := by
  refine mkCal D scAreParents (fun vs H Q E h => by obtain ⟨a, n, l, rfl, _⟩ := h; rfl) (fun _ _ _ _ _ _ us hl => match us, hl with | [_, _], _ => rfl) (fun f cdv A outer s H vs Q E hr h => ?_)
  obtain ⟨a, n, l, rfl, ha, hl, h6, q⟩ := h
  refine ⟨_, pss_one (ps_ret (pe_and (pe_c c3 hr (by decide) (by rfl) (pa_cons (pv 0) (pa_cons (pv 1) pa_nil)))
    (pe_one (pe_cmpR op_le (pe_callB call_len_seq (by rfl) T.len PySem.boot_len (pa_cons (pv 0) pa_nil)) (pe_gi (by rfl) T.mostP) (nomark _))))), ?_⟩
  refine ⟨_, rfl, _, rfl, a, n, l, rfl, ha, hl, true, rfl, iteT ⟨_, rfl, a, _, rfl, .inr ha, _, _, rfl, rfl, ?_⟩⟩
  exact qT (by rw [List.length_map]; omega) q
/-! ### many_of, is_one -/
def spManyOf (K : PySem.W.Frag) : Sp := fun vs H Q _ => ∃ (b : Addr) (ps : Par), vs = [.ref b] ∧ BookAt K H b ps ∧ Q (iv ps.length) H
theorem scManyOf : FnScope ["book"] ["book"] (defScope sManyOf) := ⟨rfl, rfl, rfl, by decide +kernel, rfl, by decide +kernel, by decide +kernel⟩
theorem calManyOf (T : Txt K mg) (D : DefX K mg "many_of" sManyOf) : Cal P w K mg base 1 "many_of" (spManyOf K) [] := by
  refine mkCal D scManyOf (fun vs H Q E h => by obtain ⟨b, ps, rfl, _⟩ := h; rfl) (fun _ _ _ _ _ _ us hl => match us, hl with | [_], _ => rfl) (fun f cdv A outer s H vs Q E hr h => ?_)
  obtain ⟨b, ps, rfl, ⟨dx, tp, bl, h1, ⟨as, h2, h3⟩, h4⟩, q⟩ := h
  refine ⟨_, pss_one (ps_ret (pe_callB call_len_seq (by rfl) T.len PySem.boot_len (pa_cons (pe_fld (pv 0) rfl) pa_nil))), ?_⟩
  refine ⟨_, rfl, b, _, dx, _, _, rfl, h1, T.clB, T.bPar, bk_par _ _, tp, _, rfl, .inr h2, ?_⟩
  show Q (V.int _) H
  rw [List.length_map, h3.1]
  exact q
def spIsOne (K : PySem.W.Frag) : Sp := fun vs H Q _ => ∃ (b : Addr) (ps : Par) (x p : Nat), vs = [.ref b, iv x, iv p] ∧ BookAt K H b ps ∧ x < ps.length ∧ Q (.bl (isA ps x p)) H
theorem scIsOne : FnScope ["book", "x", "p"] ["book", "x", "p"] (defScope sIsOne) := ⟨rfl, rfl, rfl, by decide +kernel, rfl, by decide +kernel, by decide +kernel⟩
theorem bit_test (b p : Nat) : Builtin.bitAnd ((b : Int) / 2 ^ ((p : Int)).toNat) 1 = if b.testBit p then 1 else 0 := by
  have e2 : ((b : Int) / 2 ^ ((p : Int)).toNat) = ((b / 2 ^ p : Nat) : Int) := by
    rw [Int.toNat_natCast, Int.natCast_ediv, Int.natCast_pow]
    rfl
  have h := Bits.bitAnd_mask (x := ((b / 2 ^ p : Nat) : Int)) 1 (Int.natCast_nonneg _)
  rw [e2]
  have h' : Builtin.bitAnd ((b / 2 ^ p : Nat) : Int) 1 = ((b / 2 ^ p : Nat) : Int) % 2 := h
  rw [h', Nat.testBit_eq_decide_div_mod_eq]
  by_cases hc : b / 2 ^ p % 2 = 1
  · rw [if_pos (decide_eq_true hc)]
    omega
  · rw [if_neg (by rw [decide_eq_false hc]; exact Bool.false_ne_true)]
    omega
theorem calIsOne (T : Txt K mg) (D : DefX K mg "is_one" sIsOne) : Cal P w K mg base 1 "is_one" (spIsOne K) [] := by
  refine mkCal D scIsOne (fun vs H Q E h => by obtain ⟨b, ps, x, p, rfl, _⟩ := h; rfl) (fun _ _ _ _ _ _ us hl => match us, hl with | [_, _, _], _ => rfl) (fun f cdv A outer s H vs Q E hr h => ?_)
  obtain ⟨b, ps, x, p, rfl, ⟨dx, tp, bl, h1, h2, h3⟩, hx, q⟩ := h
  refine ⟨_, pss_one (ps_ret (pe_cmpR op_eq (pe_op op_and (pe_op op_shr (pe_ix ix_list (pe_fld (pv 0) rfl) (pv 1) (fun _ _ => rfl)) (pv 2)) pe_int) pe_int (nomark _))), ?_⟩
  have hb : (bitsL ps)[x]? = some ((bitsL ps).getD x 0) := by
    rw [List.getD_eq_getElem?_getD, List.getElem?_eq_getElem (by rw [bitsL_length]; exact hx)]
    rfl
  refine ⟨_, rfl, b, _, dx, _, _, rfl, h1, T.clB, T.bBit, bk_bit _ _, _, rfl, bl, _, _, _, rfl, rfl, SqL.of h3, atI_nat (by rw [List.getElem?_map, hb]; rfl), _, rfl, _, _, rfl, rfl, Int.natCast_nonneg _, _, _, rfl, rfl, rfl, ?_⟩
  show Q (.bl (decide (V.int (Builtin.bitAnd (((bitsL ps).getD x 0 : Nat) / 2 ^ ((p : Int)).toNat) 1) = V.int 1))) H
  rw [bit_test]
  have e : decide (V.int (if ((bitsL ps).getD x 0).testBit p then 1 else 0) = V.int 1) = isA ps x p := by
    unfold isA
    cases ((bitsL ps).getD x 0).testBit p <;> decide
  rw [e]
  exact q
end
end K32
set_option Elab.async false
set_option linter.all false
set_option maxRecDepth 100000
set_option maxHeartbeats 4000000
namespace K32
open PySem PySem.Spec L2 C8
theorem bk_put1 (v w : V) (fs : List (Str × V)) (h : fs = [] ∨ ∃ a b, fs = bkF a b) (tp l : Addr) : putF "bits" (.ref l) (putF "parents" (.ref tp) fs) = bkF tp l ∧ (putF ("parents" : Str) (.ref tp) fs).length ≤ 2 := by
  have n1 : ¬ (("parents" : Str) = "bits") := by decide +kernel
  have n2 : ¬ (("bits" : Str) = "parents") := by decide +kernel
  rcases h with rfl | ⟨a, b, rfl⟩
  · refine ⟨?_, by show 1 ≤ 2; decide⟩
    show (if ("parents" : Str) = "bits" then _ else (("parents" : Str), V.ref tp) :: [(("bits" : Str), V.ref l)]) = _
    rw [if_neg n1]
  · have e : putF ("parents" : Str) (.ref tp) (bkF a b) = bkF tp b := by
      show (if ("parents" : Str) = "parents" then (("parents" : Str), V.ref tp) :: [(("bits" : Str), V.ref b)] else _) = _
      rw [if_pos rfl]
    refine ⟨?_, by rw [e]; exact Nat.le_refl 2⟩
    rw [e]
    show (if ("parents" : Str) = "bits" then _ else (("parents" : Str), V.ref tp) :: (if ("bits" : Str) = "bits" then [(("bits" : Str), V.ref l)] else _)) = _
    rw [if_neg n1, if_pos rfl]
theorem bitOr_nat (a b : Nat) : Builtin.bitOr (a : Int) (b : Int) = ((a ||| b : Nat) : Int) := by
  rw [Bits.bitOr_pp (Int.natCast_nonneg _) (Int.natCast_nonneg _)]
  rfl
theorem size1000 {n : Nat} (h : n ≤ 1000) : n < sizeLine := small1000 h
section
variable {P : Program} {w : World} {K : PySem.W.Frag} {mg : Str → Option Value} {base : Heap}
def spFill (K : PySem.W.Frag) : Sp := fun vs H Q _ => ∃ (p dx tp : Addr) (fs : List (Str × V)) (ps : Par), vs = [.ref p, .ref tp] ∧ H p = some (.ins (cB K) dx fs) ∧ (fs = [] ∨ ∃ a b, fs = bkF a b) ∧ PT K H tp ps ∧ Valid ps ∧ ps.length ≤ 400 ∧
  ∀ H', Fr1 [p] H H' → BookAt K H' p ps → Q .non H'
theorem scFill : FnScope ["self", "parents", "number", "item", "found", "parent"] ["self", "parents"] (defScope sBookFill) := ⟨rfl, rfl, rfl, by decide +kernel, rfl, by decide +kernel, by decide +kernel⟩
theorem metFill (T : Txt K mg) (D : MetX K (cB K) "fill" "Book.fill" sBookFill) : Met P w K mg base 1 (cB K) "fill" (spFill K) [] := by
  refine mkMet D scFill (fun vs H Q E h => by obtain ⟨p, dx, tp, fs, ps, rfl, _⟩ := h; rfl) (fun _ _ _ _ _ _ us hl => match us, hl with | [_, _], _ => rfl) (fun f cdv A outer s H vs Q E hr h => ?_)
  obtain ⟨p, dx, tp, fs, ps, rfl, hp, hfs, hPT, hv, hlen, k⟩ := h
  refine ⟨_, pss_cons (ps_fld (pv 0) (pv 1) rfl) (pss_cons (ps_fld (pv 0) (pe_lst pa_nil) rfl)
    (pss_one (ps_for PassesOwn.never rfl (pi_enumT (by rfl) T.enumerate (pa_cons (pv 1) pa_nil)) (pg_tup rfl (pgs_cons (pg_name (i := 2) scFill.nd rfl (.inl rfl)) (pgs_cons (pg_name (i := 3) scFill.nd rfl (.inl rfl)) pgs_nil)))
      (pss_cons (ps_set (i := 4) scFill.nd rfl (Or.inl rfl) (pe_op op_shl pe_int (pv 2)))
      (pss_cons (ps_for PassesOwn.never rfl (pi_tup (pv 3)) (pg_name (i := 5) scFill.nd rfl (.inl rfl))
        (pss_one (ps_aug (i := 4) scFill.nd rfl (.inl rfl) (pe_ix ix_list (pe_fld (pv 0) rfl) (pv 5) (fun _ _ => rfl)) iop_or)))
      (pss_one (ps_expr (pe_bm PySem.F.plainAttrs_list PySem.F.slot_list_append PySem.F.type_list_append mt_append (pe_fld (pv 0) rfl) (pa_cons (pv 4) pa_nil))))))))), ?_⟩
  obtain ⟨as, hS, hN⟩ := hPT
  have np : NoT H p := noT_i hp
  have hfl := bk_put1 .non .non fs hfs tp
  have hfs2 : fs.length < 1000 := by
    rcases hfs with rfl | ⟨a, b, rfl⟩
    · show 0 < 1000; decide
    · show 2 < 1000; decide
  refine ⟨_, rfl, _, rfl, p, _, dx, _, rfl, hp, T.clB, T.bPar, hfs2, ?_⟩
  refine ⟨Nat.zero_le _, fun l hl => ⟨_, rfl, p, _, dx, _, rfl, ?_, T.clB, T.bBit, Nat.lt_of_le_of_lt (hfl l).2 (by decide), ?_⟩⟩
  · rw [upd_ne (ne_of_none upd_same hl), upd_same]
  have hl0 : H l = none := by
    rw [upd_ne (fun e => by rw [e, upd_same] at hl; cases hl)] at hl
    exact hl
  have nlp : l ≠ p := fun e => by rw [e, hp] at hl0; cases hl0
  rw [(hfl l).1]
  have fr0 : Fr1 [p] H (upd (upd (upd H p (.ins (cB K) dx (putF "parents" (.ref tp) fs))) l (.lst [])) p (.ins (cB K) dx (bkF tp l))) :=
    (((Fr1.refl [p] H).put (by simp)).new hl0).put (by simp)
  have tups : ∀ {H' : Hp}, Fr1 [p] H H' → ∀ {a : Addr} {xs : List V}, SqT K H a xs → SqT K H' a xs := fun {H'} e {a xs} h => Fr1.tup e (fun b hb => by rw [List.mem_singleton.mp hb]; exact np) h
  refine ⟨_, rfl, tp, _, rfl, tups fr0 hS, ?_⟩
  refine for_enumT (xs := as.map rv) (fun i σ H' => Fr1 [p] H H' ∧ H' p = some (.ins (cB K) dx (bkF tp l)) ∧ H' l = some (.lst ((bitsL (ps.take i)).map iv)) ∧ ∃ v2 v3 v4 v5 : Option V, σ = [some (.ref p), some (.ref tp), v2, v3, v4, v5])
    ⟨fr0, upd_same, by rw [upd_ne nlp, upd_same]; rfl, none, none, none, none, rfl⟩ (fun i σ H' _ h => tups h.1 hS) ?_ ?_
  · rintro i y σ H' Tt hi ⟨fr, e1, e2, v2, v3, v4, v5, rfl⟩ hT
    rw [List.getElem?_map] at hi
    cases ha : as[i]? with
    | none => rw [ha] at hi; cases hi
    | some a =>
      rw [ha] at hi
      cases hi
      have hil : i < ps.length := by
        rw [← hN.1]
        exact (List.getElem?_eq_some_iff.mp ha).1
      have hpl := List.getElem?_eq_getElem hil
      generalize ps[i] = it at hpl
      have hit : NT K H a it := hN.2 i a it ha hpl
      have hbl : (bitsL (ps.take i)).length = i := by rw [bitsL_length, List.length_take]; omega
      have npT : p ≠ Tt := ne_of_none e1 hT
      have nlT : l ≠ Tt := ne_of_none e2 hT
      have hT0 : H Tt = none := fr.free hT (fun m => npT (List.mem_singleton.mp m).symm)
      have frT : Fr1 [p] H (upd H' Tt (.tup [.int (i : Nat), rv a])) := fr.new hT0
      refine ⟨Tt, _, rfl, .inl (.inl upd_same), rfl, _, _, rfl, _, _, rfl, rfl, ?_⟩
      refine ⟨_, rfl, _, _, rfl, rfl, ⟨Int.natCast_nonneg _, by omega, by decide⟩, ?_⟩
      refine ⟨_, rfl, a, rfl, ⟨_, tups frT hit⟩, ?_⟩
      refine for_tup (xs := it.map iv) (fun j σ H2 => H2 = upd H' Tt (.tup [.int (i : Nat), rv a]) ∧ ∃ v : Option V, σ = [some (.ref p), some (.ref tp), some (iv i), some (rv a), some (iv ((it.take j).foldl (fun f q => f ||| (bitsL (ps.take i)).getD q 0) (2 ^ i))), v]) ?_ (fun j σ H2 _ h => by rw [h.1]; exact tups frT hit) ?_ ?_
      · refine ⟨rfl, v5, ?_⟩
        show _ = [some (V.ref p), some (V.ref tp), some (iv i), some (rv a), some (iv (2 ^ i)), v5]
        have e : (1 : Int) * 2 ^ ((i : Int)).toNat = ((2 ^ i : Nat) : Int) := by
          rw [Int.toNat_natCast, Int.one_mul, Int.natCast_pow]
          rfl
        show [some (V.ref p), some (V.ref tp), some (iv i), some (rv a), some (V.int ((1 : Int) * 2 ^ ((i : Int)).toNat)), v5] = _
        rw [e]
      · rintro j y σ H2 hj ⟨rfl, v, rfl⟩
        rw [List.getElem?_map] at hj
        cases hq : it[j]? with
        | none => rw [hq] at hj; cases hj
        | some q =>
          rw [hq] at hj
          cases hj
          have hqi : q < i := (hv i it hpl).1.2 q (List.mem_of_getElem? hq)
          have hgb : (bitsL (ps.take i))[q]? = some ((bitsL (ps.take i)).getD q 0) := by
            rw [List.getD_eq_getElem?_getD, List.getElem?_eq_getElem (by omega)]
            rfl
          refine ⟨_, rfl, _, rfl, p, _, dx, _, _, rfl, by rw [upd_ne npT]; exact e1, T.clB, T.bBit, bk_bit _ _, _, rfl, l, _, _, _, rfl, rfl, SqL.of (by rw [upd_ne nlT]; exact e2), atI_nat (by rw [List.getElem?_map, hgb]; rfl), _, _, rfl, rfl, rfl, some (iv q), ?_⟩
          show [some (V.ref p), some (V.ref tp), some (iv i), some (rv a), some (V.int (Builtin.bitOr _ _)), some (iv q)] = _
          rw [bitOr_nat, List.take_add_one, hq, List.foldl_append]
          rfl
      · rintro σ H2 ⟨rfl, v, rfl⟩
        rw [List.length_map, List.take_length]
        refine ⟨_, rfl, p, _, dx, _, _, rfl, by rw [upd_ne npT]; exact e1, T.clB, T.bBit, bk_bit _ _, .inl ⟨rfl, _, SqL.of (by rw [upd_ne nlT]; exact e2)⟩, _, rfl, l, _, _, rfl, rfl, by rw [upd_ne nlT]; exact e2, ?_, ?_⟩
        · rw [List.length_map, hbl]
          exact size1000 (by omega)
        · refine ⟨frT.new hl0, ?_, ?_, _, _, _, _, rfl⟩
          · rw [upd_ne (Ne.symm nlp), upd_ne npT]
            exact e1
          · rw [upd_same, bitsL_take_succ hpl]
            show some (HO.lst _) = some (HO.lst _)
            congr 2
            rw [List.map_append]
            show _ = _ ++ [iv (bitsStep (bitsL (ps.take i)) it)]
            unfold bitsStep
            rw [hbl]
  · rintro σ H' ⟨fr, e1, e2, _⟩
    rw [List.length_map, hN.1, List.take_length] at e2
    exact k H' fr ⟨dx, tp, l, e1, ⟨as, tups fr hS, hN.imp fun a l q => tups fr q⟩, e2⟩
end
end K32
set_option Elab.async false
set_option linter.all false
set_option maxRecDepth 100000
set_option maxHeartbeats 4000000
namespace K32
open PySem PySem.Spec L2 C8
theorem Fr1.of_same {S : List Addr} {H H1 H2 : Hp} (a : Same H H1) (b : Fr1 S H1 H2) : Fr1 S H H2 := fun c o h m => b c o (a c o h) m
theorem BookAt.fr {K : PySem.W.Frag} {H H' : Hp} {b : Addr} {ps : Par} {S : List Addr} (h : BookAt K H b ps) (e : Fr1 S H H') (n : ∀ s ∈ S, NoT H s) (hb : b ∉ S) (hbl : ∀ bl xs, H bl = some (.lst xs) → bl ∈ S → False) : BookAt K H' b ps :=
  let ⟨dx, tp, bl, h1, h2, h3⟩ := h
  ⟨dx, tp, bl, e _ _ h1 hb, h2.imp fun _ _ q => e.tup n q, e _ _ h3 (hbl _ _ h3)⟩
theorem sTr {H H1 H2 : Hp} {x : Addr} (a : Same H H1) (b : Fr1 [x] H1 H2) (h : H x = none) : Same H H2 := sFr a b fun s hs => by rw [List.mem_singleton.mp hs]; exact h
/-- a dict comprehension over enumerate(a tuple) -/
theorem dc_enumT {K : PySem.W.Frag} {a : Addr} {xs : List V} {g : TG} {tt : TT} {tk tv : TE} {vs : List Nat} {σ : St} {H1 : Hp} {D : Addr} {Qd : Hp → Prop} (Pv : Nat → Hp → Prop) (h0 : Pv 0 (upd H1 D (.dK []))) (hl : ∀ i H, i ≤ xs.length → Pv i H → SqT K H a xs)
    (hs : ∀ i x H T, xs[i]? = some x → Pv i H → H T = none → g (.ref T) (wipe σ vs) (upd H T (.tup [.int (i : Nat), x])) fun σ2 H2 => wipe σ2 vs = wipe σ vs ∧ tt σ2 H2 fun b H3 =>
      if b = true then tk σ2 H3 fun y H4 => tv σ2 H4 fun z H5 => ∃ kvs k, y = kV k ∧ H5 D = some (.dK kvs) ∧ kvs.length < sizeLine ∧ Pv (i + 1) (upd H5 D (.dK (putK kvs k z))) else Pv (i + 1) H3) (hd : ∀ H, Pv xs.length H → Qd H) :
    ∃ W : Nat → Nat → Hp → Prop, (∃ m, W 0 m (upd H1 D (.dK []))) ∧ ∀ i m H, W i m H →
      ((IteT K a).stop i H ∧ Qd H) ∨ ((IteT K a).go i H ∧ ∃ Nx : Hp → Prop, (∀ H', Nx H' → ∃ m', m' < m ∧ W (i + 1) m' H') ∧ ∀ x H', (IteT K a).yld i H x H' → g x (wipe σ vs) H' fun σ2 H2 => wipe σ2 vs = wipe σ vs ∧ tt σ2 H2 fun b H3 =>
        if b = true then tk σ2 H3 fun y H4 => tv σ2 H4 fun z H5 => ∃ kvs k, y = kV k ∧ H5 D = some (.dK kvs) ∧ kvs.length < sizeLine ∧ Nx (upd H5 D (.dK (putK kvs k z))) else Nx H3) := by
  refine ⟨fun i m H => m = xs.length - i ∧ i ≤ xs.length ∧ Pv i H, ⟨xs.length, rfl, Nat.zero_le _, h0⟩, ?_⟩
  rintro i m H ⟨rfl, hi, p⟩
  have q := hl i H hi p
  by_cases hlt : i < xs.length
  · refine .inr ⟨⟨xs, xs[i], q, by simp [hlt]⟩, Pv (i + 1), fun H' p' => ⟨_, by omega, rfl, hlt, p'⟩, fun x H' y => ?_⟩
    obtain ⟨T, z, rfl, hT, rfl, hz⟩ := y
    exact hs i z _ T (hz xs q) p hT
  · obtain rfl : i = xs.length := by omega
    exact .inl ⟨⟨xs, q, rfl⟩, hd H p⟩
section
variable {P : Program} {w : World} {K : PySem.W.Frag} {mg : Str → Option Value} {base : Heap}
/-! ### Book.__init__, book_of -/
def spBookInit (K : PySem.W.Frag) : Sp := fun vs H Q _ => ∃ (p dx tp : Addr) (ps : Par), vs = [.ref p, .ref tp] ∧ H p = some (.ins (cB K) dx []) ∧ PT K H tp ps ∧ Valid ps ∧ ps.length ≤ 400 ∧ ∀ H', Fr1 [p] H H' → BookAt K H' p ps → Q .non H'
theorem scBookInit : FnScope ["self", "parents", "number", "item"] ["self", "parents"] (defScope sBookInit) := ⟨rfl, rfl, rfl, by decide +kernel, rfl, by decide +kernel, by decide +kernel⟩
structure MakX (K : PySem.W.Frag) (mg : Str → Option Value) (x q : Str) (st : Stmt) : Prop where
  ex : ∃ (f : Addr) (fd : FuncData), FunD K "__init__" q (defArgs st) (defBody st) (defScope st) [] [] f fd ∧ Mk K (He.ga K x) f ∧ mg x = some (.ref (He.ga K x))
theorem mkMak {x q : Str} {st : Stmt} {N ps : List Str} {k : Nat} {sp : Sp} (D : MakX K mg x q st) (S : FnScope N ps (defScope st)) (len : ∀ vs H Q E, sp vs H Q E → vs.length = ps.length)
    (hb : ∀ (kV doc pm : Value) (an : Option Addr) (cdv ct : Value) (us : List Value), us.length = ps.length → bindArgs (PySem.W.fnOf "__init__" q (defArgs st) (defBody st) (defScope st) .none kV doc pm an cdv ct) ⟨us, []⟩ = pure (ps.zip us))
    (hbody : ∀ (f : Addr) (cdv : Value) (A : Around) (outer : List Env) (s : Shared) (H : Hp) (vs : List V) (Q : VK) (E : XK), Room k (A.deeper (PyProof.Rows.envOfC q (defScope st) s.heap.objs.size f cdv)) → sp vs H Q E →
      ∃ t, PSs (cxOf L2.CX0 P w K mg base N q (defScope st) f cdv A outer s H E).nox (defBody st) t ∧ t { nx := fun _ H' => Q .non H', rt := Q } (start N vs) H) : Mak P w K mg base (k + 1) x (He.ga K x) sp [] := by
  obtain ⟨f, fd, F, M, hm⟩ := D.ex
  refine ⟨f, fd, ps, [], M, F.ok S len fun cdv A outer s H vs Q E hr h => ?_, hm, F.bindsN hb, .nil⟩
  obtain ⟨t, h1, h2⟩ := hbody f cdv A outer s H vs Q E hr h
  exact ⟨t, h1.nox, h2⟩
theorem makBook (T : Txt K mg) (c4 : Cal P w K mg base 4 "are_parents" (spAreParents K) []) (mf : Met P w K mg base 1 (cB K) "fill" (spFill K) []) (D : MakX K mg "Book" "Book.__init__" sBookInit) : Mak P w K mg base 5 "Book" (cB K) (spBookInit K) [] := by
  refine mkMak D scBookInit (fun vs H Q E h => by obtain ⟨p, dx, tp, ps, rfl, _⟩ := h; rfl) (fun _ _ _ _ _ _ us hl => match us, hl with | [_, _], _ => rfl) (fun f cdv A outer s H vs Q E hr h => ?_)
  obtain ⟨p, dx, tp, ps, rfl, hp, hPT, hv, hlen, k⟩ := h
  refine ⟨_, pss_cons (ps_if (PW.pt (pw_or (pt_not (pt_val (pe_callB call_isi (by rfl) T.isinstance (by decide +kernel) (pa_cons (pv 1) (pa_cons (pe_ty "tuple" (by rfl) T.tuple (by decide +kernel)) pa_nil)))))
      (pw_or1 (pt_cmpR op_gt (pe_callB call_len_seq (by rfl) T.len PySem.boot_len (pa_cons (pv 1) pa_nil)) (pe_gi (by rfl) T.mostK) (nomark _))))) pss_never pss_nil)
    (pss_cons (ps_for PassesOwn.never rfl (pi_enumT (by rfl) T.enumerate (pa_cons (pv 1) pa_nil)) (pg_tup rfl (pgs_cons (pg_name (i := 2) scBookInit.nd rfl (.inl rfl)) (pgs_cons (pg_name (i := 3) scBookInit.nd rfl (.inl rfl)) pgs_nil)))
      (pss_one (ps_if (pt_not (pt_val (pe_c c4 hr (by decide) (by rfl) (pa_cons (pv 3) (pa_cons (pv 2) pa_nil))))) pss_never pss_nil)))
    (pss_one (ps_expr (pe_mt mf hr (by decide) (pv 0) (pa_cons (pv 1) pa_nil))))), ?_⟩
  obtain ⟨as, hS, hN⟩ := hPT
  refine ⟨_, rfl, _, _, _, _, true, rfl, .ty "tuple", tyT hS, kIsTup, true, rfl, iteF ?_⟩
  refine ⟨_, rfl, tp, _, rfl, .inr hS, _, _, rfl, rfl, false, ?_, iteF ?_⟩
  · exact blF (by rw [List.length_map, hN.1]; omega)
  refine ⟨_, rfl, tp, _, rfl, hS, ?_⟩
  refine for_enumT (xs := as.map rv) (fun i σ H' => Same H H' ∧ ∃ v2 v3 : Option V, σ = [some (.ref p), some (.ref tp), v2, v3]) ⟨Same.refl H, none, none, rfl⟩ (fun i σ H' _ h => sTup h.1 hS) ?_ ?_
  · rintro i y σ H' Tt hi ⟨sm, v2, v3, rfl⟩ hT
    rw [List.getElem?_map] at hi
    cases ha : as[i]? with
    | none => rw [ha] at hi; cases hi
    | some a =>
      rw [ha] at hi
      cases hi
      have hil : i < ps.length := by
        rw [← hN.1]
        exact (List.getElem?_eq_some_iff.mp ha).1
      have hpl := List.getElem?_eq_getElem hil
      have sT : Same H (upd H' Tt (.tup [.int (i : Nat), rv a])) := sNew sm (sm.free hT)
      refine ⟨Tt, _, rfl, .inl (.inl upd_same), rfl, _, _, rfl, _, _, rfl, rfl, ?_⟩
      exact ⟨_, rfl, _, rfl, a, i, ps[i], rfl, (hN.2 i a _ ha hpl).same sT, (hv i _ hpl).1, (hv i _ hpl).2, true, rfl, iteF ⟨sT, _, _, rfl⟩⟩
  · rintro σ H' ⟨sm, v2, v3, rfl⟩
    refine ⟨_, rfl, p, dx, _, rfl, sm _ _ hp, rfl, _, rfl, p, dx, tp, [], ps, rfl, sm _ _ hp, .inl rfl, ⟨as, sTup sm hS, hN.same sm⟩, hv, hlen, fun H2 fr bk => ?_⟩
    exact k H2 (Fr1.of_same sm fr) bk
def spBookOf (K : PySem.W.Frag) : Sp := fun vs H Q _ => ∃ (l : Addr) (as : List Addr) (ps : Par), vs = [.ref l] ∧ SqL K H l (as.map rv) ∧ Nts K H as ps ∧ Valid ps ∧ ps.length ≤ 400 ∧ ∀ H' b, Same H H' → BookAt K H' b ps → Q (.ref b) H'
theorem scBookOf : FnScope ["parents", "found"] ["parents"] (defScope sBookOf) := ⟨rfl, rfl, rfl, by decide +kernel, rfl, by decide +kernel, by decide +kernel⟩
theorem calBookOf (T : Txt K mg) (mk : Mak P w K mg base 5 "Book" (cB K) (spBookInit K) []) (mf : Met P w K mg base 1 (cB K) "fill" (spFill K) []) (D : DefX K mg "book_of" sBookOf) : Cal P w K mg base 7 "book_of" (spBookOf K) [] := by
  refine mkCal D scBookOf (fun vs H Q E h => by obtain ⟨p, as, ps, rfl, _⟩ := h; rfl) (fun _ _ _ _ _ _ us hl => match us, hl with | [_], _ => rfl) (fun f cdv A outer s H vs Q E hr h => ?_)
  obtain ⟨l, as, ps, rfl, hL, hN, hv, hlen, k⟩ := h
  refine ⟨_, pss_cons (ps_set (i := 1) scBookOf.nd rfl (Or.inl rfl) (pe_mk mk hr (by decide) (by rfl) (pa_cons (pe_tup pa_nil) pa_nil)))
    (pss_cons (ps_expr (pe_mt mf hr (by decide) (pv 1) (pa_cons (pe_callTy call_tuple_of (by rfl) T.tuple (by decide +kernel) (pa_cons (pv 0) pa_nil)) pa_nil)))
    (pss_one (ps_ret (pv 1)))), ?_⟩
  refine ⟨Nat.zero_le _, fun t ht x dx nx ndx nex => ?_⟩
  have s1 : Same H (upd H t (.tup [])) := sPut ht
  have s2 : Same H (upd (upd (upd H t (.tup [])) dx (.own x)) x (.ins (cB K) dx [])) := sNew (sNew s1 (s1.free ndx)) (s1.free nx)
  have nxt : x ≠ t := fun e => by rw [e, upd_same] at nx; cases nx
  have ndt : dx ≠ t := fun e => by rw [e, upd_same] at ndx; cases ndx
  refine ⟨x, dx, t, [], rfl, upd_same, ⟨[], .inl (.inl ?_), Nts.nil⟩, fun k l h => by simp at h, by decide, fun H1 fr bk => ?_⟩
  · rw [upd_ne (Ne.symm nxt), upd_ne (Ne.symm ndt), upd_same]
    rfl
  have hx0 : H x = none := s1.free nx
  have s3 : Same H H1 := sTr s2 fr hx0
  obtain ⟨dx1, tp1, bl1, b1, b2, b3⟩ := bk
  refine ⟨rfl, ?_⟩
  refine ⟨_, rfl, x, dx1, _, rfl, b1, bk_no _ _ (by decide +kernel) (by decide +kernel), _, rfl, l, _, rfl, .inl ⟨s3.seq hL, fun t2 ht2 => ?_⟩⟩
  have s4 : Same H (upd H1 t2 (.tup (as.map rv))) := sNew s3 (s3.free ht2)
  have nxt2 : x ≠ t2 := ne_of_none b1 ht2
  refine ⟨x, dx1, t2, _, ps, rfl, by rw [upd_ne nxt2]; exact b1, .inr ⟨_, _, rfl⟩, ⟨as, .inl (.inl upd_same), hN.same s4⟩, hv, hlen, fun H2 fr2 bk2 => ?_⟩
  refine ⟨_, rfl, k H2 x (sTr s4 fr2 hx0) bk2⟩
end
end K32
set_option Elab.async false
set_option linter.all false
set_option maxRecDepth 100000
set_option maxHeartbeats 4000000
namespace K32
open PySem PySem.Spec L2 C8
theorem yes {σ : St} {H : Hp} {A B : Hp → Prop} (h : A H) : tYes σ H (fun b H3 => if b = true then A H3 else B H3) := by
  show (if true = true then A H else B H)
  rw [if_pos rfl]
  exact h
theorem ne_mem {as : List Addr} {a c : Addr} (h : a ∈ as) (n : c ∉ as) : a ≠ c := fun e => n (e ▸ h)
/-! rules of a block, the written part named -/
theorem fldK {X : Cx} (K : PySem.W.Frag) {e : Expr} {ta : TE} {f : Str} {pos : Pos} (he : PE X e ta) (hb : attributeBase e f X.env (eval e X.env) = eval e X.env) (hK : X.K = K := by rfl) : PE X (.Attribute e f pos) (tFld K ta f) := by
  rw [← hK]
  exact pe_fld he hb
theorem ixLK {X : Cx} (K : PySem.W.Frag) (hK : X.K = K := by rfl) : IxR X (rIxL K) := by
  rw [← hK]
  exact ix_list
theorem ixTK {X : Cx} (K : PySem.W.Frag) (hK : X.K = K := by rfl) : IxR X (rIxT K) := by
  rw [← hK]
  exact ix_tup
theorem lenK {X : Cx} (K : PySem.W.Frag) (hK : X.K = K := by rfl) : CallR X (.builtin "len") (fun xs H Q => ∃ p ys, xs = [.ref p] ∧ (SqL K H p ys ∨ SqT K H p ys) ∧ Q (.int ys.length) H) := by
  rw [← hK]
  exact call_len_seq
/-! ### lists of lists of naturals in the heap -/
def LL (H : Hp) (as : List Addr) (ls : List (List Nat)) : Prop := as.length = ls.length ∧ ∀ (i : Nat) (a : Addr) (l : List Nat), as[i]? = some a → ls[i]? = some l → H a = some (.lst (l.map iv))
theorem LL.mem {H : Hp} {as : List Addr} {ls : List (List Nat)} (h : LL H as ls) {a : Addr} (m : a ∈ as) : ∃ l : List Nat, H a = some (.lst (l.map iv)) := by
  obtain ⟨i, hi, e⟩ := List.mem_iff_getElem.mp m
  have hl : i < ls.length := by rw [← h.1]; exact hi
  exact ⟨ls[i], h.2 i a _ (by rw [List.getElem?_eq_getElem hi, e]) (List.getElem?_eq_getElem hl)⟩
theorem LL.nmem {H : Hp} {as : List Addr} {ls : List (List Nat)} (h : LL H as ls) {a : Addr} (n : H a = none) : a ∉ as := fun m => by
  obtain ⟨l, e⟩ := h.mem m
  rw [n] at e
  cases e
theorem LL.at {H : Hp} {as : List Addr} {ls : List (List Nat)} (h : LL H as ls) {i : Nat} {l : List Nat} (e : ls[i]? = some l) : ∃ a, as[i]? = some a ∧ a ∈ as ∧ H a = some (.lst (l.map iv)) := by
  have hi : i < as.length := by rw [h.1]; exact (List.getElem?_eq_some_iff.mp e).1
  exact ⟨as[i], List.getElem?_eq_getElem hi, List.getElem_mem hi, h.2 i _ l (List.getElem?_eq_getElem hi) e⟩
theorem LL.out {H : Hp} {as : List Addr} {ls : List (List Nat)} {c : Addr} {o : HO} (h : LL H as ls) (n : c ∉ as) : LL (upd H c o) as ls :=
  ⟨h.1, fun i a l x y => by rw [upd_ne (ne_mem (List.mem_of_getElem? x) n)]; exact h.2 i a l x y⟩
theorem LL.same {H H' : Hp} {as : List Addr} {ls : List (List Nat)} (h : LL H as ls) (e : Same H H') : LL H' as ls := ⟨h.1, fun i a l x y => e _ _ (h.2 i a l x y)⟩
theorem LL.put {H : Hp} {as : List Addr} {ls : List (List Nat)} {i : Nat} {a : Addr} {l' : List Nat} (h : LL H as ls) (nd : as.Nodup) (x : as[i]? = some a) : LL (upd H a (.lst (l'.map iv))) as (ls.set i l') := by
  refine ⟨by rw [List.length_set]; exact h.1, fun j b l xj y => ?_⟩
  by_cases hj : j = i
  · subst hj
    rw [x] at xj
    cases xj
    rw [List.getElem?_set_self (by rw [← h.1]; exact (List.getElem?_eq_some_iff.mp x).1)] at y
    cases y
    exact upd_same
  · rw [List.getElem?_set_ne (Ne.symm hj)] at y
    have nb : b ≠ a := fun e => hj (nd_ix nd (e ▸ xj) x)
    rw [upd_ne nb]
    exact h.2 j b l xj y
theorem LL.snoc {H : Hp} {as : List Addr} {ls : List (List Nat)} {a : Addr} {l : List Nat} (h : LL H as ls) (q : H a = some (.lst (l.map iv))) : LL H (as ++ [a]) (ls ++ [l]) := by
  refine ⟨by simp [h.1], fun i b m x y => ?_⟩
  by_cases hi : i < as.length
  · rw [List.getElem?_append_left hi] at x
    rw [List.getElem?_append_left (by rw [← h.1]; exact hi)] at y
    exact h.2 i b m x y
  · rw [List.getElem?_append_right (by omega)] at x
    rw [List.getElem?_append_right (by rw [← h.1]; omega), ← h.1] at y
    have e0 : i - as.length = 0 := by
      have := (List.getElem?_eq_some_iff.mp x).1
      simp at this
      omega
    rw [e0] at x y
    cases x
    cases y
    exact q
theorem LL.repl {H : Hp} {as : List Addr} {ls : List (List Nat)} {i : Nat} {a : Addr} {l' : List Nat} (h : LL H as ls) (q : H a = some (.lst (l'.map iv))) : LL H (as.set i a) (ls.set i l') := by
  refine ⟨by simp [h.1], fun j b l x y => ?_⟩
  by_cases hj : j = i
  · subst hj
    have hl : j < as.length := by
      have := (List.getElem?_eq_some_iff.mp x).1
      simpa using this
    rw [List.getElem?_set_self hl] at x
    rw [List.getElem?_set_self (by rw [← h.1]; exact hl)] at y
    cases x
    cases y
    exact q
  · rw [List.getElem?_set_ne (Ne.symm hj)] at x y
    exact h.2 j b l x y
theorem nodup_set {α : Type} : ∀ {l : List α} {i : Nat} {a : α}, l.Nodup → a ∉ l → (l.set i a).Nodup
  | [], _, _, _, _ => List.nodup_nil
  | x :: r, 0, a, h, n => by
    rw [List.set_cons_zero, List.nodup_cons]
    exact ⟨fun m => n (List.mem_cons_of_mem _ m), (List.nodup_cons.mp h).2⟩
  | x :: r, i + 1, a, h, n => by
    rw [List.set_cons_succ, List.nodup_cons]
    obtain ⟨h1, h2⟩ := List.nodup_cons.mp h
    refine ⟨fun m => ?_, nodup_set h2 fun m => n (List.mem_cons_of_mem _ m)⟩
    rcases List.mem_or_eq_of_mem_set m with m | m
    · exact h1 m
    · exact n (m ▸ List.mem_cons_self)
theorem nodup_snoc {α : Type} {l : List α} {a : α} (h : l.Nodup) (n : a ∉ l) : (l ++ [a]).Nodup := by
  rw [List.nodup_append]
  refine ⟨h, by simp, fun x hx y hy e => ?_⟩
  obtain rfl : y = a := by simpa using hy
  exact n (e ▸ hx)
/-! ### the groups' object; H0: all that is not its own -/
abbrev gF (L D : Addr) : List (Str × V) := [("lots", .ref L), ("held", .ref D)]
theorem gf_lot (L D : Addr) : (gF L D).lookup ("lots" : Str) = some (.ref L) := by
  rw [lookup_put, if_pos rfl]
theorem gf_hel (L D : Addr) : (gF L D).lookup ("held" : Str) = some (.ref D) := by
  rw [lookup_put, if_neg (by decide +kernel), lookup_put, if_pos rfl]
theorem gf_no (L D : Addr) {m : Str} (h1 : ¬ m = "lots") (h2 : ¬ m = "held") : (gF L D).lookup m = none := by
  rw [lookup_put, if_neg h1, lookup_put, if_neg h2]
  rfl
structure GLx (K : PySem.W.Frag) (H0 H : Hp) (g dx L D : Addr) (la ha : List Addr) (lots helds : List (List Nat)) : Prop where
  sm : Same H0 H
  ng : H0 g = none
  nL : H0 L = none
  nD : H0 D = none
  nla : ∀ c ∈ la, H0 c = none
  nha : ∀ c ∈ ha, H0 c = none
  LD : L ≠ D
  Lla : L ∉ la
  Lha : L ∉ ha
  Dla : D ∉ la
  Dha : D ∉ ha
  ndl : la.Nodup
  ndh : ha.Nodup
  dis : ∀ c ∈ la, c ∉ ha
  hg : H g = some (.ins (cG K) dx (gF L D))
  hL : H L = some (.lst (la.map rv))
  hD : H D = some (.lst (ha.map rv))
  lots : LL H la lots
  held : LL H ha helds
def GL (K : PySem.W.Frag) (H0 H : Hp) (g : Addr) (lots helds : List (List Nat)) : Prop := ∃ dx L D la ha, GLx K H0 H g dx L D la ha lots helds
section
variable {K : PySem.W.Frag} {H0 H : Hp} {g dx L D : Addr} {la ha : List Addr} {lots helds : List (List Nat)}
theorem sIn {c : Addr} {o : HO} (s : Same H0 H) (n : H0 c = none) : Same H0 (upd H c o) := sNew s n
theorem GLx.gne (x : GLx K H0 H g dx L D la ha lots helds) {c : Addr} {xs : List V} (h : H c = some (.lst xs)) : g ≠ c := fun e => by
  have := x.hg
  rw [e, h] at this
  cases this
/-- one more, empty group -/
theorem GLx.addLot (x : GLx K H0 H g dx L D la ha lots helds) {a : Addr} (n : H a = none) :
    GLx K H0 (upd (upd H a (.lst [])) L (.lst (la.map rv ++ [rv a]))) g dx L D (la ++ [a]) ha (lots ++ [[]]) helds := by
  have aL : a ≠ L := ne_none n (by rw [x.hL]; exact Option.some_ne_none _)
  have aD : a ≠ D := ne_none n (by rw [x.hD]; exact Option.some_ne_none _)
  have ag : a ≠ g := ne_none n (by rw [x.hg]; exact Option.some_ne_none _)
  have a1 := x.lots.nmem n
  have a2 := x.held.nmem n
  have gL := x.gne x.hL
  have n0 := x.sm.free n
  have key : LL (upd (upd H a (.lst [])) L (.lst (la.map rv ++ [rv a]))) la lots := (x.lots.out a1).out x.Lla
  refine ⟨sIn (sIn x.sm n0) x.nL, x.ng, x.nL, x.nD, fun c hc => ?_, x.nha, x.LD, ?_, x.Lha, ?_, x.Dha, nodup_snoc x.ndl a1, x.ndh, fun c hc => ?_, ?_, ?_, ?_, key.snoc (l := []) ?_, (x.held.out a2).out x.Lha⟩
  · rcases List.mem_append.mp hc with h | h
    · exact x.nla c h
    · rw [List.mem_singleton.mp h]; exact n0
  · simp [x.Lla, Ne.symm aL]
  · simp [x.Dla, Ne.symm aD]
  · rcases List.mem_append.mp hc with h | h
    · exact x.dis c h
    · rw [List.mem_singleton.mp h]; exact a2
  · rw [upd_ne gL, upd_ne (Ne.symm ag)]; exact x.hg
  · rw [upd_same, List.map_append]; rfl
  · rw [upd_ne (Ne.symm x.LD), upd_ne (Ne.symm aD)]; exact x.hD
  · rw [upd_ne aL, upd_same]; rfl
/-- one more slot, given to nobody yet -/
theorem GLx.addHeld (x : GLx K H0 H g dx L D la ha lots helds) {a : Addr} (n : H a = none) :
    GLx K H0 (upd (upd H a (.lst [])) D (.lst (ha.map rv ++ [rv a]))) g dx L D la (ha ++ [a]) lots (helds ++ [[]]) := by
  have aL : a ≠ L := ne_none n (by rw [x.hL]; exact Option.some_ne_none _)
  have aD : a ≠ D := ne_none n (by rw [x.hD]; exact Option.some_ne_none _)
  have ag : a ≠ g := ne_none n (by rw [x.hg]; exact Option.some_ne_none _)
  have a1 := x.lots.nmem n
  have a2 := x.held.nmem n
  have gD := x.gne x.hD
  have n0 := x.sm.free n
  have key : LL (upd (upd H a (.lst [])) D (.lst (ha.map rv ++ [rv a]))) ha helds := (x.held.out a2).out x.Dha
  refine ⟨sIn (sIn x.sm n0) x.nD, x.ng, x.nL, x.nD, x.nla, fun c hc => ?_, x.LD, x.Lla, ?_, x.Dla, ?_, x.ndl, nodup_snoc x.ndh a2, fun c hc => ?_, ?_, ?_, ?_, (x.lots.out a1).out x.Dla, key.snoc (l := []) ?_⟩
  · rcases List.mem_append.mp hc with h | h
    · exact x.nha c h
    · rw [List.mem_singleton.mp h]; exact n0
  · simp [x.Lha, Ne.symm aL]
  · simp [x.Dha, Ne.symm aD]
  · intro m
    rcases List.mem_append.mp m with h | h
    · exact x.dis c hc h
    · exact a1 (List.mem_singleton.mp h ▸ hc)
  · rw [upd_ne gD, upd_ne (Ne.symm ag)]; exact x.hg
  · rw [upd_ne x.LD, upd_ne (Ne.symm aL)]; exact x.hL
  · rw [upd_same, List.map_append]; rfl
  · rw [upd_ne aD, upd_same]; rfl
/-- a group's own list is changed -/
theorem GLx.setLot (x : GLx K H0 H g dx L D la ha lots helds) {i : Nat} {a : Addr} {l' : List Nat} (h : la[i]? = some a) : GLx K H0 (upd H a (.lst (l'.map iv))) g dx L D la ha (lots.set i l') helds := by
  have m := List.mem_of_getElem? h
  obtain ⟨l0, e0⟩ := x.lots.mem m
  have ga := x.gne e0
  have La : L ≠ a := fun e => x.Lla (e ▸ m)
  have Da : D ≠ a := fun e => x.Dla (e ▸ m)
  exact ⟨sIn x.sm (x.nla a m), x.ng, x.nL, x.nD, x.nla, x.nha, x.LD, x.Lla, x.Lha, x.Dla, x.Dha, x.ndl, x.ndh, x.dis, by rw [upd_ne ga]; exact x.hg, by rw [upd_ne La]; exact x.hL, by rw [upd_ne Da]; exact x.hD, x.lots.put x.ndl h, x.held.out (x.dis a m)⟩
theorem GLx.setHeld (x : GLx K H0 H g dx L D la ha lots helds) {i : Nat} {a : Addr} {l' : List Nat} (h : ha[i]? = some a) : GLx K H0 (upd H a (.lst (l'.map iv))) g dx L D la ha lots (helds.set i l') := by
  have m := List.mem_of_getElem? h
  obtain ⟨l0, e0⟩ := x.held.mem m
  have ga := x.gne e0
  have La : L ≠ a := fun e => x.Lha (e ▸ m)
  have Da : D ≠ a := fun e => x.Dha (e ▸ m)
  exact ⟨sIn x.sm (x.nha a m), x.ng, x.nL, x.nD, x.nla, x.nha, x.LD, x.Lla, x.Lha, x.Dla, x.Dha, x.ndl, x.ndh, x.dis, by rw [upd_ne ga]; exact x.hg, by rw [upd_ne La]; exact x.hL, by rw [upd_ne Da]; exact x.hD, x.lots.out (fun q => x.dis a q m), x.held.put x.ndh h⟩
/-- another list in a group's place -/
theorem GLx.repl (x : GLx K H0 H g dx L D la ha lots helds) {i : Nat} {a : Addr} {l' : List Nat} (e : H a = some (.lst (l'.map iv))) (n0 : H0 a = none) (aL : a ≠ L) (aD : a ≠ D) (a1 : a ∉ la) (a2 : a ∉ ha) :
    GLx K H0 (upd H L (.lst ((la.set i a).map rv))) g dx L D (la.set i a) ha (lots.set i l') helds := by
  have gL := x.gne x.hL
  have mem : ∀ c ∈ la.set i a, c = a ∨ c ∈ la := fun c hc => (List.mem_or_eq_of_mem_set hc).elim .inr .inl
  refine ⟨sIn x.sm x.nL, x.ng, x.nL, x.nD, fun c hc => ?_, x.nha, x.LD, fun m => ?_, x.Lha, fun m => ?_, x.Dha, nodup_set x.ndl a1, x.ndh, fun c hc => ?_, by rw [upd_ne gL]; exact x.hg, upd_same, by rw [upd_ne (Ne.symm x.LD)]; exact x.hD, (x.lots.repl e).out (fun m => ?_), x.held.out x.Lha⟩
  · rcases mem c hc with rfl | h
    · exact n0
    · exact x.nla c h
  · rcases mem L m with h | h
    · exact aL h.symm
    · exact x.Lla h
  · rcases mem D m with h | h
    · exact aD h.symm
    · exact x.Dla h
  · rcases mem c hc with rfl | h
    · exact a2
    · exact x.dis c h
  · rcases mem L m with h | h
    · exact aL h.symm
    · exact x.Lla h
/-- the rest grows, or something of it is written -/
theorem GLx.same {H' : Hp} (x : GLx K H0 H g dx L D la ha lots helds) (e : Same H H') : GLx K H0 H' g dx L D la ha lots helds :=
  ⟨x.sm.trans e, x.ng, x.nL, x.nD, x.nla, x.nha, x.LD, x.Lla, x.Lha, x.Dla, x.Dha, x.ndl, x.ndh, x.dis, e _ _ x.hg, e _ _ x.hL, e _ _ x.hD, x.lots.same e, x.held.same e⟩
theorem GLx.base {H1 : Hp} (x : GLx K H0 H g dx L D la ha lots helds) (s : Same H1 H0) : GLx K H1 H g dx L D la ha lots helds :=
  ⟨s.trans x.sm, s.free x.ng, s.free x.nL, s.free x.nD, fun c h => s.free (x.nla c h), fun c h => s.free (x.nha c h), x.LD, x.Lla, x.Lha, x.Dla, x.Dha, x.ndl, x.ndh, x.dis, x.hg, x.hL, x.hD, x.lots, x.held⟩
theorem GL.same {H' : Hp} (x : GL K H0 H g lots helds) (e : Same H H') : GL K H0 H' g lots helds := let ⟨a, b, c, d, f, y⟩ := x; ⟨a, b, c, d, f, y.same e⟩
/-- what is not the groups' own, all of it -/
theorem GL.widen {H' : Hp} (x : GL K H0 H g lots helds) (e : Same H H') : ∃ H1, GL K H1 H' g lots helds ∧ Same H0 H1 ∧ ∀ b o, H' b = some o → (H b = none ∨ H0 b ≠ none) → H1 b = some o := by
  obtain ⟨dx, L, D, la, ha, x⟩ := x
  have y := x.same e
  refine ⟨fun b => if b = g ∨ b = L ∨ b = D ∨ b ∈ la ∨ b ∈ ha then none else H' b, ⟨dx, L, D, la, ha, ⟨fun b o h => ?_, if_pos (.inl rfl), if_pos (.inr (.inl rfl)), if_pos (.inr (.inr (.inl rfl))), fun c h => if_pos (.inr (.inr (.inr (.inl h)))), fun c h => if_pos (.inr (.inr (.inr (.inr h)))),
    x.LD, x.Lla, x.Lha, x.Dla, x.Dha, x.ndl, x.ndh, x.dis, y.hg, y.hL, y.hD, y.lots, y.held⟩⟩, fun b o h => ?_, fun b o h q => ?_⟩
  · split at h
    · cases h
    · exact h
  · have hn : ¬ (b = g ∨ b = L ∨ b = D ∨ b ∈ la ∨ b ∈ ha) := by
      rintro (z | z | z | z | z)
      · rw [z, x.ng] at h; cases h
      · rw [z, x.nL] at h; cases h
      · rw [z, x.nD] at h; cases h
      · rw [x.nla b z] at h; cases h
      · rw [x.nha b z] at h; cases h
    show (if _ then _ else _) = _
    rw [if_neg hn]
    exact y.sm b o h
  · have hn : ¬ (b = g ∨ b = L ∨ b = D ∨ b ∈ la ∨ b ∈ ha) := by
      rintro (z | z | z | z | z)
      · rcases q with q | q
        · rw [z, x.hg] at q; cases q
        · exact q (z ▸ x.ng)
      · rcases q with q | q
        · rw [z, x.hL] at q; cases q
        · exact q (z ▸ x.nL)
      · rcases q with q | q
        · rw [z, x.hD] at q; cases q
        · exact q (z ▸ x.nD)
      · rcases q with q | q
        · obtain ⟨l, w⟩ := x.lots.mem z
          rw [w] at q; cases q
        · exact q (x.nla b z)
      · rcases q with q | q
        · obtain ⟨l, w⟩ := x.held.mem z
          rw [w] at q; cases q
        · exact q (x.nha b z)
    show (if _ then _ else _) = _
    rw [if_neg hn]
    exact h
/-- a list of the rest is written -/
theorem GL.out {c : Addr} {o : HO} (x : GL K H0 H g lots helds) (n : H0 c ≠ none) : GL K (upd H0 c o) (upd H c o) g lots helds := by
  obtain ⟨dx, L, D, la, ha, x⟩ := x
  have cg : g ≠ c := fun e => n (e ▸ x.ng)
  have cL : L ≠ c := fun e => n (e ▸ x.nL)
  have cD : D ≠ c := fun e => n (e ▸ x.nD)
  have c1 : c ∉ la := fun m => n (x.nla c m)
  have c2 : c ∉ ha := fun m => n (x.nha c m)
  refine ⟨dx, L, D, la, ha, ⟨fun b u h => ?_, by rw [upd_ne cg]; exact x.ng, by rw [upd_ne cL]; exact x.nL, by rw [upd_ne cD]; exact x.nD, fun b m => by rw [upd_ne (ne_mem m c1)]; exact x.nla b m, fun b m => by rw [upd_ne (ne_mem m c2)]; exact x.nha b m,
    x.LD, x.Lla, x.Lha, x.Dla, x.Dha, x.ndl, x.ndh, x.dis, by rw [upd_ne cg]; exact x.hg, by rw [upd_ne cL]; exact x.hL, by rw [upd_ne cD]; exact x.hD, x.lots.out c1, x.held.out c2⟩⟩
  by_cases hb : b = c
  · rw [hb, upd_same] at h
    rw [hb, upd_same]
    exact h
  · rw [upd_ne hb] at h
    rw [upd_ne hb]
    exact x.sm b u h
end
end K32
set_option Elab.async false
set_option linter.all false
set_option maxRecDepth 100000
set_option maxHeartbeats 4000000
namespace K32
open PySem PySem.Spec L2 C8
theorem atI_end {α : Type} {xs : List α} (h : xs ≠ []) : atI xs (-1) = some (xs.getLast h) := by
  have e := atI_last xs.dropLast (xs.getLast h)
  rw [List.dropLast_concat_getLast] at e
  exact e
theorem atI_endN {m : List Nat} (h : m ≠ []) : atI (m.map iv) (-1) = some (iv (m.getLast h)) := by
  have e := atI_end (xs := m.map iv) (by simpa using h)
  rw [e, List.getLast_map]
theorem sortI {ns : List Int} {l : List Nat} (h1 : ns.Perm (l.map fun n : Nat => (n : Int))) (h2 : ns.Pairwise (· ≤ ·)) : ns = (sortN l).map fun n : Nat => (n : Int) := by
  have h3 : ((sortN l).map fun n : Nat => (n : Int)).Pairwise (· ≤ ·) := List.Pairwise.map _ (fun a b hab => Int.ofNat_le.mpr hab) (sortN_le l)
  exact List.Perm.eq_of_pairwise (fun a b _ _ h h' => Int.le_antisymm h h') h2 h3 (h1.trans ((sortN_perm l).map _).symm)
section
variable {P : Program} {w : World} {K : PySem.W.Frag} {mg : Str → Option Value} {base : Heap}
def spAreAll (K : PySem.W.Frag) : Sp := fun vs H Q _ => ∃ (a : Addr) (o : List Nat), vs = [.ref a, iv o.length] ∧ NT K H a o ∧ o.Nodup ∧ (∀ x ∈ o, x < o.length) ∧ o.length ≤ 400 ∧ ∀ H', Same H H' → Q (.bl true) H'
theorem scAreAll : FnScope ["thing", "many", "item"] ["thing", "many"] (defScope sAreAll) := ⟨rfl, rfl, rfl, by decide +kernel, rfl, by decide +kernel, by decide +kernel⟩
theorem calAreAll (T : Txt K mg) (c2 : Cal P w K mg base 2 "is_within" spIsWithin []) (D : DefX K mg "are_all" sAreAll) : Cal P w K mg base 3 "are_all" (spAreAll K) [] := by
  refine mkCal D scAreAll (fun vs H Q E h => by obtain ⟨a, o, rfl, _⟩ := h; rfl) (fun _ _ _ _ _ _ us hl => match us, hl with | [_, _], _ => rfl) (fun f cdv A outer s H vs Q E hr h => ?_)
  obtain ⟨a, o, rfl, ha, hnd, hlt, hlen, k⟩ := h
  refine ⟨_, pss_cons (ps_if (PW.pt (pw_or (pt_not (pt_val (pe_callB call_isi (by rfl) T.isinstance (by decide +kernel) (pa_cons (pv 0) (pa_cons (pe_ty "tuple" (by rfl) T.tuple (by decide +kernel)) pa_nil)))))
      (pw_or (pt_cmpR op_ne (pe_callB call_len_seq (by rfl) T.len PySem.boot_len (pa_cons (pv 0) pa_nil)) (pv 1) (nomark _))
      (pw_or1 (pt_not (pt_val (pe_callB (cr_all rfl) (by rfl) T.all (by decide +kernel) (pa_cons
        (pe_lc (own := [("item", 2)]) (g := gName 2) (tt := tYes) rfl scAreAll.nd (pi_tup (pv 0)) (blkOk_by (own := [("item", 2)]) (N := ["thing", "many", "item"]) (sc := defScope sAreAll) (by decide +kernel)) (fun _ _ _ _ _ => pg_name (i := 2) scAreAll.nd rfl (Or.inl rfl)) (fun _ _ _ _ _ => pts_nil)
          (fun _ _ _ _ _ => pe_c c2 hr (by decide) (by rfl) (pa_cons (pv 2) (pa_cons pe_int (pa_cons (pe_op op_sub (pv 1) pe_int) pa_nil))))) pa_nil)))))))) pss_never pss_nil)
    (pss_one (ps_ret (pe_cmpR op_eq (pe_lenSetT (by rfl) T.len (by rfl) T.set (pv 0)) (pv 1) (nomark _)))), ?_⟩
  refine ⟨_, rfl, _, _, _, _, true, rfl, .ty "tuple", tyT ha, kIsTup, true, rfl, iteF ?_⟩
  refine ⟨_, rfl, a, _, rfl, .inr ha, _, rfl, rfl, false, ?_, iteF ?_⟩
  · show V.bl (!decide (V.int ((o.map iv).length : Nat) = V.int (o.length : Nat))) = _
    rw [List.length_map, decide_eq_true rfl]
    rfl
  refine ⟨_, rfl, a, rfl, ⟨_, ha⟩, fun D hD => ?_⟩
  refine lc_tup (xs := o.map iv) (fun i H' => Same H H' ∧ H' D = some (.lst ((List.replicate i true).map V.bl))) ⟨sPut hD, upd_same⟩ (fun i H' _ h => sTup h.1 ha) ?_ ?_
  · rintro i y H' hi ⟨sm, hL⟩
    rw [List.getElem?_map] at hi
    cases hx : o[i]? with
    | none => rw [hx] at hi; cases hi
    | some x =>
      rw [hx] at hi
      cases hi
      have h2 := hlt x (List.mem_of_getElem? hx)
      have hil : i < o.length := (List.getElem?_eq_some_iff.mp hx).1
      refine ⟨rfl, yes ?_⟩
      refine ⟨_, rfl, _, rfl, _, _, rfl, rfl, _, _, _, rfl, by omega, by omega, _, hL, ?_, ?_⟩
      · rw [List.length_map, List.length_replicate]
        exact size1000 (by omega)
      · refine ⟨sNew sm hD, ?_⟩
        rw [upd_same, List.replicate_succ', List.map_append]
        rfl
  · rintro H' ⟨sm, hL⟩
    rw [List.length_map] at hL
    refine ⟨D, _, rfl, SqL.of hL, ?_⟩
    have e : (List.replicate o.length true).all id = true := by simp
    rw [e]
    refine ⟨true, rfl, iteF ?_⟩
    refine ⟨_, rfl, a, o.map (fun n : Nat => (n : Int)), rfl, by rw [← iv_map]; exact sTup sm ha, by rw [List.length_map]; omega, fun ks h1 h2 => ?_⟩
    refine ⟨_, rfl, rfl, ?_⟩
    rw [ndist_of h1 h2, ndist_nodup hnd]
    exact qT rfl (k H' sm)
def spReordered (K : PySem.W.Frag) : Sp := fun vs H Q _ => ∃ (b t : Addr) (ps : Par) (o : List Nat), vs = [.ref b, .ref t] ∧ BookAt K H b ps ∧ Valid ps ∧ ps.length ≤ 400 ∧ NT K H t o ∧ OrdK (isA ps) ps.length ps.length o ∧
  ∀ H' b', Same H H' → BookAt K H' b' (movedM ps o) → Q (.ref b') H'
theorem scReordered : FnScope ["book", "order", "number", "kind", "place", "found", "item", "parent"] ["book", "order"] (defScope sReordered) := ⟨rfl, rfl, rfl, by decide +kernel, rfl, by decide +kernel, by decide +kernel⟩
theorem calReordered (T : Txt K mg) (cm : Cal P w K mg base 1 "many_of" (spManyOf K) []) (ca : Cal P w K mg base 3 "are_all" (spAreAll K) []) (cb : Cal P w K mg base 7 "book_of" (spBookOf K) []) (D : DefX K mg "reordered" sReordered) :
    Cal P w K mg base 8 "reordered" (spReordered K) [] := by
  refine mkCal D scReordered (fun vs H Q E h => by obtain ⟨a, t, ps, o, rfl, _⟩ := h; rfl) (fun _ _ _ _ _ _ us hl => match us, hl with | [_, _], _ => rfl) (fun f cdv A outer s H vs Q E hr h => ?_)
  obtain ⟨b, t, ps, o, rfl, hB, hv, hlen, ht, ho, k⟩ := h
  refine ⟨_, pss_cons (ps_if (pt_not (pt_val (pe_c ca hr (by decide) (by rfl) (pa_cons (pv 1) (pa_cons (pe_c cm hr (by decide) (by rfl) (pa_cons (pv 0) pa_nil)) pa_nil))))) pss_never pss_nil)
    (pss_cons (ps_set (i := 4) scReordered.nd rfl (Or.inr rfl) (pe_dc (own := [("number", 2), ("kind", 3)]) (g := gTup K 2 (gCons (gName 2) (gCons (gName 3) gNil))) (tt := tYes) rfl scReordered.nd (pi_enumT (by rfl) T.enumerate (pa_cons (pv 1) pa_nil))
        (blkOk_by (own := [("number", 2), ("kind", 3)]) (N := ["book", "order", "number", "kind", "place", "found", "item", "parent"]) (sc := defScope sReordered) (by decide +kernel))
        (fun _ _ _ _ _ => pg_tup rfl (pgs_cons (pg_name (i := 2) scReordered.nd rfl (.inl rfl)) (pgs_cons (pg_name (i := 3) scReordered.nd rfl (.inl rfl)) pgs_nil))) (fun _ _ _ _ _ => pts_nil) (fun _ _ _ _ _ => pv 3) (fun _ _ _ _ _ => pv 2)))
    (pss_cons (ps_set (i := 5) scReordered.nd rfl (Or.inl rfl) (pe_lst pa_nil))
    (pss_cons (ps_for PassesOwn.never rfl (pi_enumT (by rfl) T.enumerate (pa_cons (pv 1) pa_nil)) (pg_tup rfl (pgs_cons (pg_name (i := 2) scReordered.nd rfl (.inl rfl)) (pgs_cons (pg_name (i := 3) scReordered.nd rfl (.inl rfl)) pgs_nil)))
      (pss_cons (ps_set (i := 6) scReordered.nd rfl (Or.inl rfl) (pe_callTy call_tuple_of (by rfl) T.tuple (by decide +kernel) (pa_cons (pe_callB cr_sorted (by rfl) T.sorted (by decide +kernel) (pa_cons
          (pe_lc (own := [("parent", 7)]) (g := gName 7) (tt := tYes) rfl scReordered.nd (pi_tup (pe_ix ix_tup (pe_fld (pv 0) rfl) (pv 3) (fun _ _ => rfl))) (blkOk_by (own := [("parent", 7)]) (N := ["book", "order", "number", "kind", "place", "found", "item", "parent"]) (sc := defScope sReordered) (by decide +kernel))
            (fun _ _ _ _ _ => pg_name (i := 7) scReordered.nd rfl (Or.inl rfl)) (fun _ _ _ _ _ => pts_nil) (fun _ _ _ _ _ => pe_dget (hu_of hr) (pv 4) (pv 7) (fun _ _ => rfl))) pa_nil)) pa_nil)))
      (pss_cons (ps_if (PW.pt (pw_and (pt_cmpR op_gt (pe_callB call_len_seq (by rfl) T.len PySem.boot_len (pa_cons (pv 6) pa_nil)) pe_int (nomark _)) (pw_and1 (pt_cmpR op_ge (pe_ix ix_tup (pv 6) (pe_un un_neg pe_int) (fun _ _ => rfl)) (pv 2) (nomark _))))) pss_never pss_nil)
      (pss_one (ps_expr (pe_bm PySem.F.plainAttrs_list PySem.F.slot_list_append PySem.F.type_list_append mt_append (pv 5) (pa_cons (pv 6) pa_nil)))))))
    (pss_one (ps_ret (pe_c cb hr (by decide) (by rfl) (pa_cons (pv 5) pa_nil))))))), ?_⟩
  have hol := ho.len
  have hidx : ∀ q, q ∈ o → o[o.idxOf q]? = some q := fun q hq => by
    rw [List.getElem?_eq_getElem (List.idxOf_lt_length_of_mem hq), List.getElem_idxOf]
  obtain ⟨dx, tp, bl, hb1, ⟨as0, hb2, hb3⟩, hb4⟩ := id hB
  refine ⟨_, rfl, _, rfl, b, ps, rfl, hB, t, o, by rw [hol]; rfl, ht, ho.nd, fun x hx => by rw [hol]; exact ho.lt x hx, by omega, fun H1 s1 => ⟨true, rfl, iteF ?_⟩⟩
  refine ⟨_, rfl, t, _, rfl, sTup s1 ht, fun D hD => ?_⟩
  refine dc_enumT (xs := o.map iv) (fun i H' => Same H H' ∧ ∃ kvs : List (L2.Key × V), H' D = some (.dK kvs) ∧ kvs.length ≤ i ∧ ∀ j x, j < i → o[j]? = some x → valV kvs (Sum.inl (x : Int)) = some (iv j)) ⟨sNew s1 (s1.free hD), [], upd_same, Nat.le_refl _, fun j x h => absurd h (Nat.not_lt_zero _)⟩ (fun i H' _ h => sTup h.1 ht) ?_ ?_
  · rintro i y H' T2 hi ⟨sm, kvs, e1, e2, e3⟩ hT
    rw [List.getElem?_map] at hi
    cases hx : o[i]? with
    | none => rw [hx] at hi; cases hi
    | some x =>
      rw [hx] at hi
      cases hi
      have hil : i < o.length := (List.getElem?_eq_some_iff.mp hx).1
      have nDT : D ≠ T2 := ne_of_none e1 hT
      have hD0 : H D = none := s1.free hD
      refine ⟨T2, _, rfl, .inl (.inl upd_same), rfl, _, _, rfl, _, _, rfl, rfl, rfl, yes ⟨_, rfl, _, rfl, kvs, Sum.inl (x : Int), rfl, by rw [upd_ne nDT]; exact e1, size1000 (by omega), ?_⟩⟩
      refine ⟨sNew (sNew sm (sm.free hT)) hD0, _, upd_same, Nat.le_trans (length_putK _ _ _) (by omega), fun j z hj hz => ?_⟩
      rw [valV_put]
      by_cases hjx : z = x
      · subst hjx
        rw [if_pos rfl]
        have : j = i := by
          obtain ⟨p1, q1⟩ := List.getElem?_eq_some_iff.mp hz
          obtain ⟨p2, q2⟩ := List.getElem?_eq_some_iff.mp hx
          exact (List.getElem_inj ho.nd).mp (q1.trans q2.symm)
        subst this
        rfl
      · rw [if_neg (fun e => hjx (Int.ofNat_inj.mp (Sum.inl.inj e)))]
        have hji : j < i := by
          rcases Nat.lt_or_ge j i with h | h
          · exact h
          · have : j = i := by omega
            subst this
            rw [hx] at hz
            exact absurd (Option.some.inj hz).symm hjx
        exact e3 j z hji hz
  · rintro H2 ⟨s2, kvs, e1, e2, e3⟩
    rw [List.length_map] at e3 e2
    have hD0 : H D = none := s1.free hD
    refine ⟨Nat.zero_le _, fun F hF => ?_⟩
    have hF0 : H F = none := s2.free hF
    have nDF : D ≠ F := ne_of_none e1 hF
    refine ⟨_, rfl, t, _, rfl, sTup (sNew s2 hF0) ht, ?_⟩
    refine for_enumT (xs := o.map iv) (fun i σ H' => Same H H' ∧ H' D = some (.dK kvs) ∧ ∃ as : List Addr, H' F = some (.lst (as.map rv)) ∧ Nts K H' as ((movedM ps o).take i) ∧ ∃ v2 v3 v6 v7 : Option V, σ = [some (.ref b), some (.ref t), v2, v3, some (.ref D), some (.ref F), v6, v7])
      ⟨sNew s2 hF0, by rw [upd_ne nDF]; exact e1, [], upd_same, Nts.nil, none, none, none, none, rfl⟩ (fun i σ H' _ h => sTup h.1 ht) ?_ ?_
    · rintro i y σ H' T2 hi ⟨sm, eD, as, eF, eN, v2, v3, v6, v7, rfl⟩ hT
      rw [List.getElem?_map] at hi
      cases hx : o[i]? with
      | none => rw [hx] at hi; cases hi
      | some x =>
        rw [hx] at hi
        cases hi
        have hil : i < o.length := (List.getElem?_eq_some_iff.mp hx).1
        have hxn : x < ps.length := ho.lt x (List.mem_of_getElem? hx)
        have hpl := List.getElem?_eq_getElem hxn
        generalize ps[x] = l at hpl
        obtain ⟨m1, m2, m3⟩ := moved_item hv ho hx hpl
        have mat := movedM_at hx hpl
        have m6 := (hv x l hpl).2
        generalize hm : sortN (l.map fun q => o.idxOf q) = m at m2 m3 mat
        have sT : Same H (upd H' T2 (.tup [.int (i : Nat), iv x])) := sNew sm (sm.free hT)
        have nDT : D ≠ T2 := ne_of_none eD hT
        have nFT : F ≠ T2 := ne_of_none eF hT
        refine ⟨T2, _, rfl, .inl (.inl upd_same), rfl, _, _, rfl, _, _, rfl, rfl, ?_⟩
        obtain ⟨a, ha, hNa⟩ := hb3.at hpl
        refine ⟨_, rfl, b, _, dx, _, _, rfl, sT _ _ hb1, T.clB, T.bPar, bk_par _ _, _, rfl, tp, _, _, rv a, rfl, rfl, sTup sT hb2, atI_nat (by rw [List.getElem?_map, ha]; rfl), a, rfl, ⟨_, sTup sT hNa⟩, fun D2 hD2 => ?_⟩
        have hD20 : H D2 = none := sT.free hD2
        have nDD : D ≠ D2 := ne_of_none (by rw [upd_ne nDT]; exact eD) hD2
        have nFD : F ≠ D2 := ne_of_none (by rw [upd_ne nFT]; exact eF) hD2
        refine lc_tup (xs := l.map iv) (fun j H3 => Same H H3 ∧ H3 D = some (.dK kvs) ∧ H3 F = some (.lst (as.map rv)) ∧ Nts K H3 as ((movedM ps o).take i) ∧ H3 D2 = some (.lst ((l.take j).map fun q => iv (o.idxOf q)))) ?_ (fun j H3 _ h => sTup h.1 hNa) ?_ ?_
        · exact ⟨sNew sT hD20, by rw [upd_ne nDD, upd_ne nDT]; exact eD, by rw [upd_ne nFD, upd_ne nFT]; exact eF, (eN.upd (noT_n hT)).upd (noT_n hD2), upd_same⟩
        · rintro j y H3 hj ⟨sm3, eD3, eF3, eN3, eL3⟩
          rw [List.getElem?_map] at hj
          cases hq : l[j]? with
          | none => rw [hq] at hj; cases hj
          | some q =>
            rw [hq] at hj
            cases hj
            have hqm := List.mem_of_getElem? hq
            have hqo : q ∈ o := List.mem_of_mem_take (m1 q hqm)
            have hv3 := e3 (o.idxOf q) q (List.idxOf_lt_length_of_mem hqo) (hidx q hqo)
            refine ⟨rfl, yes ⟨_, rfl, _, rfl, D, iv (o.idxOf q), rfl, ?_, _, eL3, ?_, ?_⟩⟩
            · rw [← hv3]
              exact DGet.k (k := Sum.inl (q : Int)) eD3
            · rw [List.length_map, List.length_take]
              exact size1000 (by omega)
            · refine ⟨sNew sm3 hD20, by rw [upd_ne nDD]; exact eD3, by rw [upd_ne nFD]; exact eF3, eN3.upd (noT_l eL3), ?_⟩
              rw [upd_same, List.take_add_one, hq, List.map_append]
              rfl
        · rintro H3 ⟨sm3, eD3, eF3, eN3, eL3⟩
          rw [List.length_map, List.take_length] at eL3
          refine ⟨D2, (l.map fun q => o.idxOf q).map (fun n : Nat => (n : Int)), rfl, SqL.of (by rw [eL3, List.map_map, List.map_map]; rfl), by rw [List.length_map, List.length_map]; omega, fun ns' p perm le hp => ?_⟩
          obtain rfl := sortI perm le
          rw [hm]
          refine ⟨p, _, rfl, .inl ⟨SqL.of upd_same, fun T3 hT3 => ?_⟩⟩
          have s4 : Same H (upd H3 p (.lst ((m.map fun n : Nat => (n : Int)).map V.int))) := sNew sm3 (sm3.free hp)
          have s5 := sNew (o := .tup ((m.map fun n : Nat => (n : Int)).map V.int)) s4 (s4.free hT3)
          have nFp : F ≠ p := ne_of_none eF3 hp
          have nDp : D ≠ p := ne_of_none eD3 hp
          have eF4 : (upd H3 p (.lst ((m.map fun n : Nat => (n : Int)).map V.int))) F = some (.lst (as.map rv)) := by rw [upd_ne nFp]; exact eF3
          have eD4 : (upd H3 p (.lst ((m.map fun n : Nat => (n : Int)).map V.int))) D = some (.dK kvs) := by rw [upd_ne nDp]; exact eD3
          have nFT3 : F ≠ T3 := ne_of_none eF4 hT3
          have nDT3 : D ≠ T3 := ne_of_none eD4 hT3
          have hm3 : NT K (upd (upd H3 p (.lst ((m.map fun n : Nat => (n : Int)).map V.int))) T3 (.tup ((m.map fun n : Nat => (n : Int)).map V.int))) T3 m := .inl (.inl (by rw [upd_same, iv_map]))
          have hne : decide ((0 : Int) < (((m.map iv).length : Nat) : Int)) = true → m ≠ [] := fun hc e => by
            subst e
            simp at hc
          refine (fun fin => ⟨_, rfl, T3, _, rfl, .inr hm3, _, _, rfl, rfl, _, rfl, ite2 (fun hc => ⟨_, rfl, _, rfl, T3, _, _, iv (m.getLast (hne hc)), rfl, rfl, hm3, atI_endN (hne hc), _, rfl, _, _, rfl, rfl, false, ?lt, iteF fin⟩) (fun hc => iteF fin)⟩) ?fin
          case lt =>
            refine blF ?_
            have := m2.2 _ (List.getLast_mem (hne hc))
            omega
          case fin =>
            refine ⟨_, rfl, .inl ⟨rfl, _, SqL.of (by rw [upd_ne nFT3]; exact eF4)⟩, _, rfl, F, _, _, rfl, rfl, by rw [upd_ne nFT3]; exact eF4, ?_, ?_⟩
            · rw [List.length_map, eN.1, List.length_take]
              exact size1000 (by omega)
            · refine ⟨sNew s5 hF0, ?_, as ++ [T3], ?_, ?_, _, _, _, _, rfl⟩
              · rw [upd_ne nDF, upd_ne nDT3]
                exact eD4
              · rw [upd_same, List.map_append]
                rfl
              · have e := (((eN3.upd (noT_n hp)).upd (noT_n hT3)).snoc hm3).upd (l := F) (o := .lst (as.map rv ++ [rv T3])) (noT_l (by rw [upd_ne nFT3]; exact eF4))
                rw [List.take_add_one, mat]
                exact e
    · rintro σ H' ⟨sm, eD, as, eF, eN, v2, v3, v6, v7, rfl⟩
      have hml : (movedM ps o).length = o.length := movedM_length ps o
      rw [List.length_map, ← hml, List.take_length] at eN
      exact ⟨_, rfl, F, as, movedM ps o, rfl, SqL.of eF, eN, movedM_valid hv ho, by rw [hml]; omega, fun H5 b' s5 bk => k H5 b' (sm.trans s5) bk⟩
end
end K32
set_option Elab.async false
set_option linter.all false
set_option maxRecDepth 100000
set_option maxHeartbeats 4000000
namespace K32
open PySem PySem.Spec L2 C8
def ov (o : Option Nat) : V := match o with | some s => iv s | none => .non
theorem min_of {f : List Nat} {m : Int} (hm : m ∈ f.map fun n : Nat => (n : Int)) (hl : ∀ y, y ∈ (f.map fun n : Nat => (n : Int)) → m ≤ y) : ∃ s, f.min? = some s ∧ m = (s : Int) := by
  obtain ⟨s, hs, rfl⟩ := List.mem_map.mp hm
  refine ⟨s, ?_, rfl⟩
  rw [List.min?_eq_some_iff]
  exact ⟨hs, fun y hy => Int.ofNat_le.mp (hl y (List.mem_map.mpr ⟨y, hy, rfl⟩))⟩
/-- what was held: the last ones are told -/
def Heldp (helds : List (List Nat)) (lasts : List Nat) : Prop := helds.length = lasts.length ∧ ∀ (i : Nat) (l : List Nat), helds[i]? = some l → ∃ h : l ≠ [], lasts[i]? = some (l.getLast h)
theorem fit_snoc (up : Nat → Bool) (lasts l : List Nat) (s : Nat) : fitL up lasts (l ++ [s]) = fitL up lasts l ++ if up (lasts.getD s 0) = true then [s] else [] := by
  unfold fitL
  rw [List.filter_append]
  congr 1
  by_cases h : up (lasts.getD s 0) = true <;> simp [List.filter_cons, h]
theorem atI_endM {m : List Nat} (h : m ≠ []) : atI (m.map iv) (-1) = some (iv (m.getLast h)) := by
  have e := atI_last (m.dropLast.map iv) (iv (m.getLast h))
  have e2 : m.dropLast.map iv ++ [iv (m.getLast h)] = m.map iv := by
    rw [← List.map_singleton, ← List.map_append, List.dropLast_concat_getLast]
  rw [e2] at e
  exact e
section
variable {P : Program} {w : World} {K : PySem.W.Frag} {mg : Str → Option Value} {base : Heap}
def spFitting (K : PySem.W.Frag) : Sp := fun vs H Q _ => ∃ (H0 : Hp) (g b a : Addr) (x : Nat) (ps : Par) (l lasts : List Nat) (lots helds : List (List Nat)), vs = [.ref g, .ref b, .ref a, iv x] ∧ GL K H0 H g lots helds ∧ Heldp helds lasts ∧ BookAt K H b ps ∧ x < ps.length ∧
  H a = some (.lst (l.map iv)) ∧ l.length ≤ 900 ∧ (∀ s ∈ l, s < lasts.length) ∧ ∀ H', Same H H' → Q (ov (fitL (isA ps x) lasts l).min?) H'
theorem scFitting : FnScope ["self", "book", "lot", "x", "some", "slot"] ["self", "book", "lot", "x"] (defScope sGroupsFitting) := ⟨rfl, rfl, rfl, by decide +kernel, rfl, by decide +kernel, by decide +kernel⟩
theorem metFitting (T : Txt K mg) (c1 : Cal P w K mg base 1 "is_one" (spIsOne K) []) (D : MetX K (cG K) "fitting" "Groups.fitting" sGroupsFitting) : Met P w K mg base 2 (cG K) "fitting" (spFitting K) [] := by
  refine mkMet D scFitting (fun vs H Q E h => by obtain ⟨H0, g, b, a, x, ps, l, lasts, lots, helds, rfl, _⟩ := h; rfl) (fun _ _ _ _ _ _ us hl => match us, hl with | [_, _, _, _], _ => rfl) (fun f cdv A outer s H vs Q E hr h => ?_)
  obtain ⟨H0, g, b, a, x, ps, l, lasts, lots, helds, rfl, hG, hH, hB, hx, ha, hlen, hlt, k⟩ := h
  obtain ⟨dx, L, D, la, ha', G⟩ := id hG
  refine ⟨_, pss_cons (ps_setLc (i := 4) (own := [("slot", 5)]) (g := gName 5) rfl scFitting.nd rfl rfl (sw_true rfl rfl rfl (by decide +kernel)) (pi_list (pv 2)) (blkOk_by (own := [("slot", 5)]) (N := ["self", "book", "lot", "x", "some", "slot"]) (sc := defScope sGroupsFitting) (by decide +kernel))
      (fun _ _ _ _ _ => pg_name (i := 5) scFitting.nd rfl (Or.inl rfl))
      (fun _ _ _ _ _ => by exact pts_one (pt_val (pe_c c1 hr (by decide) (by rfl) (pa_cons (pv 1) (pa_cons (pv 3) (pa_cons (pe_ix (ixLK K) (pe_ix (ixLK K) (fldK K (pv 0) rfl) (pv 5) (fun _ _ => rfl)) (pe_un un_neg pe_int) (fun _ _ => rfl)) pa_nil))))))
      (fun _ _ _ _ _ => pv 5))
    (pss_one (ps_ret (pe_ifExp (pt_cmpR op_gt (pe_callB call_len_seq (by rfl) T.len PySem.boot_len (pa_cons (pv 4) pa_nil)) pe_int (nomark _)) (pe_callB (cr_min rfl) (by rfl) T.min (by decide +kernel) (pa_cons (pv 4) pa_nil)) pe_non))), ?_⟩
  refine ⟨_, rfl, a, rfl, ⟨_, SqL.of ha⟩, fun D2 hD2 => ?_⟩
  have gD : ∀ {H' : Hp}, Same H H' → H' g = some (.ins (cG K) dx (gF L D)) ∧ H' D = some (.lst (ha'.map rv)) := fun {H'} e => ⟨e _ _ G.hg, e _ _ G.hD⟩
  refine lc_list (xs := l.map iv) (fun i H' => Same H H' ∧ H' D2 = some (.lst ((fitL (isA ps x) lasts (l.take i)).map iv))) ⟨sPut hD2, upd_same⟩ (fun i H' _ h => h.1.seq (SqL.of ha)) ?_ ?_
  · rintro i y H' hi ⟨sm, eL⟩
    rw [List.getElem?_map] at hi
    cases hs : l[i]? with
    | none => rw [hs] at hi; cases hi
    | some sl =>
      rw [hs] at hi
      cases hi
      have hsl := hlt sl (List.mem_of_getElem? hs)
      have hhl : sl < helds.length := by rw [hH.1]; exact hsl
      obtain ⟨c, hc1, hc2, hc3⟩ := G.held.at (List.getElem?_eq_getElem hhl)
      obtain ⟨hne, hla⟩ := hH.2 sl _ (List.getElem?_eq_getElem hhl)
      have hgd : lasts.getD sl 0 = (helds[sl]).getLast hne := by rw [List.getD_eq_getElem?_getD, hla]; rfl
      refine ⟨rfl, _, rfl, _, rfl, _, rfl, g, _, dx, _, _, rfl, (gD sm).1, T.clG, T.gHel, gf_hel _ _, _, rfl, D, _, _, rv c, rfl, rfl, SqL.of (gD sm).2, atI_nat (by rw [List.getElem?_map, hc1]; rfl), _, rfl, c, _, _, _, rfl, rfl, SqL.of (sm _ _ hc3), atI_endM hne, ?_⟩
      refine ⟨b, ps, x, _, rfl, hB.same sm, hx, _, rfl, ?_⟩
      have e : fitL (isA ps x) lasts (l.take (i + 1)) = fitL (isA ps x) lasts (l.take i) ++ if isA ps x ((helds[sl]).getLast hne) = true then [sl] else [] := by
        rw [List.take_add_one, hs]
        have := fit_snoc (isA ps x) lasts (l.take i) sl
        rw [hgd] at this
        exact this
      refine ite2 (fun hu => ?_) (fun hu => ?_)
      · refine ⟨_, rfl, _, eL, ?_, ?_⟩
        · rw [List.length_map]
          exact size1000 (Nat.le_trans (List.length_filter_le _ _) (by rw [List.length_take]; omega))
        · refine ⟨sNew sm hD2, ?_⟩
          rw [upd_same, e, if_pos hu, List.map_append]
          rfl
      · refine ⟨sm, ?_⟩
        rw [eL, e, if_neg hu, List.append_nil]
  · rintro H' ⟨sm, eL⟩
    rw [List.length_map, List.take_length] at eL
    refine ⟨_, rfl, D2, _, rfl, .inl (SqL.of eL), _, _, rfl, rfl, _, rfl, ?_⟩
    cases hf : (fitL (isA ps x) lasts l) with
    | nil =>
      have z := k H' sm
      rw [hf] at z
      exact iteF z
    | cons y r =>
      rw [hf] at eL
      have hpos : decide ((0 : Int) < ((((y :: r).map iv).length : Nat) : Int)) = true := by
        rw [decide_eq_true_eq, List.length_map, List.length_cons]
        omega
      show (if decide ((0 : Int) < ((((y :: r).map iv).length : Nat) : Int)) = true then _ else _)
      rw [if_pos hpos]
      refine ⟨_, rfl, D2, (y :: r).map (fun n : Nat => (n : Int)), rfl, SqL.of (by rw [eL, iv_map]), by simp, fun m hm hle => ?_⟩
      obtain ⟨s0, e1, rfl⟩ := min_of hm hle
      have z := k H' sm
      rw [hf, e1] at z
      exact z
def spTaken (K : PySem.W.Frag) : Sp := fun vs H Q _ => ∃ (H0 : Hp) (g b : Addr) (x : Nat) (ps : Par) (lasts : List Nat) (lots helds : List (List Nat)), vs = [.ref g, .ref b, iv x] ∧ GL K H0 H g lots helds ∧ Heldp helds lasts ∧ BookAt K H b ps ∧ x < ps.length ∧
  (∀ l ∈ lots, l.length ≤ 900 ∧ ∀ s ∈ l, s < lasts.length) ∧ ∀ H' t, Same H H' → H' t = some (.tup [iv (takeG (isA ps x) lasts 0 lots).1, ov (takeG (isA ps x) lasts 0 lots).2]) → Q (.ref t) H'
theorem scTaken : FnScope ["self", "book", "x", "number", "lot", "slot"] ["self", "book", "x"] (defScope sGroupsTaken) := ⟨rfl, rfl, rfl, by decide +kernel, rfl, by decide +kernel, by decide +kernel⟩
theorem metTaken (T : Txt K mg) (mf : Met P w K mg base 2 (cG K) "fitting" (spFitting K) []) (D : MetX K (cG K) "taken" "Groups.taken" sGroupsTaken) : Met P w K mg base 3 (cG K) "taken" (spTaken K) [] := by
  refine mkMet D scTaken (fun vs H Q E h => by obtain ⟨H0, g, b, x, ps, lasts, lots, helds, rfl, _⟩ := h; rfl) (fun _ _ _ _ _ _ us hl => match us, hl with | [_, _, _], _ => rfl) (fun f cdv A outer s H vs Q E hr h => ?_)
  obtain ⟨H0, g, b, x, ps, lasts, lots, helds, rfl, hG, hH, hB, hx, hlt, k⟩ := h
  obtain ⟨dx, L, D, la, ha', G⟩ := id hG
  refine ⟨_, pss_cons (ps_for PassesOwn.never rfl (pi_enum (by rfl) T.enumerate (pa_cons (pe_fld (pv 0) rfl) pa_nil)) (pg_tup rfl (pgs_cons (pg_name (i := 3) scTaken.nd rfl (.inl rfl)) (pgs_cons (pg_name (i := 4) scTaken.nd rfl (.inl rfl)) pgs_nil)))
      (pss_cons (ps_set (i := 5) scTaken.nd rfl (Or.inl rfl) (pe_mt mf hr (by decide) (pv 0) (pa_cons (pv 1) (pa_cons (pv 4) (pa_cons (pv 2) pa_nil)))))
      (pss_one (ps_if (PW.pt (pw_or (pt_cmp (pc_notN (pv 5))) (pw_or1 (pt_cmpR op_le (pe_callB call_len_seq (by rfl) T.len PySem.boot_len (pa_cons (pv 4) pa_nil)) (pv 3) (nomark _)))))
        (pss_one (ps_ret (pe_tup (pa_cons (pv 3) (pa_cons (pv 5) pa_nil))))) pss_nil))))
    (pss_one (ps_ret (pe_tup (pa_cons (pe_callB call_len_seq (by rfl) T.len PySem.boot_len (pa_cons (pe_fld (pv 0) rfl) pa_nil)) (pa_cons pe_non pa_nil))))), ?_⟩
  refine ⟨_, rfl, g, _, dx, _, _, rfl, G.hg, T.clG, T.gLot, gf_lot _ _, L, _, rfl, SqL.of G.hL, ?_⟩
  refine for_enumL (xs := la.map rv) (fun i σ H' => Same H H' ∧ takeG (isA ps x) lasts 0 lots = takeG (isA ps x) lasts i (lots.drop i) ∧ ∃ v3 v4 v5 : Option V, σ = [some (.ref g), some (.ref b), some (iv x), v3, v4, v5]) ⟨Same.refl H, rfl, none, none, none, rfl⟩ (fun i σ H' _ h => h.1.seq (SqL.of G.hL)) ?_ ?_
  · rintro i y σ H' T2 hi ⟨sm, eT, v3, v4, v5, rfl⟩ hT
    rw [List.getElem?_map] at hi
    cases ha : la[i]? with
    | none => rw [ha] at hi; cases hi
    | some a =>
      rw [ha] at hi
      cases hi
      have hil : i < lots.length := by rw [← G.lots.1]; exact (List.getElem?_eq_some_iff.mp ha).1
      have hll := List.getElem?_eq_getElem hil
      generalize lots[i] = l at hll
      have hL := G.lots.2 i a l ha hll
      obtain ⟨b1, b2⟩ := hlt l (List.mem_of_getElem? hll)
      have sT : Same H (upd H' T2 (.tup [.int (i : Nat), rv a])) := sNew sm (sm.free hT)
      refine ⟨T2, _, rfl, .inl (.inl upd_same), rfl, _, _, rfl, _, _, rfl, rfl, ?_⟩
      refine ⟨_, rfl, g, dx, _, rfl, sT _ _ G.hg, gf_no _ _ (by decide +kernel) (by decide +kernel), _, rfl, _, rfl, _, rfl, H0, g, b, a, x, ps, l, lasts, lots, helds, rfl, hG.same sT, hH, hB.same sT, hx, sT _ _ hL, b1, b2, fun H2 s2 => ?_⟩
      have s3 := sT.trans s2
      rw [takeG_step hll] at eT
      cases hm : (fitL (isA ps x) lasts l).min? with
      | some s0 =>
        rw [hm] at eT
        refine ⟨_, rfl, true, rfl, iteT (iteT ?_)⟩
        refine ⟨_, rfl, _, rfl, by show 2 ≤ sizeLine; decide, fun t ht => ?_⟩
        refine k _ t (sNew s3 (s3.free ht)) ?_
        rw [eT, upd_same]
      | none =>
        rw [hm] at eT
        refine ⟨_, rfl, false, rfl, iteF ?_⟩
        refine ⟨_, rfl, a, _, rfl, .inl (SqL.of (s3 _ _ hL)), _, rfl, _, _, rfl, rfl, _, rfl, ite2 (fun hc => ?_) (fun hc => ?_)⟩
        · have hle : l.length ≤ i := by
            have := of_decide_eq_true hc
            rw [List.length_map] at this
            omega
          refine ⟨_, rfl, _, rfl, by show 2 ≤ sizeLine; decide, fun t ht => ?_⟩
          refine k _ t (sNew s3 (s3.free ht)) ?_
          have e2 : takeG (isA ps x) lasts 0 lots = (i, none) := by
            rw [eT]
            exact if_pos hle
          rw [e2, upd_same]
        · refine ⟨s3, ?_, _, _, _, rfl⟩
          rw [eT]
          refine if_neg fun hle => hc ?_
          rw [decide_eq_true_eq, List.length_map]
          omega
  · rintro σ H' ⟨sm, eT, v3, v4, v5, rfl⟩
    rw [List.length_map, G.lots.1, takeG_end] at eT
    refine ⟨_, rfl, g, _, dx, _, _, rfl, sm _ _ G.hg, T.clG, T.gLot, gf_lot _ _, L, _, rfl, .inl (SqL.of (sm _ _ G.hL)), by show 2 ≤ sizeLine; decide, fun t ht => ?_⟩
    refine k _ t (sNew sm (sm.free ht)) ?_
    rw [eT, upd_same]
    show some (HO.tup [V.int _, _]) = _
    rw [List.length_map, G.lots.1]
    rfl
end
end K32
set_option Elab.async false
set_option linter.all false
set_option maxRecDepth 100000
set_option maxHeartbeats 4000000
namespace K32
open PySem PySem.Spec L2 C8
theorem ixnn {n j : Nat} (hj : j < n) : ixN n (j : Int) = some j := by
  unfold ixN
  rw [if_pos (by omega), if_pos (by omega), Int.toNat_natCast]
theorem getD_at {l : List (List Nat)} {i : Nat} (h : i < l.length) : l[i]? = some (l.getD i []) := by
  rw [List.getD_eq_getElem?_getD, List.getElem?_eq_getElem h]
  rfl
theorem heldp_set {helds : List (List Nat)} {lasts : List Nat} {s x : Nat} {m : List Nat} (h : Heldp helds lasts) (hs : s < helds.length) : Heldp (helds.set s (m ++ [x])) (lasts.set s x) := by
  refine ⟨by rw [List.length_set, List.length_set]; exact h.1, fun i l hi => ?_⟩
  by_cases e : i = s
  · subst e
    rw [List.getElem?_set_self hs] at hi
    cases hi
    refine ⟨by simp, ?_⟩
    rw [List.getElem?_set_self (by rw [← h.1]; exact hs)]
    simp
  · rw [List.getElem?_set_ne (Ne.symm e)] at hi ⊢
    exact h.2 i l hi
theorem heldp_new {helds : List (List Nat)} {lasts : List Nat} {x : Nat} (h : Heldp helds lasts) : Heldp ((helds ++ [[]]).set helds.length ([] ++ [x])) (lasts ++ [x]) := by
  have e1 : (helds ++ [[]]).set helds.length ([] ++ [x]) = helds ++ [[x]] := by
    rw [List.set_append_right _ _ (Nat.le_refl _), Nat.sub_self]
    rfl
  rw [e1]
  refine ⟨by simp [h.1], fun i l hi => ?_⟩
  by_cases hl : i < helds.length
  · rw [List.getElem?_append_left hl] at hi
    rw [List.getElem?_append_left (by rw [← h.1]; exact hl)]
    exact h.2 i l hi
  · rw [List.getElem?_append_right (by omega)] at hi
    have e0 : i - helds.length = 0 := by
      have := (List.getElem?_eq_some_iff.mp hi).1
      simp at this
      omega
    rw [e0] at hi
    cases hi
    refine ⟨by simp, ?_⟩
    rw [List.getElem?_append_right (by rw [← h.1]; omega), ← h.1, e0]
    rfl
section
variable {P : Program} {w : World} {K : PySem.W.Frag} {mg : Str → Option Value} {base : Heap}
theorem gf_put (L D : Addr) : putF "held" (.ref D) (putF "lots" (.ref L) []) = gF L D := by
  show (if ("lots" : Str) = "held" then _ else (("lots" : Str), V.ref L) :: [(("held" : Str), V.ref D)]) = _
  rw [if_neg (by decide +kernel)]
def spGroupsInit (K : PySem.W.Frag) : Sp := fun vs H Q _ => ∃ (p dx : Addr) (H0 : Hp), vs = [.ref p] ∧ H p = some (.ins (cG K) dx []) ∧ H0 p = none ∧ Same H0 H ∧ ∀ H', Fr1 [p] H H' → GL K H0 H' p [] [] → Q .non H'
theorem scGroupsInit : FnScope ["self"] ["self"] (defScope sGroupsInit) := ⟨rfl, rfl, rfl, by decide +kernel, rfl, by decide +kernel, by decide +kernel⟩
theorem makGroups (T : Txt K mg) (D : MakX K mg "Groups" "Groups.__init__" sGroupsInit) : Mak P w K mg base 1 "Groups" (cG K) (spGroupsInit K) [] := by
  refine mkMak D scGroupsInit (fun vs H Q E h => by obtain ⟨p, dx, H0, rfl, _⟩ := h; rfl) (fun _ _ _ _ _ _ us hl => match us, hl with | [_], _ => rfl) (fun f cdv A outer s H vs Q E hr h => ?_)
  obtain ⟨p, dx, H0, rfl, hp, n0, sm, k⟩ := h
  refine ⟨_, pss_cons (ps_fld (pv 0) (pe_lst pa_nil) rfl) (pss_one (ps_fld (pv 0) (pe_lst pa_nil) rfl)), ?_⟩
  refine ⟨Nat.zero_le _, fun l hl => ⟨_, rfl, p, _, dx, [], rfl, ?_, T.clG, T.gLot, (by show 0 < 1000; decide), ?_⟩⟩
  · rw [upd_ne (ne_of_none hp hl)]; exact hp
  refine ⟨Nat.zero_le _, fun d hd => ⟨_, rfl, p, _, dx, putF "lots" (.ref l) [], rfl, ?_, T.clG, T.gHel, (by show 1 < 1000; decide), ?_⟩⟩
  · rw [upd_ne (ne_of_none upd_same hd), upd_same]
  have npl : p ≠ l := ne_of_none hp hl
  have npd : p ≠ d := ne_of_none upd_same hd
  have hd1 := hd
  rw [upd_ne (Ne.symm npd)] at hd1
  have nld : l ≠ d := ne_of_none upd_same hd1
  have hd0 : H d = none := by
    rw [upd_ne (Ne.symm nld)] at hd1
    exact hd1
  rw [gf_put]
  have s1 : Same H0 (upd (upd (upd (upd H l (.lst [])) p (.ins (cG K) dx (putF "lots" (.ref l) []))) d (.lst [])) p (.ins (cG K) dx (gF l d))) :=
    sNew (sNew (sNew (sNew sm (sm.free hl)) n0) (sm.free hd0)) n0
  refine k _ ((((((Fr1.refl [p] H).new hl).put (by simp)).new hd0)).put (by simp)) ⟨dx, l, d, [], [], ⟨s1, n0, sm.free hl, sm.free hd0, by simp, by simp, nld, by simp, by simp, by simp, by simp, List.nodup_nil, List.nodup_nil, by simp, upd_same, ?_, ?_, ⟨rfl, by simp⟩, ⟨rfl, by simp⟩⟩⟩
  · rw [upd_ne (Ne.symm npl), upd_ne nld, upd_ne (Ne.symm npl), upd_same]; rfl
  · rw [upd_ne (Ne.symm npd), upd_same]; rfl
def spPut (K : PySem.W.Frag) : Sp := fun vs H Q _ => ∃ (H0 : Hp) (g b : Addr) (x : Nat) (ps : Par) (st : RS) (helds : List (List Nat)), vs = [.ref g, .ref b, iv x] ∧ GL K H0 H g st.lots helds ∧ Heldp helds st.lasts ∧ BookAt K H0 b ps ∧ x < ps.length ∧ ps.length ≤ 400 ∧ RInv x st ∧
  (∀ l ∈ helds, l.length ≤ x) ∧ ∀ H' helds', GL K H0 H' g (putM (isA ps x) x st).2.lots helds' → Heldp helds' (putM (isA ps x) x st).2.lasts → (∀ l ∈ helds', l.length ≤ x + 1) → Q (iv (putM (isA ps x) x st).1) H'
theorem scPut : FnScope ["self", "book", "x", "number", "slot", "less", "one"] ["self", "book", "x"] (defScope sGroupsPut) := ⟨rfl, rfl, rfl, by decide +kernel, rfl, by decide +kernel, by decide +kernel⟩
theorem metPut (T : Txt K mg) (mt : Met P w K mg base 3 (cG K) "taken" (spTaken K) []) (D : MetX K (cG K) "put" "Groups.put" sGroupsPut) : Met P w K mg base 4 (cG K) "put" (spPut K) [] := by
  refine mkMet D scPut (fun vs H Q E h => by obtain ⟨H0, g, b, x, ps, st, helds, rfl, _⟩ := h; rfl) (fun _ _ _ _ _ _ us hl => match us, hl with | [_, _, _], _ => rfl) (fun f cdv A outer s H vs Q E hr h => ?_)
  obtain ⟨H0, g, b, x, ps, st, helds, rfl, hG, hH, hB, hx, hlen, hR, hhl, k⟩ := h
  refine ⟨_, pss_cons (ps_asg (pe_mt mt hr (by decide) (pv 0) (pa_cons (pv 1) (pa_cons (pv 2) pa_nil))) (pg_tup rfl (pgs_cons (pg_name (i := 3) scPut.nd rfl (.inl rfl)) (pgs_cons (pg_name (i := 4) scPut.nd rfl (.inr rfl)) pgs_nil))))
    (pss_cut (ps_if (pt_cmpR op_eq (pv 3) (pe_callB call_len_seq (by rfl) T.len PySem.boot_len (pa_cons (pe_fld (pv 0) rfl) pa_nil)) (nomark _))
        (pss_one (ps_expr (pe_bm PySem.F.plainAttrs_list PySem.F.slot_list_append PySem.F.type_list_append mt_append (pe_fld (pv 0) rfl) (pa_cons (pe_lst pa_nil) pa_nil)))) pss_nil)
    (pss_cut (ps_if (pt_cmp (pc_isN (pv 4)))
        (pss_cons (ps_set (i := 4) scPut.nd rfl (Or.inr rfl) (pe_callB call_len_seq (by rfl) T.len PySem.boot_len (pa_cons (pe_fld (pv 0) rfl) pa_nil)))
        (pss_cons (ps_expr (pe_bm PySem.F.plainAttrs_list PySem.F.slot_list_append PySem.F.type_list_append mt_append (pe_fld (pv 0) rfl) (pa_cons (pe_lst pa_nil) pa_nil)))
        (pss_one (ps_expr (pe_bm PySem.F.plainAttrs_list PySem.F.slot_list_append PySem.F.type_list_append mt_append (pe_ix ix_list (pe_fld (pv 0) rfl) (pv 3) (fun _ _ => rfl)) (pa_cons (pv 4) pa_nil)))))) pss_nil)
    (pss_cons (ps_expr (pe_bm PySem.F.plainAttrs_list PySem.F.slot_list_append PySem.F.type_list_append mt_append (pe_ix ix_list (pe_fld (pv 0) rfl) (pv 4) (fun _ _ => rfl)) (pa_cons (pv 2) pa_nil)))
    (pss_cons (ps_if (pt_cmpR op_gt (pv 3) pe_int (nomark _))
        (pss_cons (ps_setLc (i := 5) (own := [("one", 6)]) (g := gName 6) rfl scPut.nd rfl rfl (sw_true rfl rfl rfl (by decide +kernel)) (pi_list (pe_ix ix_list (pe_fld (pv 0) rfl) (pv 3) (fun _ _ => rfl)))
          (blkOk_by (own := [("one", 6)]) (N := ["self", "book", "x", "number", "slot", "less", "one"]) (sc := defScope sGroupsPut) (by decide +kernel))
          (fun _ _ _ _ _ => pg_name (i := 6) scPut.nd rfl (Or.inl rfl)) (fun _ _ _ _ _ => by exact pts_one (pt_cmpR op_ne (pv 6) (pv 4) (nomark _))) (fun _ _ _ _ _ => pv 6))
        (pss_cons (ps_asg (pe_op op_cat (pe_ix ix_list (pe_fld (pv 0) rfl) (pe_op op_sub (pv 3) pe_int) (fun _ _ => rfl)) (pe_lst (pa_cons (pv 4) pa_nil))) (pg_sub (pe_fld (pv 0) rfl) (pv 3) set_list))
        (pss_one (ps_asg (pv 5) (pg_sub (pe_fld (pv 0) rfl) (pe_op op_sub (pv 3) pe_int) set_list))))) pss_nil)
    (pss_one (ps_ret (pv 4))))))), ?_⟩
  obtain ⟨dx, L, D, la, ha, G⟩ := id hG
  have hsm := G.sm
  refine ⟨_, rfl, g, dx, _, rfl, G.hg, gf_no _ _ (by decide +kernel) (by decide +kernel), _, rfl, _, rfl, H0, g, b, x, ps, st.lasts, st.lots, helds, rfl, hG, hH, hB.same hsm, hx, fun l hl => ⟨?_, (hR.lot l hl).2⟩, fun H1 t s1 ht => ?_⟩
  · have := (hR.lot l hl).1
    omega
  have hG1 := hG.same s1
  have hput : putM (isA ps x) x st = putM (isA ps x) x st := rfl
  conv at hput => rhs; unfold putM
  generalize he : takeG (isA ps x) st.lasts 0 st.lots = go at ht hput
  obtain ⟨gn, o⟩ := go
  obtain ⟨q1, q2, q3, q4⟩ := takeG_ok he
  rw [Nat.zero_add] at q2
  obtain ⟨gl1, gl2⟩ := grow_length q2
  have hmany := hR.many
  have hlas := hR.las
  refine ⟨t, _, rfl, .inl (.inl ht), rfl, _, _, rfl, _, _, rfl, rfl, ?_⟩
  refine ⟨fun σ H' => σ = [some (.ref g), some (.ref b), some (iv x), some (iv gn), some (ov o), none, none] ∧ GL K H0 H' g (grow gn st.lots) helds, ?_, ?_⟩
  · obtain ⟨dx, L, D, la, ha, G⟩ := hG1
    refine ⟨_, rfl, _, rfl, g, _, dx, _, _, rfl, G.hg, T.clG, T.gLot, gf_lot _ _, L, _, rfl, .inl (SqL.of G.hL), rfl, _, rfl, ?_⟩
    refine ite2 (fun hc => ?_) (fun hc => ?_)
    · have hgn : gn = st.lots.length := by
        have := V.int.inj (of_decide_eq_true hc)
        rw [List.length_map, G.lots.1] at this
        omega
      refine ⟨_, rfl, g, _, dx, _, _, rfl, G.hg, T.clG, T.gLot, gf_lot _ _, .inl ⟨rfl, _, SqL.of G.hL⟩, Nat.zero_le _, fun a hna => ?_⟩
      have aL : L ≠ a := ne_of_none G.hL hna
      refine ⟨L, _, _, rfl, rfl, by rw [upd_ne aL]; exact G.hL, ?_, rfl, ?_⟩
      · rw [List.length_map, G.lots.1]
        exact size1000 (by omega)
      · unfold grow
        rw [if_pos hgn]
        exact ⟨_, _, _, _, _, G.addLot hna⟩
    · refine ⟨rfl, ?_⟩
      have hgn : gn ≠ st.lots.length := fun e => hc (by
        rw [List.length_map, G.lots.1, e]
        exact decide_eq_true rfl)
      unfold grow
      rw [if_neg hgn]
      exact ⟨_, _, _, _, _, G⟩
  rintro σ H2 ⟨rfl, hG2⟩
  refine ⟨fun σ H' => ∃ (s : Nat) (lots2 helds2 : List (List Nat)) (m : List Nat), σ = [some (.ref g), some (.ref b), some (iv x), some (iv gn), some (iv s), none, none] ∧ GL K H0 H' g lots2 helds2 ∧ helds2[s]? = some m ∧ gn < lots2.length ∧ lots2.length ≤ 1000 ∧
    (∀ l ∈ lots2, l.length ≤ 900) ∧ (∀ l ∈ helds2, l.length ≤ x) ∧ (putM (isA ps x) x st).1 = s ∧ (putM (isA ps x) x st).2.lots = shiftM gn s lots2 ∧ Heldp (helds2.set s (m ++ [x])) (putM (isA ps x) x st).2.lasts, ?_, ?_⟩
  · cases o with
    | some s0 =>
      obtain ⟨lot, z1, z2⟩ := q3 s0 rfl
      have z1' : st.lots[gn]? = some lot := z1
      have hs0 : s0 < st.lasts.length := (hR.lot lot (List.mem_of_getElem? z1')).2 s0 (List.mem_filter.mp z2).1
      have hgl : gn < st.lots.length := (List.getElem?_eq_some_iff.mp z1').1
      have hgr : grow gn st.lots = st.lots := by
        unfold grow
        rw [if_neg (by omega)]
      rw [hgr] at hG2
      have hs0' : s0 < helds.length := by rw [hH.1]; exact hs0
      refine ⟨_, rfl, false, rfl, iteF ⟨s0, st.lots, helds, helds[s0], rfl, hG2, List.getElem?_eq_getElem hs0', hgl, by omega, fun l hl => ?_, hhl, by rw [hput], by rw [hput], ?_⟩⟩
      · have := (hR.lot l hl).1
        omega
      · rw [hput]
        exact heldp_set hH hs0'
    | none =>
      obtain ⟨dx, L, D, la, ha, G⟩ := hG2
      refine ⟨_, rfl, true, rfl, iteT ?_⟩
      refine ⟨_, rfl, g, _, dx, _, _, rfl, G.hg, T.clG, T.gHel, gf_hel _ _, D, _, rfl, .inl (SqL.of G.hD), ?_⟩
      refine ⟨_, rfl, g, _, dx, _, _, rfl, G.hg, T.clG, T.gHel, gf_hel _ _, .inl ⟨rfl, _, SqL.of G.hD⟩, Nat.zero_le _, fun a hna => ?_⟩
      have aD : D ≠ a := ne_of_none G.hD hna
      refine ⟨D, _, _, rfl, rfl, by rw [upd_ne aD]; exact G.hD, ?_, ?_⟩
      · rw [List.length_map, G.held.1, hH.1]
        exact size1000 (by omega)
      have G3 := G.addHeld hna
      have hgd := getD_at gl1
      obtain ⟨c, c1, c2, c3⟩ := G3.lots.at hgd
      have hsl : (grow gn st.lots).getD gn [] ∈ grow gn st.lots := List.mem_of_getElem? hgd
      have hgb := grow_lot (g := gn) (n := 2 * x) (m := st.lasts.length) hR.lot
      have hb3 := (hgb _ hsl).1
      refine ⟨_, rfl, g, _, dx, _, _, rfl, G3.hg, T.clG, T.gLot, gf_lot _ _, _, rfl, L, _, _, rv c, rfl, rfl, SqL.of G3.hL, atI_nat (by rw [List.getElem?_map, c1]; rfl), .inl ⟨rfl, _, SqL.of c3⟩, _, rfl, c, _, _, rfl, rfl, c3, ?_, ?_⟩
      · rw [List.length_map]
        exact size1000 (by omega)
      have G4 := G3.setLot (l' := (grow gn st.lots).getD gn [] ++ [helds.length]) c1
      have eh : (ha.map rv).length = helds.length := by rw [List.length_map, G.held.1]
      refine ⟨helds.length, (grow gn st.lots).set gn ((grow gn st.lots).getD gn [] ++ [helds.length]), helds ++ [[]], [], ?_, ⟨dx, L, D, la, ha ++ [a], ?_⟩, ?_, ?_, ?_, ?_, ?_, ?_, ?_, ?_⟩
      · rw [eh]; rfl
      · rw [eh]
        rw [List.map_append] at G4
        exact G4
      · simp
      · rw [List.length_set]; exact gl1
      · rw [List.length_set]; omega
      · intro l hl
        rcases set_mem hl with rfl | hl
        · rw [List.length_append, List.length_singleton]; omega
        · have := (hgb l hl).1
          omega
      · intro l hl
        rcases List.mem_append.mp hl with hl | hl
        · exact hhl l hl
        · rw [List.mem_singleton.mp hl]; exact Nat.zero_le _
      · rw [hput, hH.1]
      · rw [hput, hH.1]
      · rw [hput]
        exact heldp_new hH
  rintro σ H3 ⟨s, lots2, helds2, m, rfl, hG3, hm, hgl, hl1000, hll, hhl2, p1, p2, p3⟩
  obtain ⟨dx, L, D, la, ha, G⟩ := hG3
  obtain ⟨c, c1, c2, c3⟩ := G.held.at hm
  have hmm := hhl2 m (List.mem_of_getElem? hm)
  refine ⟨_, rfl, g, _, dx, _, _, rfl, G.hg, T.clG, T.gHel, gf_hel _ _, _, rfl, D, _, _, rv c, rfl, rfl, SqL.of G.hD, atI_nat (by rw [List.getElem?_map, c1]; rfl), .inl ⟨rfl, _, SqL.of c3⟩, _, rfl, c, _, _, rfl, rfl, c3, ?_, ?_⟩
  · rw [List.length_map]
    exact size1000 (by omega)
  have G4 : GLx K H0 (upd H3 c (.lst (m.map iv ++ [iv x]))) g dx L D la ha lots2 (helds2.set s (m ++ [x])) := by
    have G4 := G.setHeld (l' := m ++ [x]) c1
    rw [List.map_append] at G4
    exact G4
  generalize upd H3 c (.lst (m.map iv ++ [iv x])) = H4 at G4 ⊢
  have hout : ∀ l ∈ helds2.set s (m ++ [x]), l.length ≤ x + 1 := fun l hl => by
    rcases set_mem hl with rfl | hl
    · rw [List.length_append, List.length_singleton]; omega
    · exact Nat.le_succ_of_le (hhl2 l hl)
  refine ⟨_, rfl, _, _, rfl, rfl, _, rfl, ite2 (fun hc => ?_) (fun hc => ?_)⟩
  · have hg0 : 0 < gn := by
      have := of_decide_eq_true hc
      omega
    have hgd := getD_at hgl
    have hgd1 := getD_at (l := lots2) (i := gn - 1) (by omega)
    have sh : shiftM gn s lots2 = (lots2.set gn (lots2.getD (gn - 1) [] ++ [s])).set (gn - 1) ((lots2.getD gn []).filter fun z => decide (z ≠ s)) := by
      unfold shiftM
      rw [if_pos hg0]
    rw [sh] at p2
    have b0 := hll _ (List.mem_of_getElem? hgd)
    have b1 := hll _ (List.mem_of_getElem? hgd1)
    generalize lots2.getD gn [] = l0 at hgd b0 p2
    generalize lots2.getD (gn - 1) [] = l1 at hgd1 b1 p2
    obtain ⟨d, d1, d2, d3⟩ := G4.lots.at hgd
    obtain ⟨e, e1, e2, e3⟩ := G4.lots.at hgd1
    refine ⟨_, rfl, g, _, dx, _, _, rfl, G4.hg, T.clG, T.gLot, gf_lot _ _, _, rfl, L, _, _, rv d, rfl, rfl, SqL.of G4.hL, atI_nat (by rw [List.getElem?_map, d1]; rfl), d, rfl, ⟨_, SqL.of d3⟩, fun N hN => ?_⟩
    have ei : (gn : Int) - 1 = ((gn - 1 : Nat) : Int) := by omega
    refine lc_list (xs := l0.map iv) (fun i H' => H' = upd H4 N (.lst (((l0.take i).filter fun z => decide (z ≠ s)).map iv))) rfl (fun i H' _ h => by rw [h, ]; exact SqL.of (by rw [upd_ne (ne_of_none d3 hN)]; exact d3)) ?_ ?_
    · rintro i y H' hi rfl
      rw [List.getElem?_map] at hi
      cases hz : l0[i]? with
      | none => rw [hz] at hi; cases hi
      | some z =>
        rw [hz] at hi
        cases hi
        refine ⟨rfl, _, rfl, _, rfl, rfl, _, rfl, ?_⟩
        have e : (l0.take (i + 1)).filter (fun z => decide (z ≠ s)) = ((l0.take i).filter fun z => decide (z ≠ s)) ++ if z = s then [] else [z] := by
          rw [List.take_add_one, hz, List.filter_append]
          congr 1
          by_cases h : z = s <;> simp [h]
        refine ite2 (fun hq => ?_) (fun hq => ?_)
        · have hzs : z ≠ s := fun h => by
            rw [h, decide_eq_true rfl] at hq
            cases hq
          refine ⟨_, rfl, _, upd_same, ?_, ?_⟩
          · rw [List.length_map]
            exact size1000 (Nat.le_trans (List.length_filter_le _ _) (by rw [List.length_take]; omega))
          · rw [e, if_neg hzs, List.map_append, upd_upd]
            rfl
        · have hzs : z = s := by
            cases hd : decide (iv z = iv s) with
            | true => exact Int.ofNat_inj.mp (V.int.inj (of_decide_eq_true hd))
            | false => rw [hd] at hq; exact absurd rfl hq
          rw [e, if_pos hzs, List.append_nil]
    · rintro H' rfl
      rw [List.length_map, List.take_length]
      generalize hle : (l0.filter fun z => decide (z ≠ s)) = less at p2
      have G5 := G4.same (H' := upd H4 N (.lst (less.map iv))) (sPut hN)
      have nNL : L ≠ N := ne_of_none G4.hL hN
      have nND : D ≠ N := ne_of_none G4.hD hN
      have nN1 := G4.lots.nmem hN
      have nN2 := G4.held.nmem hN
      have n0N := G4.sm.free hN
      refine ⟨_, rfl, g, _, dx, _, _, rfl, G5.hg, T.clG, T.gLot, gf_lot _ _, _, rfl, _, _, rfl, rfl, L, _, _, rv e, rfl, rfl, SqL.of G5.hL, by rw [ei]; exact atI_nat (by rw [List.getElem?_map, e1]; rfl), _, rfl, by show 1 ≤ sizeLine; decide, fun M hM => ?_⟩
      have G6 := G5.same (sPut (o := .lst [iv s]) hM)
      have hN5 : (upd H4 N (.lst (less.map iv))) N = some (.lst (less.map iv)) := upd_same
      have nNM : N ≠ M := ne_of_none hN5 hM
      obtain ⟨e', e1', e2', e3'⟩ := G6.lots.at hgd1
      obtain rfl : e' = e := Option.some.inj (e1'.symm.trans e1)
      refine ⟨e', M, _, _, rfl, rfl, e3', upd_same, ?_, fun p hp => ?_⟩
      · rw [List.length_map, List.length_singleton]
        exact Nat.le_of_lt (size1000 (by omega))
      have hN6 : (upd (upd H4 N (.lst (less.map iv))) M (.lst [iv s])) N = some (.lst (less.map iv)) := by rw [upd_ne nNM]; exact upd_same
      have nNp : N ≠ p := ne_of_none hN6 hp
      have pL : p ≠ L := Ne.symm (ne_of_none G6.hL hp)
      have pD : p ≠ D := Ne.symm (ne_of_none G6.hD hp)
      have hlp := G6.lots.nmem hp
      have hhp := G6.held.nmem hp
      have G7 := (G6.same (sPut (o := .lst (l1.map iv ++ [iv s])) hp)).repl (i := gn) (a := p) (l' := l1 ++ [s]) (by rw [upd_same, List.map_append]; rfl) (G6.sm.free hp) pL pD hlp hhp
      refine ⟨_, rfl, g, _, dx, _, _, rfl, G6.same (sPut hp) |>.hg, T.clG, T.gLot, gf_lot _ _, _, rfl, L, _, gn, gn, rfl, rfl, (G6.same (sPut hp)).hL, ixnn ?_, ?_⟩
      · rw [List.length_map, G.lots.1]
        exact hgl
      have em : (la.map rv).set gn (V.ref p) = (la.set gn p).map rv := by rw [List.map_set]
      rw [em]
      have Nla : N ∉ la.set gn p := fun m => by
        rcases set_mem m with h | h
        · exact nNp h
        · exact nN1 h
      have hN7 : (upd (upd (upd (upd H4 N (.lst (less.map iv))) M (.lst [iv s])) p (.lst (l1.map iv ++ [iv s]))) L (.lst ((la.set gn p).map rv))) N = some (.lst (less.map iv)) := by
        rw [upd_ne (Ne.symm nNL), upd_ne nNp]
        exact hN6
      have G8 := G7.repl (i := gn - 1) (a := N) (l' := less) hN7 n0N (Ne.symm nNL) (Ne.symm nND) Nla nN2
      refine ⟨_, rfl, _, rfl, g, _, dx, _, _, rfl, G7.hg, T.clG, T.gLot, gf_lot _ _, _, rfl, _, _, rfl, rfl, L, (la.set gn p).map rv, (gn : Int) - 1, gn - 1, rfl, rfl, G7.hL, ?_, ?_⟩
      · rw [ei]
        refine ixnn ?_
        rw [List.length_map, List.length_set, G.lots.1]
        omega
      refine ⟨_, rfl, ?_⟩
      have em2 : ((la.set gn p).map rv).set (gn - 1) (V.ref N) = ((la.set gn p).set (gn - 1) N).map rv := (List.map_set (f := rv)).symm
      rw [← em2] at G8
      have z := k _ _ (by rw [p2]; exact ⟨_, _, _, _, _, G8⟩) p3 hout
      rw [p1] at z
      exact z
  · have hg0 : ¬ 0 < gn := fun h => hc (by
      rw [decide_eq_true_eq]
      omega)
    have sh : shiftM gn s lots2 = lots2 := by
      unfold shiftM
      rw [if_neg hg0]
    rw [sh] at p2
    refine ⟨_, rfl, ?_⟩
    have z := k _ _ (by rw [p2]; exact ⟨_, _, _, _, _, G4⟩) p3 hout
    rw [p1] at z
    exact z
end
end K32
set_option Elab.async false
set_option linter.all false
set_option maxRecDepth 100000
set_option maxHeartbeats 4000000
namespace K32
open PySem PySem.Spec L2 C8
/-! range(n), n a natural -/
theorem for_rng {n : Nat} {g : TG} {tb : TS} {D : Ends} {σ : L2.St} {H : Hp} (Pv : Nat → L2.St → Hp → Prop) (h0 : Pv 0 σ H)
    (hs : ∀ i σ H, i < n → Pv i σ H → g (iv i) σ H fun σ2 H2 => tb { D with nx := Pv (i + 1), ct := Pv (i + 1), bk := D.nx } σ2 H2) (hd : ∀ σ H, Pv n σ H → D.nx σ H) :
    ∃ W : Nat → Nat → L2.St → Hp → Prop, (∃ m, W 0 m σ H) ∧ ∀ i m σ H, W i m σ H →
      ((Itr 0 ((n : Int)).toNat).stop i H ∧ D.nx σ H) ∨ ((Itr 0 ((n : Int)).toNat).go i H ∧ ∃ N : L2.St → Hp → Prop, (∀ σ' H', N σ' H' → ∃ m', m' < m ∧ W (i + 1) m' σ' H') ∧ ∀ x H', (Itr 0 ((n : Int)).toNat).yld i H x H' → g x σ H' fun σ2 H2 => tb { D with nx := N, ct := N, bk := D.nx } σ2 H2) := by
  rw [Int.toNat_natCast]
  exact for_range (lo := 0) Pv h0 (fun i σ H hi p => by rw [Int.zero_add]; exact hs i σ H hi p) hd
theorem lc_rng {n : Nat} {g : TG} {tt : TT} {te : TE} {vs : List Nat} {σ : L2.St} {H1 : Hp} {D : Addr} {Qd : Hp → Prop} (Pv : Nat → Hp → Prop) (h0 : Pv 0 (upd H1 D (.lst [])))
    (hs : ∀ i H, i < n → Pv i H → g (iv i) (wipe σ vs) H fun σ2 H2 => wipe σ2 vs = wipe σ vs ∧ tt σ2 H2 fun b H3 =>
      if b = true then te σ2 H3 fun y H4 => ∃ acc, H4 D = some (.lst acc) ∧ acc.length < sizeLine ∧ Pv (i + 1) (upd H4 D (.lst (acc ++ [y]))) else Pv (i + 1) H3) (hd : ∀ H, Pv n H → Qd H) :
    ∃ W : Nat → Nat → Hp → Prop, (∃ m, W 0 m (upd H1 D (.lst []))) ∧ ∀ i m H, W i m H →
      ((Itr 0 ((n : Int)).toNat).stop i H ∧ Qd H) ∨ ((Itr 0 ((n : Int)).toNat).go i H ∧ ∃ Nx : Hp → Prop, (∀ H', Nx H' → ∃ m', m' < m ∧ W (i + 1) m' H') ∧ ∀ x H', (Itr 0 ((n : Int)).toNat).yld i H x H' → g x (wipe σ vs) H' fun σ2 H2 => wipe σ2 vs = wipe σ vs ∧ tt σ2 H2 fun b H3 =>
        if b = true then te σ2 H3 fun y H4 => ∃ acc, H4 D = some (.lst acc) ∧ acc.length < sizeLine ∧ Nx (upd H4 D (.lst (acc ++ [y]))) else Nx H3) := by
  rw [Int.toNat_natCast]
  exact lc_range (lo := 0) Pv h0 (fun i H hi p => by rw [Int.zero_add]; exact hs i H hi p) hd
theorem pi_listK {X : Cx} (K : PySem.W.Frag) {tg l : Expr} {tl : TE} (hl : PE X l tl) (hK : X.K = K := by rfl) : PI X tg l (iList K tl) := by
  rw [← hK]
  exact pi_list hl
theorem lk_map {f : Str × NameKind → Str × NameKind} (hf : ∀ p, f p = (p.1, .cell) ∨ f p = p) : ∀ {names : List (Str × NameKind)} {x : Str}, names.lookup x = some .cell ∨ names.lookup x = some .free →
    (names.map f).lookup x = some .cell ∨ (names.map f).lookup x = some .free
  | [], x, h => by simp at h
  | (n, k) :: r, x, h => by
    have ih := @lk_map f hf r x
    rw [List.map_cons]
    by_cases hx : (x == n) = true
    · simp only [List.lookup, hx] at h
      rcases hf (n, k) with e | e
      · rw [e]
        simp only [List.lookup, hx]
        exact .inl trivial
      · rw [e]
        simp only [List.lookup, hx]
        exact h
    · have hx' : (x == n) = false := by simpa using hx
      simp only [List.lookup, hx'] at h
      have z := ih h
      rcases hf (n, k) with e | e <;> · rw [e]; simp only [List.lookup, hx']; exact z
theorem lk_relabel {env : Env} {sc : Scope} {x : Str} (h : sc.names.lookup x = some .cell ∨ sc.names.lookup x = some .free) : (relabel sc env).names.lookup x = some .cell ∨ (relabel sc env).names.lookup x = some .free :=
  lk_map (fun p => by
    by_cases hc : (p.2 == NameKind.free && env.scope.kind == .function && env.kindOf p.1 == some .cell) = true
    · exact .inl (if_pos hc)
    · exact .inr (if_neg hc)) h
theorem blkOk_in {N : List Str} {sc scope : Scope} {own : List (Str × Nat)} {env : Env} (h : blkC N sc scope own = true) : BlkOk N (relabel sc env) scope own :=
  let b := blkOk_by h
  ⟨b.kind, b.uniq, b.ix, fun y hy e => lk_relabel (b.free y hy e), b.own⟩
def scEO : Scope := match defBody sEntriesOf with
  | [.Return (some (.Call _ [.ListComp _ _ sc _] _ _)) _] => sc
  | _ => defScope sEntriesOf
section
variable {P : Program} {w : World} {K : PySem.W.Frag} {mg : Str → Option Value} {base : Heap}
def spEntriesOf (K : PySem.W.Frag) : Sp := fun vs H Q _ => ∃ (b h : Addr) (x : Nat) (ps : Par) (ha : List Addr) (helds : List (List Nat)), vs = [.ref b, .ref h, iv x] ∧ BookAt K H b ps ∧ x < ps.length ∧ H h = some (.lst (ha.map rv)) ∧ LL H ha helds ∧ helds.length ≤ 900 ∧ (∀ l ∈ helds, l.length ≤ 900) ∧
  ∀ H' t, Same H H' → (∃ xs, H' t = some (.tup xs)) → Q (.ref t) H'
theorem scEntriesOf : FnScope ["book", "held", "x", "row", "kind"] ["book", "held", "x"] (defScope sEntriesOf) := ⟨rfl, rfl, rfl, by decide +kernel, rfl, by decide +kernel, by decide +kernel⟩
theorem calEntriesOf (T : Txt K mg) (c1 : Cal P w K mg base 1 "is_one" (spIsOne K) []) (D : DefX K mg "entries_of" sEntriesOf) : Cal P w K mg base 2 "entries_of" (spEntriesOf K) [] := by
  refine mkCal D scEntriesOf (fun vs H Q E h => by obtain ⟨b, h, x, ps, ha, helds, rfl, _⟩ := h; rfl) (fun _ _ _ _ _ _ us hl => match us, hl with | [_, _, _], _ => rfl) (fun f cdv A outer s H vs Q E hr h => ?_)
  obtain ⟨b, h, x, ps, ha, helds, rfl, hB, hx, hh, hL, hn, hl, k⟩ := h
  refine ⟨_, pss_one (ps_ret (pe_callTy call_tuple_of (by rfl) T.tuple (by decide +kernel) (pa_cons
    (pe_lc (own := [("row", 3)]) (g := gName 3) (tt := tYes) rfl scEntriesOf.nd (pi_list (pv 1)) (blkOk_by (own := [("row", 3)]) (N := ["book", "held", "x", "row", "kind"]) (sc := defScope sEntriesOf) (by decide +kernel))
      (fun _ _ _ _ _ => pg_name (i := 3) scEntriesOf.nd rfl (Or.inl rfl)) (fun _ _ _ _ _ => pts_nil)
      (fun _ _ _ _ _ => pe_callB (lenK K) (by rfl) T.len PySem.boot_len (pa_cons
        (pe_lc (own := [("kind", 4)]) (g := gName 4) rfl scEntriesOf.nd (pi_listK K (pv 3)) (blkOk_in (own := [("kind", 4)]) (N := ["book", "held", "x", "row", "kind"]) (sc := scEO) (by decide +kernel))
          (fun _ _ _ _ _ => pg_name (i := 4) scEntriesOf.nd rfl (Or.inl rfl)) (fun _ _ _ _ _ => by exact pts_one (pt_val (pe_c c1 hr (by decide) (by rfl) (pa_cons (pv 0) (pa_cons (pv 2) (pa_cons (pv 4) pa_nil)))))) (fun _ _ _ _ _ => pv 4)) pa_nil))) pa_nil))), ?_⟩
  refine ⟨_, rfl, h, rfl, ⟨_, SqL.of hh⟩, fun D1 hD1 => ?_⟩
  refine lc_list (xs := ha.map rv) (fun i H' => Same H H' ∧ ∃ xs : List V, H' D1 = some (.lst xs) ∧ xs.length = i) ⟨sPut hD1, [], upd_same, rfl⟩ (fun i H' _ h => h.1.seq (SqL.of hh)) ?_ ?_
  · rintro i y H' hi ⟨sm, xs, e1, e2⟩
    rw [List.getElem?_map] at hi
    cases hz : ha[i]? with
    | none => rw [hz] at hi; cases hi
    | some a =>
      rw [hz] at hi
      cases hi
      have hil : i < helds.length := by rw [← hL.1]; exact (List.getElem?_eq_some_iff.mp hz).1
      have hll := List.getElem?_eq_getElem hil
      generalize helds[i] = l at hll
      have hla := hL.2 i a l hz hll
      have hln := hl l (List.mem_of_getElem? hll)
      have dD : D1 ≠ a := fun e => by rw [← e, hD1] at hla; cases hla
      refine ⟨rfl, yes ⟨_, rfl, a, rfl, ⟨_, SqL.of (sm _ _ hla)⟩, fun D2 hD2 => ?_⟩⟩
      have nDD : D1 ≠ D2 := ne_of_none e1 hD2
      refine lc_list (xs := l.map iv) (fun j H2 => Same H H2 ∧ H2 D1 = some (.lst xs) ∧ ∃ ys : List V, H2 D2 = some (.lst ys) ∧ ys.length ≤ j) ⟨sNew sm (sm.free hD2), by rw [upd_ne nDD]; exact e1, [], upd_same, Nat.le_refl _⟩ (fun i H' _ h => h.1.seq (SqL.of hla)) ?_ ?_
      · rintro j y H2 hj ⟨sm2, e3, ys, e4, e5⟩
        rw [List.getElem?_map] at hj
        cases hq : l[j]? with
        | none => rw [hq] at hj; cases hj
        | some q =>
          rw [hq] at hj
          cases hj
          have hjl : j < l.length := (List.getElem?_eq_some_iff.mp hq).1
          refine ⟨rfl, _, rfl, _, rfl, _, rfl, b, ps, x, _, rfl, hB.same sm2, hx, _, rfl, ?_⟩
          refine ite2 (fun hu => ?_) (fun hu => ?_)
          · refine ⟨_, rfl, _, e4, size1000 (by omega), sNew sm2 (sm.free hD2), by rw [upd_ne nDD]; exact e3, _, upd_same, ?_⟩
            rw [List.length_append, List.length_singleton]
            omega
          · exact ⟨sm2, e3, ys, e4, by omega⟩
      · rintro H2 ⟨sm2, e3, ys, e4, e5⟩
        refine ⟨D2, ys, rfl, .inl (SqL.of e4), _, e3, size1000 (by omega), sNew sm2 hD1, _, upd_same, ?_⟩
        rw [List.length_append, List.length_singleton, e2]
  · rintro H' ⟨sm, xs, e1, e2⟩
    refine ⟨D1, _, rfl, .inl ⟨SqL.of e1, fun t ht => ?_⟩⟩
    exact k _ t (sNew sm (sm.free ht)) ⟨_, upd_same⟩
end
end K32
set_option Elab.async false
set_option linter.all false
set_option maxRecDepth 100000
set_option maxHeartbeats 4000000
namespace K32
open PySem PySem.Spec L2 C8
/-- the entries found so far: a slot ahead each -/
def Found (H : Hp) (ts : List Addr) (ss : List Nat) : Prop := ts.length = ss.length ∧ ∀ (i : Nat) (t : Addr) (s : Nat), ts[i]? = some t → ss[i]? = some s → ∃ a b : V, H t = some (.tup [iv s, a, b])
theorem Found.imp {H H' : Hp} {ts : List Addr} {ss : List Nat} (h : Found H ts ss) (f : ∀ t xs, H t = some (.tup xs) → H' t = some (.tup xs)) : Found H' ts ss := ⟨h.1, fun i t s x y => let ⟨a, b, q⟩ := h.2 i t s x y; ⟨a, b, f _ _ q⟩⟩
theorem Found.snoc {H : Hp} {ts : List Addr} {ss : List Nat} {t : Addr} {s : Nat} {a b : V} (h : Found H ts ss) (q : H t = some (.tup [iv s, a, b])) : Found H (ts ++ [t]) (ss ++ [s]) := by
  refine ⟨by simp [h.1], fun i c m x y => ?_⟩
  by_cases hi : i < ts.length
  · rw [List.getElem?_append_left hi] at x
    rw [List.getElem?_append_left (by rw [← h.1]; exact hi)] at y
    exact h.2 i c m x y
  · rw [List.getElem?_append_right (by omega)] at x
    rw [List.getElem?_append_right (by rw [← h.1]; omega), ← h.1] at y
    have e0 : i - ts.length = 0 := by
      have := (List.getElem?_eq_some_iff.mp x).1
      simp at this
      omega
    rw [e0] at x y
    cases x
    cases y
    exact ⟨a, b, q⟩
section
variable {P : Program} {w : World} {K : PySem.W.Frag} {mg : Str → Option Value} {base : Heap}
theorem pe_mk0 {X : Cx} {k j : Nat} {x : Str} {C : Addr} {sp : Sp} {dvs : List V} {p pos : Pos} (c : Mak X.prog X.w X.K X.mg X.base k x C sp dvs) (hr : Room j X.A) (hk : k + 1 ≤ j) (hg : Gl X x) (hdb : (x == ("__debug__" : Str)) = false := by decide) :
    PE X (.Call (.Name x p) [] [] pos) (tMake C sp dvs C8.E0 tNil) := by
  obtain ⟨f, fd, ps, ds, M, F, hm, b, d⟩ := c.ex
  exact pe_make0 M F (hr.mono hk) hg hm b d C8.pass0 hdb
def spGoneThrough (K : PySem.W.Frag) : Sp := fun vs H Q _ => ∃ (b : Addr) (ps : Par), vs = [.ref b] ∧ BookAt K H b ps ∧ ps.length ≤ 400 ∧
  ∀ H' t g F ts, Same H H' → H' t = some (.tup [rv g, rv F]) → H' F = some (.lst (ts.map rv)) → Found H' ts (slotsM (isA ps) ps.length) → Q (.ref t) H'
theorem scGoneThrough : FnScope ["book", "groups_now", "found", "x", "slot"] ["book"] (defScope sGoneThrough) := ⟨rfl, rfl, rfl, by decide +kernel, rfl, by decide +kernel, by decide +kernel⟩
theorem calGoneThrough (T : Txt K mg) (mk : Mak P w K mg base 1 "Groups" (cG K) (spGroupsInit K) []) (cm : Cal P w K mg base 1 "many_of" (spManyOf K) []) (mp : Met P w K mg base 4 (cG K) "put" (spPut K) []) (ce : Cal P w K mg base 2 "entries_of" (spEntriesOf K) [])
    (D : DefX K mg "gone_through" sGoneThrough) : Cal P w K mg base 5 "gone_through" (spGoneThrough K) [] := by
  refine mkCal D scGoneThrough (fun vs H Q E h => by obtain ⟨b, ps, rfl, _⟩ := h; rfl) (fun _ _ _ _ _ _ us hl => match us, hl with | [_], _ => rfl) (fun f cdv A outer s H vs Q E hr h => ?_)
  obtain ⟨b, ps, rfl, hB, hlen, k⟩ := h
  refine ⟨_, pss_cons (ps_set (i := 1) scGoneThrough.nd rfl (Or.inl rfl) (pe_mk0 mk hr (by decide) (by rfl)))
    (pss_cons (ps_set (i := 2) scGoneThrough.nd rfl (Or.inl rfl) (pe_lst pa_nil))
    (pss_cons (ps_for PassesOwn.never rfl (pi_range1 (by rfl) T.range (pa_cons (pe_c cm hr (by decide) (by rfl) (pa_cons (pv 0) pa_nil)) pa_nil)) (pg_name (i := 3) scGoneThrough.nd rfl (.inl rfl))
      (pss_cons (ps_set (i := 4) scGoneThrough.nd rfl (Or.inl rfl) (pe_mt mp hr (by decide) (pv 1) (pa_cons (pv 0) (pa_cons (pv 3) pa_nil))))
      (pss_one (ps_expr (pe_bm PySem.F.plainAttrs_list PySem.F.slot_list_append PySem.F.type_list_append mt_append (pv 2) (pa_cons (pe_tup (pa_cons (pv 4)
        (pa_cons (pe_callB call_len_seq (by rfl) T.len PySem.boot_len (pa_cons (pe_ix ix_list (pe_fld (pv 1) rfl) (pv 4) (fun _ _ => rfl)) pa_nil))
        (pa_cons (pe_c ce hr (by decide) (by rfl) (pa_cons (pv 0) (pa_cons (pe_fld (pv 1) rfl) (pa_cons (pv 3) pa_nil)))) pa_nil)))) pa_nil))))))
    (pss_one (ps_ret (pe_tup (pa_cons (pv 1) (pa_cons (pv 2) pa_nil))))))), ?_⟩
  intro g dx ng ndx nex
  have s2 : Same H (upd (upd H dx (.own g)) g (.ins (cG K) dx [])) := sNew (sPut ndx) ng
  refine ⟨g, dx, H, rfl, upd_same, ng, s2, fun H1 fr G1 => ⟨rfl, ?_⟩⟩
  have s3 : Same H H1 := sTr s2 fr ng
  refine ⟨Nat.zero_le _, fun F hF => ?_⟩
  have hF0 : H F = none := s3.free hF
  refine ⟨_, rfl, b, ps, rfl, hB.same (sNew s3 hF0), _, rfl, by omega, by omega, ?_⟩
  refine for_rng (n := ps.length) (fun i σ H' => ∃ (H0 : Hp) (helds : List (List Nat)) (ts : List Addr) (v3 v4 : Option V), σ = [some (.ref b), some (.ref g), some (.ref F), v3, v4] ∧ Same H H0 ∧ GL K H0 H' g (runM (isA ps) i).1.lots helds ∧ Heldp helds (runM (isA ps) i).1.lasts ∧
    (∀ l ∈ helds, l.length ≤ i) ∧ H0 F = some (.lst (ts.map rv)) ∧ Found H0 ts (slotsM (isA ps) i)) ?_ ?_ ?_
  · obtain ⟨H0, G2, s4, wd⟩ := G1.widen (sPut (o := .lst []) hF)
    exact ⟨H0, [], [], none, none, rfl, s4, G2, ⟨rfl, by simp⟩, by simp, wd F _ upd_same (.inl hF), rfl, by simp⟩
  · rintro i σ H' hi ⟨H0, helds, ts, v3, v4, rfl, s4, G2, hp, hl, eF, fo⟩
    obtain ⟨dx2, L, D2, la, ha, G⟩ := id G2
    refine ⟨_, rfl, g, dx2, _, rfl, G.hg, gf_no _ _ (by decide +kernel) (by decide +kernel), _, rfl, _, rfl, H0, g, b, i, ps, (runM (isA ps) i).1, helds, rfl, G2, hp, hB.same s4, hi, hlen, runM_inv _ i, hl, fun H3 helds' G3 hp' hl' => ?_⟩
    have hinv := putM_inv (up := isA ps i) (runM_inv (isA ps) i)
    have hrun : runM (isA ps) (i + 1) = ((putM (isA ps i) i (runM (isA ps) i).1).2, (runM (isA ps) i).2 ++ [(putM (isA ps i) i (runM (isA ps) i).1).1]) := rfl
    have hsl : slotsM (isA ps) (i + 1) = slotsM (isA ps) i ++ [(putM (isA ps i) i (runM (isA ps) i).1).1] := rfl
    generalize putM (isA ps i) i (runM (isA ps) i).1 = pm at hinv hrun hsl G3 hp'
    obtain ⟨hi1, hi2⟩ := hinv
    obtain ⟨dx3, L3, D3, la3, ha3, GG⟩ := id G3
    have hsh : pm.1 < helds'.length := by rw [hp'.1]; exact hi2
    have hgt := List.getElem?_eq_getElem hsh
    generalize helds'[pm.1] = hm at hgt
    obtain ⟨c, c1, c2, c3⟩ := GG.held.at hgt
    have eF3 := GG.sm _ _ eF
    have hlas := hi1.las
    have hSL : ts.length = i := by rw [fo.1, slotsM_length]
    refine ⟨_, rfl, .inl ⟨rfl, _, SqL.of eF3⟩, _, rfl, _, rfl, g, _, dx3, _, _, rfl, GG.hg, T.clG, T.gHel, gf_hel _ _, _, rfl, D3, _, _, rv c, rfl, rfl, SqL.of GG.hD, atI_nat (by rw [List.getElem?_map, c1]; rfl), c, _, rfl, .inl (SqL.of c3),
      _, rfl, _, rfl, g, _, dx3, _, _, rfl, GG.hg, T.clG, T.gHel, gf_hel _ _, _, rfl, b, D3, i, ps, ha3, helds', rfl, hB.same (s4.trans GG.sm), hi, GG.hD, GG.held, ?_, fun l h => ?_, fun H4 te s5 hte => ⟨by show 3 ≤ sizeLine; decide, fun T hT => ?_⟩⟩
    · rw [hp'.1]; omega
    · have := hl' l h
      omega
    have hT3 : H3 T = none := s5.free hT
    have sT : Same H3 (upd H4 T (.tup [iv pm.1, .int ((hm.map iv).length : Nat), rv te])) := sNew s5 hT3
    obtain ⟨H5, G5, s6, wd⟩ := G3.widen sT
    have eF5 := s6 _ _ eF
    have G6 := G5.out (c := F) (o := .lst (ts.map rv ++ [rv T])) (by rw [eF5]; exact Option.some_ne_none _)
    have nFT : T ≠ F := fun e => by rw [e, eF3] at hT3; cases hT3
    refine ⟨F, _, _, rfl, rfl, sT _ _ eF3, ?_, upd H5 F (.lst (ts.map rv ++ [rv T])), helds', ts ++ [T], _, _, rfl, sNew (s4.trans s6) hF0, ?_, ?_, hl', ?_, ?_⟩
    · rw [List.length_map, hSL]
      exact size1000 (by omega)
    · rw [hrun]; exact G6
    · rw [hrun]; exact hp'
    · rw [upd_same, List.map_append]; rfl
    · rw [hsl]
      refine Found.snoc (a := .int ((hm.map iv).length : Nat)) (b := rv te) (fo.imp fun t xs h => ?_) ?_
      · have ne : t ≠ F := fun e => by rw [e, eF] at h; cases h
        rw [upd_ne ne]
        exact s6 _ _ h
      · rw [upd_ne nFT]
        exact wd T _ upd_same (.inl hT3)
  · rintro σ H' ⟨H0, helds, ts, v3, v4, rfl, s4, G2, hp, hl, eF, fo⟩
    obtain ⟨dx2, L, D2, la, ha, G⟩ := id G2
    refine ⟨_, rfl, _, rfl, by show 2 ≤ sizeLine; decide, fun t ht => ?_⟩
    have s5 := s4.trans G.sm
    have nFt : F ≠ t := ne_of_none (G.sm _ _ eF) ht
    exact k _ t g F ts (sNew s5 (s5.free ht)) upd_same (by rw [upd_ne nFt]; exact G.sm _ _ eF) (fo.imp fun u xs h => by rw [upd_ne (ne_of_none (G.sm _ _ h) ht)]; exact G.sm _ _ h)
def spPlaced (K : PySem.W.Frag) : Sp := fun vs H Q _ => ∃ (b : Addr) (ps : Par), vs = [.ref b] ∧ BookAt K H b ps ∧ ps.length ≤ 400 ∧ ∀ H' t, Same H H' → NT K H' t (slotsM (isA ps) ps.length) → Q (.ref t) H'
theorem scPlaced : FnScope ["book", "item"] ["book"] (defScope sPlaced) := ⟨rfl, rfl, rfl, by decide +kernel, rfl, by decide +kernel, by decide +kernel⟩
theorem calPlaced (T : Txt K mg) (cg : Cal P w K mg base 5 "gone_through" (spGoneThrough K) []) (D : DefX K mg "placed" sPlaced) : Cal P w K mg base 6 "placed" (spPlaced K) [] := by
  refine mkCal D scPlaced (fun vs H Q E h => by obtain ⟨b, ps, rfl, _⟩ := h; rfl) (fun _ _ _ _ _ _ us hl => match us, hl with | [_], _ => rfl) (fun f cdv A outer s H vs Q E hr h => ?_)
  obtain ⟨b, ps, rfl, hB, hlen, k⟩ := h
  refine ⟨_, pss_one (ps_ret (pe_callTy call_tuple_of (by rfl) T.tuple (by decide +kernel) (pa_cons
    (pe_lc (own := [("item", 1)]) (g := gName 1) (tt := tYes) rfl scPlaced.nd (pi_list (pe_ix ix_tup (pe_c cg hr (by decide) (by rfl) (pa_cons (pv 0) pa_nil)) pe_int (fun _ _ => rfl))) (blkOk_by (own := [("item", 1)]) (N := ["book", "item"]) (sc := defScope sPlaced) (by decide +kernel))
      (fun _ _ _ _ _ => pg_name (i := 1) scPlaced.nd rfl (Or.inl rfl)) (fun _ _ _ _ _ => pts_nil) (fun _ _ _ _ _ => pe_ix (ixTK K) (pv 1) pe_int (fun _ _ => rfl))) pa_nil))), ?_⟩
  refine ⟨_, rfl, b, ps, rfl, hB, hlen, fun H1 t g F ts s1 ht hF fo => ?_⟩
  refine ⟨t, _, _, rv F, rfl, rfl, .inl (.inl ht), rfl, F, rfl, ⟨_, SqL.of hF⟩, fun D1 hD1 => ?_⟩
  have hsl := slotsM_length (isA ps) ps.length
  generalize slotsM (isA ps) ps.length = ss at hsl fo k
  refine lc_list (xs := ts.map rv) (fun i H' => Same H1 H' ∧ H' D1 = some (.lst ((ss.take i).map iv))) ⟨sPut hD1, upd_same⟩ (fun i H' _ h => h.1.seq (SqL.of hF)) ?_ ?_
  · rintro i y H' hi ⟨sm, e1⟩
    rw [List.getElem?_map] at hi
    cases hz : ts[i]? with
    | none => rw [hz] at hi; cases hi
    | some u =>
      rw [hz] at hi
      cases hi
      have hil : i < ss.length := by rw [← fo.1]; exact (List.getElem?_eq_some_iff.mp hz).1
      have hss := List.getElem?_eq_getElem hil
      generalize ss[i] = sl at hss
      obtain ⟨a, b, hu⟩ := fo.2 i u sl hz hss
      refine ⟨rfl, yes ⟨_, rfl, u, _, _, iv sl, rfl, rfl, .inl (.inl (sm _ _ hu)), rfl, _, e1, ?_, ?_⟩⟩
      · rw [List.length_map, List.length_take]
        exact size1000 (by omega)
      · refine ⟨sNew sm hD1, ?_⟩
        rw [upd_same, List.take_add_one, hss, List.map_append]
        rfl
  · rintro H' ⟨sm, e1⟩
    rw [List.length_map, fo.1, List.take_length] at e1
    refine ⟨D1, _, rfl, .inl ⟨SqL.of e1, fun t ht => ?_⟩⟩
    exact k _ t (s1.trans (sNew sm (sm.free ht))) (.inl (.inl upd_same))
end
end K32
set_option Elab.async false
set_option linter.all false
set_option maxRecDepth 100000
set_option maxHeartbeats 4000000
namespace K32
open PySem PySem.Spec L2 C8
theorem inLK {X : Cx} (K : PySem.W.Frag) (hK : X.K = K := by rfl) : OpR X (compareOp .In) (rIn K false) := by
  rw [← hK]
  exact op_in_seq
theorem catAK {X : Cx} (K : PySem.W.Frag) (hK : X.K = K := by rfl) : OpR X (binaryOp .Add) (rCatA K) := by
  rw [← hK]
  exact op_catA
theorem inV_nat (x : Nat) (o : List Nat) : inV (iv x) (o.map iv) = o.contains x := by
  unfold inV
  rw [List.any_map, List.contains_eq_any_beq]
  congr 1
  funext y
  show eqV (iv y) (iv x) = (x == y)
  show decide ((y : Int) = (x : Int)) = (x == y)
  rw [Bool.eq_iff_iff, decide_eq_true_eq, beq_iff_eq]
  omega
theorem flat_iv (o : List Nat) : (o.map iv).all flatV = true := by
  rw [List.all_map]
  exact List.all_eq_true.mpr fun _ _ => rfl
theorem mayC_range {up : Nat → Nat → Bool} {n : Nat} {o : List Nat} {x : Nat} (hup : ∀ p, up x p = true → p ≤ x) (hx : x < n) :
    mayC up n o x = (!(o.contains x) && (((List.range x).filter (up x)).map fun p => o.contains p).all id) := by
  rw [Bool.eq_iff_iff, mayC_iff, Bool.and_eq_true, Bool.not_eq_true', List.all_eq_true]
  constructor
  · rintro ⟨h1, h2⟩
    refine ⟨by simpa using h1, fun b hb => ?_⟩
    obtain ⟨p, hp, rfl⟩ := List.mem_map.mp hb
    obtain ⟨hp1, hp2⟩ := List.mem_filter.mp hp
    have := List.mem_range.mp hp1
    exact List.contains_iff_mem.mpr (h2 p (by omega) (by omega) hp2)
  · rintro ⟨h1, h2⟩
    refine ⟨by simpa using h1, fun p hp hne hu => ?_⟩
    have hpx := hup p hu
    exact List.contains_iff_mem.mp (h2 _ (List.mem_map.mpr ⟨p, List.mem_filter.mpr ⟨List.mem_range.mpr (by omega), hu⟩, rfl⟩))
section
variable {P : Program} {w : World} {K : PySem.W.Frag} {mg : Str → Option Value} {base : Heap}
def spMayCome (K : PySem.W.Frag) : Sp := fun vs H Q _ => ∃ (b a : Addr) (ps : Par) (o : List Nat) (x : Nat), vs = [.ref b, .ref a, iv x] ∧ BookAt K H b ps ∧ Valid ps ∧ NT K H a o ∧ x < ps.length ∧ ps.length ≤ 400 ∧ ∀ H', Same H H' → Q (.bl (mayC (isA ps) ps.length o x)) H'
theorem scMayCome : FnScope ["book", "order", "x", "p"] ["book", "order", "x"] (defScope sMayCome) := ⟨rfl, rfl, rfl, by decide +kernel, rfl, by decide +kernel, by decide +kernel⟩
theorem calMayCome (T : Txt K mg) (c1 : Cal P w K mg base 1 "is_one" (spIsOne K) []) (D : DefX K mg "may_come" sMayCome) : Cal P w K mg base 2 "may_come" (spMayCome K) [] := by
  refine mkCal D scMayCome (fun vs H Q E h => by obtain ⟨b, a, ps, o, x, rfl, _⟩ := h; rfl) (fun _ _ _ _ _ _ us hl => match us, hl with | [_, _, _], _ => rfl) (fun f cdv A outer s H vs Q E hr h => ?_)
  obtain ⟨b, a, ps, o, x, rfl, hB, hv, ha, hx, hlen, k⟩ := h
  refine ⟨_, pss_one (ps_ret (pe_and (pe_cmpR op_notIn_seq (pv 2) (pv 1) (by with_unfolding_all rfl)) (pe_one (pe_callB (cr_all rfl) (by rfl) T.all (by decide +kernel) (pa_cons
    (pe_lc (own := [("p", 3)]) (g := gName 3) rfl scMayCome.nd (pi_range1 (by rfl) T.range (pa_cons (pv 2) pa_nil)) (blkOk_by (own := [("p", 3)]) (N := ["book", "order", "x", "p"]) (sc := defScope sMayCome) (by decide +kernel))
      (fun _ _ _ _ _ => pg_name (i := 3) scMayCome.nd rfl (Or.inl rfl)) (fun _ _ _ _ _ => by exact pts_one (pt_val (pe_c c1 hr (by decide) (by rfl) (pa_cons (pv 0) (pa_cons (pv 2) (pa_cons (pv 3) pa_nil))))))
      (fun _ _ _ _ _ => pe_cmpR (inLK K) (pv 3) (pv 1) (by with_unfolding_all rfl))) pa_nil))))), ?_⟩
  have em := mayC_range (up := isA ps) (n := ps.length) (o := o) (x := x) (fun p h => (isA_le hv x p h).1) hx
  refine ⟨_, rfl, _, rfl, a, _, rfl, .inr ha, rfl, flat_iv o, ?_⟩
  rw [if_pos rfl, inV_nat]
  cases hc : o.contains x with
  | true =>
    refine ⟨false, rfl, iteF ?_⟩
    have z := k H (Same.refl H)
    rw [em, hc] at z
    exact z
  | false =>
    refine ⟨true, rfl, iteT ?_⟩
    rw [hc] at em
    refine ⟨_, rfl, _, rfl, by omega, by omega, fun D1 hD1 => ?_⟩
    refine lc_rng (n := x) (fun i H' => Same H H' ∧ H' D1 = some (.lst ((((List.range i).filter (isA ps x)).map fun p => o.contains p).map V.bl))) ⟨sPut hD1, upd_same⟩ ?_ ?_
    · rintro i H' hi ⟨sm, e1⟩
      refine ⟨rfl, _, rfl, _, rfl, _, rfl, b, ps, x, i, rfl, hB.same sm, hx, _, rfl, ?_⟩
      rw [List.range_succ, List.filter_append]
      refine ite2 (fun hu => ?_) (fun hu => ?_)
      · refine ⟨_, rfl, _, rfl, a, _, rfl, .inr (sTup sm ha), rfl, flat_iv o, _, e1, ?_, sNew sm hD1, ?_⟩
        · rw [List.length_map, List.length_map]
          exact size1000 (Nat.le_trans (List.length_filter_le _ _) (by rw [List.length_range]; omega))
        · rw [upd_same, inV_nat]
          have e : [i].filter (isA ps x) = [i] := by simp [hu]
          rw [e, List.map_append, List.map_append]
          rfl
      · have e : [i].filter (isA ps x) = [] := by simp [hu]
        rw [e, List.append_nil]
        exact ⟨sm, e1⟩
    · rintro H' ⟨sm, e1⟩
      refine ⟨D1, _, rfl, SqL.of e1, ?_⟩
      have z := k H' sm
      rw [em] at z
      exact z
end
end K32
set_option Elab.async false
set_option linter.all false
set_option maxRecDepth 100000
set_option maxHeartbeats 4000000
namespace K32
open PySem PySem.Spec L2 C8
theorem take_flat {α β : Type} (g : α → List β) (f : List α) (j : Nat) : ((f.take j).flatMap g).length ≤ (f.flatMap g).length := by
  conv => rhs; rw [← List.take_append_drop j f]
  rw [List.flatMap_append, List.length_append]
  exact Nat.le_add_right _ _
theorem take_flat_succ {α β : Type} (g : α → List β) {f : List α} {j : Nat} {a : α} (h : f[j]? = some a) : (f.take (j + 1)).flatMap g = (f.take j).flatMap g ++ g a := by
  rw [List.take_add_one, h, List.flatMap_append]
  simp
theorem Nts.app {K : PySem.W.Frag} {H : Hp} {as bs : List Addr} {ls ms : List (List Nat)} (h : Nts K H as ls) (h2 : Nts K H bs ms) : Nts K H (as ++ bs) (ls ++ ms) := by
  refine ⟨by rw [List.length_append, List.length_append, h.1, h2.1], fun i a l x y => ?_⟩
  by_cases hi : i < as.length
  · rw [List.getElem?_append_left hi] at x
    rw [List.getElem?_append_left (by rw [← h.1]; exact hi)] at y
    exact h.2 i a l x y
  · rw [List.getElem?_append_right (by omega)] at x
    rw [List.getElem?_append_right (by rw [← h.1]; omega), ← h.1] at y
    exact h2.2 _ a l x y
theorem pow7 {n k : Nat} (hn : n ≤ 7) (hk : k ≤ 7) : n ^ k ≤ 823543 := Nat.le_trans (Nat.pow_le_pow_left hn k) (Nat.le_trans (Nat.pow_le_pow_right (by decide) hk) (by decide))
theorem size900k {n : Nat} (h : n ≤ 823543) : n < sizeLine := Nat.lt_of_le_of_lt h (by unfold sizeLine; decide)
section
variable {P : Program} {w : World} {K : PySem.W.Frag} {mg : Str → Option Value} {base : Heap}
def spAllOrders (K : PySem.W.Frag) : Sp := fun vs H Q _ => ∃ (b : Addr) (ps : Par), vs = [.ref b] ∧ BookAt K H b ps ∧ Valid ps ∧ ps.length ≤ 7 ∧ ∀ H' F as, Same H H' → H' F = some (.lst (as.map rv)) → Nts K H' as (ordM (isA ps) ps.length ps.length) → Q (.ref F) H'
theorem scAllOrders : FnScope ["book", "found", "turn", "longer", "order", "x"] ["book"] (defScope sAllOrders) := ⟨rfl, rfl, rfl, by decide +kernel, rfl, by decide +kernel, by decide +kernel⟩
theorem calAllOrders (T : Txt K mg) (cm : Cal P w K mg base 1 "many_of" (spManyOf K) []) (cc : Cal P w K mg base 2 "may_come" (spMayCome K) []) (D : DefX K mg "all_orders" sAllOrders) : Cal P w K mg base 3 "all_orders" (spAllOrders K) [] := by
  refine mkCal D scAllOrders (fun vs H Q E h => by obtain ⟨b, ps, rfl, _⟩ := h; rfl) (fun _ _ _ _ _ _ us hl => match us, hl with | [_], _ => rfl) (fun f cdv A outer s H vs Q E hr h => ?_)
  obtain ⟨b, ps, rfl, hB, hv, hlen, k⟩ := h
  refine ⟨_, pss_cons (ps_set (i := 1) scAllOrders.nd rfl (Or.inl rfl) (pe_lst (pa_cons (pe_tup pa_nil) pa_nil)))
    (pss_cons (ps_for PassesOwn.never rfl (pi_range1 (by rfl) T.range (pa_cons (pe_c cm hr (by decide) (by rfl) (pa_cons (pv 0) pa_nil)) pa_nil)) (pg_name (i := 2) scAllOrders.nd rfl (.inl rfl))
      (pss_cons (ps_set (i := 3) scAllOrders.nd rfl (Or.inl rfl) (pe_lst pa_nil))
      (pss_cons (ps_for PassesOwn.never rfl (pi_list (pv 1)) (pg_name (i := 4) scAllOrders.nd rfl (.inr rfl))
        (pss_one (ps_expr (pe_bm PySem.F.plainAttrs_list PySem.F.slot_list_extend PySem.F.type_list_extend mt_extend (pv 3) (pa_cons
          (pe_lc (own := [("x", 5)]) (g := gName 5) rfl scAllOrders.nd (pi_range1 (by rfl) T.range (pa_cons (pe_c cm hr (by decide) (by rfl) (pa_cons (pv 0) pa_nil)) pa_nil)) (blkOk_by (own := [("x", 5)]) (N := ["book", "found", "turn", "longer", "order", "x"]) (sc := defScope sAllOrders) (by decide +kernel))
            (fun _ _ _ _ _ => pg_name (i := 5) scAllOrders.nd rfl (Or.inl rfl)) (fun _ _ _ _ _ => by exact pts_one (pt_val (pe_c cc hr (by decide) (by rfl) (pa_cons (pv 0) (pa_cons (pv 4) (pa_cons (pv 5) pa_nil))))))
            (fun _ _ _ _ _ => pe_op (catAK K) (pv 4) (pe_tup (pa_cons (pv 5) pa_nil)))) pa_nil)))))
      (pss_one (ps_set (i := 1) scAllOrders.nd rfl (Or.inl rfl) (pv 3))))))
    (pss_one (ps_ret (pv 1)))), ?_⟩
  refine ⟨Nat.zero_le _, fun t ht => ⟨by show 1 ≤ sizeLine; decide, fun F0 hF0 => ?_⟩⟩
  have s1 : Same H (upd H t (.tup [])) := sPut ht
  have nF0t : F0 ≠ t := fun e => by rw [e, upd_same] at hF0; cases hF0
  have s2 : Same H (upd (upd H t (.tup [])) F0 (.lst [rv t])) := sNew s1 (s1.free hF0)
  refine ⟨_, rfl, b, ps, rfl, hB.same s2, _, rfl, by omega, by omega, ?_⟩
  generalize hn : ps.length = n at *
  refine for_rng (n := n) (fun i σ H' => Same H H' ∧ ∃ (F : Addr) (as : List Addr) (v2 v3 v4 v5 : Option V), σ = [some (.ref b), some (.ref F), v2, v3, v4, v5] ∧ H' F = some (.lst (as.map rv)) ∧ Nts K H' as (ordM (isA ps) n i)) ?_ ?_ ?_
  · refine ⟨s2, F0, [t], none, none, none, none, rfl, upd_same, ?_⟩
    exact Nts.snoc (as := []) (ls := []) Nts.nil (.inl (.inl (by rw [upd_ne (Ne.symm nF0t), upd_same]; rfl)))
  · rintro i σ H1 hi ⟨s3, F, as, v2, v3, v4, v5, rfl, eF, eN⟩
    refine ⟨Nat.zero_le _, fun L hL => ?_⟩
    have hL0 : H L = none := s3.free hL
    have nFL : F ≠ L := ne_of_none eF hL
    have hlenF := ordM_len (isA ps) n i
    have hlenF2 := ordM_len (isA ps) n (i + 1)
    have hext : ordM (isA ps) n (i + 1) = (ordM (isA ps) n i).flatMap fun o => ((List.range n).filter (mayC (isA ps) n o)).map fun x => o ++ [x] := rfl
    generalize hgg : (fun o : List Nat => ((List.range n).filter (mayC (isA ps) n o)).map fun x => o ++ [x]) = gg at hext
    rw [hext] at hlenF2 ⊢
    generalize hff : ordM (isA ps) n i = ff at eN hlenF hlenF2 ⊢
    have hol : ∀ o ∈ ff, o.length ≤ 7 := fun o ho => by
      rw [← hff] at ho
      have := (ordM_ok ho).len
      omega
    have p7 := pow7 (n := n) (k := i) hlen (by omega)
    have p7' := pow7 (n := n) (k := i + 1) hlen (by omega)
    refine ⟨_, rfl, F, rfl, ⟨_, SqL.of (by rw [upd_ne nFL]; exact eF)⟩, ?_⟩
    refine for_list (xs := as.map rv) (fun j σ H' => Same H H' ∧ H' F = some (.lst (as.map rv)) ∧ Nts K H' as ff ∧ ∃ (as2 : List Addr) (v2 v4 v5 : Option V), σ = [some (.ref b), some (.ref F), v2, some (.ref L), v4, v5] ∧ H' L = some (.lst (as2.map rv)) ∧ Nts K H' as2 ((ff.take j).flatMap gg)) ?_ (fun j σ H' _ h => SqL.of h.2.1) ?_ ?_
    · exact ⟨sNew s3 hL0, by rw [upd_ne nFL]; exact eF, eN.upd (noT_n hL), [], _, _, _, rfl, upd_same, Nts.nil⟩
    · rintro j y σ H2 hj ⟨s4, eF2, eN2, as2, v2, v4, v5, rfl, eL, eM⟩
      rw [List.getElem?_map] at hj
      cases hz : as[j]? with
      | none => rw [hz] at hj; cases hj
      | some a =>
        rw [hz] at hj
        cases hj
        have hjl : j < ff.length := by rw [← eN2.1]; exact (List.getElem?_eq_some_iff.mp hz).1
        have hoo := List.getElem?_eq_getElem hjl
        generalize ff[j] = o at hoo
        have hto := eN2.2 j a o hz hoo
        have ho7 := hol o (List.mem_of_getElem? hoo)
        have tk := take_flat gg ff j
        have tks := take_flat_succ gg hoo
        have tk1 := take_flat gg ff (j + 1)
        refine ⟨_, rfl, .inl ⟨rfl, _, SqL.of eL⟩, _, rfl, b, ps, rfl, hB.same s4, _, rfl, by omega, by omega, fun D1 hD1 => ?_⟩
        rw [hn]
        have hD0 : H D1 = none := s4.free hD1
        have nFD : F ≠ D1 := ne_of_none eF2 hD1
        have nLD : L ≠ D1 := ne_of_none eL hD1
        refine lc_rng (n := n) (fun i H' => Same H H' ∧ H' F = some (.lst (as.map rv)) ∧ Nts K H' as ff ∧ H' L = some (.lst (as2.map rv)) ∧ Nts K H' as2 ((ff.take j).flatMap gg) ∧ NT K H' a o ∧ ∃ as3 : List Addr, H' D1 = some (.lst (as3.map rv)) ∧ Nts K H' as3 (((List.range i).filter (mayC (isA ps) n o)).map fun x => o ++ [x])) ?_ ?_ ?_
        · exact ⟨sNew s4 hD0, by rw [upd_ne nFD]; exact eF2, eN2.upd (noT_n hD1), by rw [upd_ne nLD]; exact eL, eM.upd (noT_n hD1), hto.upd (noT_n hD1), [], upd_same, Nts.nil⟩
        · rintro x H3 hx ⟨s5, eF3, eN3, eL3, eM3, hto3, as3, eD3, eR3⟩
          refine ⟨rfl, _, rfl, _, rfl, _, rfl, b, a, ps, o, x, rfl, hB.same s5, hv, hto3, by omega, by omega, fun H4 s6 => ⟨_, rfl, ?_⟩⟩
          rw [hn, List.range_succ, List.filter_append]
          have eD4 := s6 _ _ eD3
          refine ite2 (fun hu => ?_) (fun hu => ?_)
          · have e : [x].filter (mayC (isA ps) n o) = [x] := by simp [hu]
            rw [e, List.map_append]
            have fin : ∀ p H5, Same H4 H5 → NT K H5 p (o ++ [x]) → ∃ acc, H5 D1 = some (.lst acc) ∧ acc.length < sizeLine ∧ (Same H (upd H5 D1 (.lst (acc ++ [.ref p]))) ∧ (upd H5 D1 (.lst (acc ++ [.ref p]))) F = some (.lst (as.map rv)) ∧ Nts K (upd H5 D1 (.lst (acc ++ [.ref p]))) as ff ∧ (upd H5 D1 (.lst (acc ++ [.ref p]))) L = some (.lst (as2.map rv)) ∧ Nts K (upd H5 D1 (.lst (acc ++ [.ref p]))) as2 ((ff.take j).flatMap gg) ∧ NT K (upd H5 D1 (.lst (acc ++ [.ref p]))) a o ∧ ∃ as3 : List Addr, (upd H5 D1 (.lst (acc ++ [.ref p]))) D1 = some (.lst (as3.map rv)) ∧ Nts K (upd H5 D1 (.lst (acc ++ [.ref p]))) as3 ((((List.range x).filter (mayC (isA ps) n o)).map fun x => o ++ [x]) ++ [x].map fun x => o ++ [x])) := by
              intro p H5 s7 hp
              have s8 := s6.trans s7
              have eD5 := s7 _ _ eD4
              have nt := noT_l eD5
              refine ⟨_, eD5, ?_, sNew (s5.trans s8) hD0, by rw [upd_ne nFD]; exact s8 _ _ eF3, (eN3.same s8).upd nt, by rw [upd_ne nLD]; exact s8 _ _ eL3, (eM3.same s8).upd nt, (hto3.same s8).upd nt, as3 ++ [p], by rw [upd_same, List.map_append]; rfl, ((eR3.same s8).snoc hp).upd nt⟩
              rw [List.length_map, eR3.1, List.length_map]
              exact size1000 (Nat.le_trans (List.length_filter_le _ _) (by rw [List.length_range]; omega))
            refine ⟨_, rfl, _, rfl, by show 1 ≤ sizeLine; decide, fun t2 ht2 => ?_⟩
            have s7 : Same H4 (upd H4 t2 (.tup [iv x])) := sPut ht2
            refine ⟨a, t2, _, _, rfl, rfl, (hto3.same s6).same s7, .inl (.inl upd_same), ?_, fun e => ?_, fun _ e => (by cases e), fun _ _ p hp => ?_⟩
            · rw [List.length_map, List.length_singleton]
              exact Nat.le_of_lt (size1000 (by omega))
            · obtain rfl : o = [] := by
                cases o with
                | nil => rfl
                | cons _ _ => cases e
              exact fin t2 _ s7 (.inl (.inl upd_same))
            · exact fin p _ (s7.trans (sPut hp)) (.inl (.inl (by rw [upd_same, List.map_append]; rfl)))
          · have e : [x].filter (mayC (isA ps) n o) = [] := by simp [hu]
            rw [e, List.append_nil]
            exact ⟨s5.trans s6, s6 _ _ eF3, eN3.same s6, s6 _ _ eL3, eM3.same s6, hto3.same s6, as3, eD4, eR3.same s6⟩
        · rintro H3 ⟨s5, eF3, eN3, eL3, eM3, hto3, as3, eD3, eR3⟩
          have eG : ((List.range n).filter (mayC (isA ps) n o)).map (fun x => o ++ [x]) = gg o := by rw [← hgg]
          rw [eG] at eR3
          have nt := noT_l eL3
          refine ⟨L, D1, _, _, rfl, rfl, eL3, eD3, ?_, sNew s5 hL0, by rw [upd_ne nFL]; exact eF3, eN3.upd nt, as2 ++ as3, _, _, _, rfl, by rw [upd_same, List.map_append], ?_⟩
          · rw [List.length_map, List.length_map, eM3.1, eR3.1]
            rw [tks, List.length_append] at tk1
            exact Nat.le_of_lt (size900k (by omega))
          · rw [tks]
            exact (eM3.app eR3).upd nt
    · rintro σ H2 ⟨s4, eF2, eN2, as2, v2, v4, v5, rfl, eL, eM⟩
      rw [List.length_map, eN2.1, List.take_length] at eM
      exact ⟨_, rfl, s4, L, as2, _, _, _, _, rfl, eL, eM⟩
  · rintro σ H1 ⟨s3, F, as, v2, v3, v4, v5, rfl, eF, eN⟩
    exact ⟨_, rfl, k H1 F as s3 eF eN⟩
end
end K32
set_option Elab.async false
set_option linter.all false
set_option maxRecDepth 100000
set_option maxHeartbeats 4000000
namespace K32
open PySem PySem.Spec L2 C8
open PySem.W (dataLt)
/-! addresses and what stands there, one by one -/
def A2 {α : Type} (R : Addr → α → Prop) (as : List Addr) (ms : List α) : Prop := as.length = ms.length ∧ ∀ (i : Nat) (a : Addr) (m : α), as[i]? = some a → ms[i]? = some m → R a m
theorem A2.nil {α : Type} {R : Addr → α → Prop} : A2 R [] [] := ⟨rfl, fun i a l h => by simp at h⟩
theorem A2.imp {α : Type} {R S : Addr → α → Prop} {as : List Addr} {ms : List α} (h : A2 R as ms) (f : ∀ a m, R a m → S a m) : A2 S as ms := ⟨h.1, fun i a l x y => f a l (h.2 i a l x y)⟩
theorem A2.snoc {α : Type} {R : Addr → α → Prop} {as : List Addr} {ms : List α} {a : Addr} {m : α} (h : A2 R as ms) (q : R a m) : A2 R (as ++ [a]) (ms ++ [m]) := by
  refine ⟨by simp [h.1], fun i b l x y => ?_⟩
  by_cases hi : i < as.length
  · rw [List.getElem?_append_left hi] at x
    rw [List.getElem?_append_left (by rw [← h.1]; exact hi)] at y
    exact h.2 i b l x y
  · rw [List.getElem?_append_right (by omega)] at x
    rw [List.getElem?_append_right (by rw [← h.1]; omega), ← h.1] at y
    have e0 : i - as.length = 0 := by
      have := (List.getElem?_eq_some_iff.mp x).1
      simp at this
      omega
    rw [e0] at x y
    cases x
    cases y
    exact q
theorem A2.tail {α : Type} {R : Addr → α → Prop} {a : Addr} {as : List Addr} {m : α} {ms : List α} (h : A2 R (a :: as) (m :: ms)) : R a m ∧ A2 R as ms :=
  ⟨h.2 0 a m rfl rfl, Nat.succ.inj h.1, fun i b l x y => h.2 (i + 1) b l x y⟩
/-- a pair of a number and an order -/
def PairAt (K : PySem.W.Frag) (H : Hp) (c : Addr) (p : Nat × List Nat) : Prop := ∃ a, H c = some (.tup [iv p.1, rv a]) ∧ NT K H a p.2
theorem PairAt.same {K : PySem.W.Frag} {H H' : Hp} (e : Same H H') {c : Addr} {p : Nat × List Nat} (h : PairAt K H c p) : PairAt K H' c p := ⟨h.choose, e _ _ h.choose_spec.1, h.choose_spec.2.same e⟩
theorem PairAt.upd {K : PySem.W.Frag} {H : Hp} {l : Addr} {o : HO} (n : NoT H l) {c : Addr} {p : Nat × List Nat} (h : PairAt K H c p) : PairAt K (upd H l o) c p :=
  let ⟨a, h1, h2⟩ := h
  have ne : c ≠ l := fun e => n.1 _ (by rw [← e]; exact h1)
  ⟨a, by rw [upd_ne ne]; exact h1, h2.upd n⟩
theorem dp_ints {K : PySem.W.Frag} {H : Hp} : ∀ o : List Nat, DpAll K H (o.map iv) (o.map fun n : Nat => PyData.int (n : Int))
  | [] => .nil
  | n :: r => .cons (.int _) (dp_ints r)
theorem dp_IT {K : PySem.W.Frag} {H : Hp} {a : Addr} {o : List Nat} (h : NT K H a o) : Dp K H (.ref a) (IT o) := .tup h (dp_ints o)
theorem dp_PD {K : PySem.W.Frag} {H : Hp} {c : Addr} {p : Nat × List Nat} (h : PairAt K H c p) : Dp K H (.ref c) (PD p.1 p.2) := .tup (.inl (.inl h.choose_spec.1)) (.cons (.int _) (.cons (dp_IT h.choose_spec.2) .nil))
theorem dp_pairs {K : PySem.W.Frag} {H : Hp} : ∀ {cs : List Addr} {ms : List (Nat × List Nat)}, A2 (PairAt K H) cs ms → DpAll K H (cs.map rv) (ms.map fun p => PD p.1 p.2)
  | [], [], _ => .nil
  | [], _ :: _, h => absurd h.1 (by simp)
  | _ :: _, [], h => absurd h.1 (by simp)
  | c :: cs, m :: ms, h => .cons (dp_PD h.tail.1) (dp_pairs h.tail.2)
theorem dp_orders {K : PySem.W.Frag} {H : Hp} : ∀ {as : List Addr} {ls : List (List Nat)}, A2 (NT K H) as ls → DpAll K H (as.map rv) (ls.map IT)
  | [], [], _ => .nil
  | [], _ :: _, h => absurd h.1 (by simp)
  | _ :: _, [], h => absurd h.1 (by simp)
  | c :: cs, m :: ms, h => .cons (dp_IT h.tail.1) (dp_orders h.tail.2)
/-- min of such pairs -/
theorem min_pairs {K : PySem.W.Frag} {H : Hp} {C : Addr} {cs : List Addr} {ms : List (Nat × List Nat)} {Q : VK} (hC : H C = some (.lst (cs.map rv))) (hc : A2 (PairAt K H) cs ms) (hne : ms ≠ [])
    (k : ∀ c p, PairAt K H c p → p ∈ ms → (∀ q ∈ ms, dataLt (PD q.1 q.2) (PD p.1 p.2) = false) → Q (.ref c) H) : rMinD K [.ref C] H Q := by
  cases ms with
  | nil => exact absurd rfl hne
  | cons m0 mr =>
    refine ⟨C, cs.map rv, PD m0.1 m0.2, mr.map (fun p : Nat × List Nat => PD p.1 p.2), rfl, SqL.of hC, dp_pairs hc, alikeP (m0 :: mr), Nat.le_trans (depAP (m0 :: mr)) (by decide), fun i v hi hd => ?_⟩
    have hd' : ((m0 :: mr).map fun p => PD p.1 p.2)[i]? = some (PySem.W.minD (PD m0.1 m0.2) (mr.map fun p => PD p.1 p.2)) := hd
    rw [List.getElem?_map] at hi hd'
    cases hz : cs[i]? with
    | none => rw [hz] at hi; cases hi
    | some c =>
      rw [hz] at hi
      cases hi
      cases hp : (m0 :: mr)[i]? with
      | none => rw [hp] at hd'; cases hd'
      | some p =>
        rw [hp] at hd'
        have e : PD p.1 p.2 = PySem.W.minD (PD m0.1 m0.2) (mr.map fun p => PD p.1 p.2) := Option.some.inj hd'
        refine k c p (hc.2 i c p hz hp) (List.mem_of_getElem? hp) fun q hq => ?_
        rw [e]
        exact minD_le _ _ _ (List.mem_map.mpr ⟨q, hq, rfl⟩ : PD q.1 q.2 ∈ (m0 :: mr).map fun p => PD p.1 p.2)
theorem lenSetK {X : Cx} (K : PySem.W.Frag) {a : Expr} {ta : TE} {p p2 q pos : Pos} (hg : Gl X "len") (hm : X.mg "len" = none) (hg2 : Gl X "set") (hm2 : X.mg "set" = none) (ha : PE X a ta) (hK : X.K = K := by rfl) (hc : X.calm = true := by rfl)
    (na : starEach [a] X.env = (false, eval a X.env) :: starEach [] X.env := by rfl) : PE X (.Call (.Name "len" p) [.Call (.Name "set" p2) [a] [] q] [] pos) (tLenSetT K ta) := by
  rw [← hK]
  exact pe_lenSetT hg hm hg2 hm2 ha hc na
section
variable {P : Program} {w : World} {K : PySem.W.Frag} {mg : Str → Option Value} {base : Heap}
def spCheckMost : Sp := fun vs H Q _ => ∃ a b : Int, vs = [.int a, .int b] ∧ a ≤ b ∧ Q .non H
theorem scCheckMost : FnScope ["number", "most"] ["number", "most"] (defScope sCheckMost) := ⟨rfl, rfl, rfl, by decide +kernel, rfl, by decide +kernel, by decide +kernel⟩
theorem calCheckMost (T : Txt K mg) (D : DefX K mg "check_most" sCheckMost) : Cal P w K mg base 1 "check_most" spCheckMost [] := by
  refine mkCal D scCheckMost (fun vs H Q E h => by obtain ⟨a, b, rfl, _⟩ := h; rfl) (fun _ _ _ _ _ _ us hl => match us, hl with | [_, _], _ => rfl) (fun f cdv A outer s H vs Q E hr h => ?_)
  obtain ⟨a, b, rfl, hab, k⟩ := h
  refine ⟨_, pss_one (ps_if (pt_cmpR op_gt (pv 0) (pv 1) (nomark _)) pss_never pss_nil), ?_⟩
  exact ⟨_, rfl, _, rfl, _, _, rfl, rfl, false, blF (by omega), iteF k⟩
def spCountsOf (K : PySem.W.Frag) : Sp := fun vs H Q _ => ∃ (b : Addr) (ps : Par), vs = [.ref b] ∧ BookAt K H b ps ∧ Valid ps ∧ ps.length ≤ 7 ∧ ∀ H' C cs, Same H H' → H' C = some (.lst (cs.map rv)) → A2 (PairAt K H') cs (countsM ps) → Q (.ref C) H'
theorem scCountsOf : FnScope ["book", "order"] ["book"] (defScope sCountsOf) := ⟨rfl, rfl, rfl, by decide +kernel, rfl, by decide +kernel, by decide +kernel⟩
theorem calCountsOf (T : Txt K mg) (ck : Cal P w K mg base 1 "check_most" spCheckMost []) (cm : Cal P w K mg base 1 "many_of" (spManyOf K) []) (ca : Cal P w K mg base 3 "all_orders" (spAllOrders K) []) (cp : Cal P w K mg base 6 "placed" (spPlaced K) []) (cr : Cal P w K mg base 8 "reordered" (spReordered K) [])
    (D : DefX K mg "counts_of" sCountsOf) : Cal P w K mg base 9 "counts_of" (spCountsOf K) [] := by
  refine mkCal D scCountsOf (fun vs H Q E h => by obtain ⟨b, ps, rfl, _⟩ := h; rfl) (fun _ _ _ _ _ _ us hl => match us, hl with | [_], _ => rfl) (fun f cdv A outer s H vs Q E hr h => ?_)
  obtain ⟨b, ps, rfl, hB, hv, hlen, k⟩ := h
  refine ⟨_, pss_cons (ps_expr (pe_c ck hr (by decide) (by rfl) (pa_cons (pe_c cm hr (by decide) (by rfl) (pa_cons (pv 0) pa_nil)) (pa_cons (pe_gi (by rfl) T.mostO) pa_nil))))
    (pss_one (ps_ret (pe_lc (own := [("order", 1)]) (g := gName 1) (tt := tYes) rfl scCountsOf.nd (pi_list (pe_c ca hr (by decide) (by rfl) (pa_cons (pv 0) pa_nil))) (blkOk_by (own := [("order", 1)]) (N := ["book", "order"]) (sc := defScope sCountsOf) (by decide +kernel))
      (fun _ _ _ _ _ => pg_name (i := 1) scCountsOf.nd rfl (Or.inl rfl)) (fun _ _ _ _ _ => pts_nil)
      (fun _ _ _ _ _ => pe_tup (pa_cons (lenSetK K (by rfl) T.len (by rfl) T.set (pe_c cp hr (by decide) (by rfl) (pa_cons (pe_c cr hr (by decide) (by rfl) (pa_cons (pv 0) (pa_cons (pv 1) pa_nil))) pa_nil))) (pa_cons (pv 1) pa_nil)))))), ?_⟩
  refine ⟨_, rfl, b, ps, rfl, hB, _, 7, rfl, by show ((ps.length : Nat) : Int) ≤ 7; omega, ?_⟩
  refine ⟨_, rfl, b, ps, rfl, hB, hv, hlen, fun H1 F as s1 eF eN => ?_⟩
  refine ⟨F, rfl, ⟨_, SqL.of eF⟩, fun D1 hD1 => ?_⟩
  have hlen7 := Nat.le_trans (ordM_len (isA ps) ps.length ps.length) (pow7 hlen hlen)
  have hD0 : H D1 = none := s1.free hD1
  have hcm : countsM ps = (ordM (isA ps) ps.length ps.length).map fun o => (ndist (slotsM (isA (movedM ps o)) ps.length), o) := rfl
  have hok : ∀ o ∈ ordM (isA ps) ps.length ps.length, OrdK (isA ps) ps.length ps.length o := fun o h => ordM_ok h
  generalize ordM (isA ps) ps.length ps.length = os at eN hlen7 hcm hok
  have nDF : F ≠ D1 := ne_of_none eF hD1
  rw [hcm] at k
  refine lc_list (xs := as.map rv) (fun i H' => Same H1 H' ∧ ∃ cs : List Addr, H' D1 = some (.lst (cs.map rv)) ∧ A2 (PairAt K H') cs ((os.map fun o => (ndist (slotsM (isA (movedM ps o)) ps.length), o)).take i)) ⟨sPut hD1, [], upd_same, A2.nil⟩ (fun i H' _ h => h.1.seq (SqL.of eF)) ?_ ?_
  · rintro i y H' hi ⟨sm, cs, e1, e2⟩
    rw [List.getElem?_map] at hi
    cases hz : as[i]? with
    | none => rw [hz] at hi; cases hi
    | some a =>
      rw [hz] at hi
      cases hi
      have hil : i < os.length := by rw [← eN.1]; exact (List.getElem?_eq_some_iff.mp hz).1
      have hoo := List.getElem?_eq_getElem hil
      generalize os[i] = o at hoo
      have hto := eN.2 i a o hz hoo
      have hor := hok o (List.mem_of_getElem? hoo)
      have hml : (movedM ps o).length = ps.length := by rw [movedM_length, hor.len]
      refine ⟨rfl, yes ⟨_, rfl, _, rfl, b, a, ps, o, rfl, hB.same (s1.trans sm), hv, by omega, hto.same sm, hor, fun H2 b' s2 hb' => ?_⟩⟩
      refine ⟨b', movedM ps o, rfl, hb', by omega, fun H3 t s3 ht => ?_⟩
      have hsl := slotsM_length (isA (movedM ps o)) (movedM ps o).length
      rw [hml] at ht hsl
      refine ⟨t, (slotsM (isA (movedM ps o)) ps.length).map (fun n : Nat => (n : Int)), rfl, by rw [← iv_map]; exact ht, by rw [List.length_map, hsl]; omega, fun ks h1 h2 => ?_⟩
      rw [ndist_of h1 h2]
      have s4 := s2.trans s3
      refine ⟨_, rfl, by show 2 ≤ sizeLine; decide, fun c hc => ?_⟩
      have e3 := s4 _ _ e1
      have nDc : D1 ≠ c := ne_of_none e3 hc
      refine ⟨_, by rw [upd_ne nDc]; exact e3, ?_, ?_⟩
      · rw [List.length_map, e2.1, List.length_take, List.length_map]
        exact size900k (by omega)
      · have nt : NoT (upd H3 c (.tup [iv (ndist (slotsM (isA (movedM ps o)) ps.length)), rv a])) D1 := noT_l (by rw [upd_ne nDc]; exact e3)
        have s5 : Same H3 (upd H3 c (.tup [iv (ndist (slotsM (isA (movedM ps o)) ps.length)), rv a])) := sPut hc
        refine ⟨sNew (sm.trans (s4.trans s5)) hD1, cs ++ [c], by rw [upd_same, List.map_append]; rfl, ?_⟩
        rw [List.take_add_one, List.getElem?_map, hoo]
        refine A2.imp (A2.snoc (e2.imp fun a m h => PairAt.same (s4.trans s5) h) ?_) fun a m h => PairAt.upd nt h
        exact ⟨a, upd_same, ((hto.same sm).same s4).same s5⟩
  · rintro H' ⟨sm, cs, e1, e2⟩
    rw [List.length_map, eN.1, ← List.length_map (f := fun o => (ndist (slotsM (isA (movedM ps o)) ps.length), o)), List.take_length] at e2
    exact k H' D1 cs (s1.trans sm) e1 e2
end
end K32
set_option Elab.async false
set_option linter.all false
set_option maxRecDepth 100000
set_option maxHeartbeats 4000000
namespace K32
open PySem PySem.Spec L2 C8
open PySem.W (dataLt)
section
variable {P : Program} {w : World} {K : PySem.W.Frag} {mg : Str → Option Value} {base : Heap}
def spBestOrder (K : PySem.W.Frag) : Sp := fun vs H Q _ => ∃ (b : Addr) (ps : Par), vs = [.ref b] ∧ BookAt K H b ps ∧ Valid ps ∧ ps.length ≤ 7 ∧
  ∀ H' c p, Same H H' → PairAt K H' c p → p ∈ countsM ps → (∀ q ∈ countsM ps, dataLt (PD q.1 q.2) (PD p.1 p.2) = false) → Q (.ref c) H'
theorem scBestOrder : FnScope ["book"] ["book"] (defScope sBestOrder) := ⟨rfl, rfl, rfl, by decide +kernel, rfl, by decide +kernel, by decide +kernel⟩
theorem calBestOrder (T : Txt K mg) (cc : Cal P w K mg base 9 "counts_of" (spCountsOf K) []) (D : DefX K mg "best_order" sBestOrder) : Cal P w K mg base 10 "best_order" (spBestOrder K) [] := by
  refine mkCal D scBestOrder (fun vs H Q E h => by obtain ⟨b, ps, rfl, _⟩ := h; rfl) (fun _ _ _ _ _ _ us hl => match us, hl with | [_], _ => rfl) (fun f cdv A outer s H vs Q E hr h => ?_)
  obtain ⟨b, ps, rfl, hB, hv, hlen, k⟩ := h
  refine ⟨_, pss_one (ps_ret (pe_callB (cr_minD rfl hr.units) (by rfl) T.min (by decide +kernel) (pa_cons (pe_c cc hr (by decide) (by rfl) (pa_cons (pv 0) pa_nil)) pa_nil))), ?_⟩
  refine ⟨_, rfl, b, ps, rfl, hB, hv, hlen, fun H1 C cs s1 hC hc => ?_⟩
  exact min_pairs hC hc (countsM_ne hv) fun c p h1 h2 h3 => k H1 c p s1 h1 h2 h3
def spWorstOrder (K : PySem.W.Frag) : Sp := fun vs H Q _ => ∃ (b : Addr) (ps : Par), vs = [.ref b] ∧ BookAt K H b ps ∧ Valid ps ∧ ps.length ≤ 7 ∧
  ∀ H' c p, Same H H' → PairAt K H' c p → p ∈ countsM ps → (∀ q ∈ countsM ps, q.1 ≤ p.1) → (∀ q ∈ countsM ps, q.1 = p.1 → dataLt (PD q.1 q.2) (PD p.1 p.2) = false) → Q (.ref c) H'
theorem scWorstOrder : FnScope ["book", "found", "most", "many", "order", "pair"] ["book"] (defScope sWorstOrder) := ⟨rfl, rfl, rfl, by decide +kernel, rfl, by decide +kernel, by decide +kernel⟩
theorem max_of {f : List Nat} {m : Int} (hm : m ∈ f.map fun n : Nat => (n : Int)) (hl : ∀ y, y ∈ (f.map fun n : Nat => (n : Int)) → y ≤ m) : ∃ s, s ∈ f ∧ (∀ y ∈ f, y ≤ s) ∧ m = (s : Int) := by
  obtain ⟨s, hs, rfl⟩ := List.mem_map.mp hm
  exact ⟨s, hs, fun y hy => Int.ofNat_le.mp (hl y (List.mem_map.mpr ⟨y, hy, rfl⟩)), rfl⟩
theorem calWorstOrder (T : Txt K mg) (cc : Cal P w K mg base 9 "counts_of" (spCountsOf K) []) (D : DefX K mg "worst_order" sWorstOrder) : Cal P w K mg base 10 "worst_order" (spWorstOrder K) [] := by
  refine mkCal D scWorstOrder (fun vs H Q E h => by obtain ⟨b, ps, rfl, _⟩ := h; rfl) (fun _ _ _ _ _ _ us hl => match us, hl with | [_], _ => rfl) (fun f cdv A outer s H vs Q E hr h => ?_)
  obtain ⟨b, ps, rfl, hB, hv, hlen, k⟩ := h
  refine ⟨_, pss_cons (ps_set (i := 1) scWorstOrder.nd rfl (Or.inl rfl) (pe_c cc hr (by decide) (by rfl) (pa_cons (pv 0) pa_nil)))
    (pss_cons (ps_set (i := 2) scWorstOrder.nd rfl (Or.inr rfl) (pe_callB (cr_max rfl) (by rfl) T.max (by decide +kernel) (pa_cons
      (pe_lc (own := [("many", 3), ("order", 4)]) (g := gTup K 2 (gCons (gName 3) (gCons (gName 4) gNil))) (tt := tYes) rfl scWorstOrder.nd (pi_list (pv 1)) (blkOk_by (own := [("many", 3), ("order", 4)]) (N := ["book", "found", "most", "many", "order", "pair"]) (sc := defScope sWorstOrder) (by decide +kernel))
        (fun _ _ _ _ _ => pg_tup rfl (pgs_cons (pg_name (i := 3) scWorstOrder.nd rfl (.inl rfl)) (pgs_cons (pg_name (i := 4) scWorstOrder.nd rfl (.inl rfl)) pgs_nil))) (fun _ _ _ _ _ => pts_nil) (fun _ _ _ _ _ => pv 3)) pa_nil)))
    (pss_one (ps_ret (pe_callB (cr_minD rfl hr.units) (by rfl) T.min (by decide +kernel) (pa_cons
      (pe_lc (own := [("pair", 5)]) (g := gName 5) rfl scWorstOrder.nd (pi_list (pv 1)) (blkOk_by (own := [("pair", 5)]) (N := ["book", "found", "most", "many", "order", "pair"]) (sc := defScope sWorstOrder) (by decide +kernel))
        (fun _ _ _ _ _ => pg_name (i := 5) scWorstOrder.nd rfl (Or.inl rfl)) (fun _ _ _ _ _ => by exact pts_one (pt_cmpR op_eq (pe_ix (ixTK K) (pv 5) pe_int (fun _ _ => rfl)) (pv 2) (nomark _))) (fun _ _ _ _ _ => pv 5)) pa_nil))))), ?_⟩
  refine ⟨_, rfl, b, ps, rfl, hB, hv, hlen, fun H1 C cs s1 hC hc => ?_⟩
  have hne := countsM_ne hv
  have hcl : (countsM ps).length ≤ 823543 := by
    unfold countsM
    rw [List.length_map]
    exact Nat.le_trans (ordM_len (isA ps) ps.length ps.length) (pow7 hlen hlen)
  generalize countsM ps = ms at hc hne hcl k
  refine ⟨_, rfl, C, rfl, ⟨_, SqL.of hC⟩, fun D1 hD1 => ?_⟩
  have pairU : ∀ {H' : Hp} {l : Addr} {o : HO}, NoT H' l → A2 (PairAt K H') cs ms → A2 (PairAt K (upd H' l o)) cs ms := fun {H' l o} n h => h.imp fun _ _ => PairAt.upd n
  refine lc_list (xs := cs.map rv) (fun i H' => Same H1 H' ∧ H' D1 = some (.lst ((((ms.take i).map (·.1)).map fun n : Nat => (n : Int)).map V.int))) ⟨sPut hD1, upd_same⟩ (fun i H' _ h => h.1.seq (SqL.of hC)) ?_ ?_
  · rintro i y H' hi ⟨sm, e1⟩
    rw [List.getElem?_map] at hi
    cases hz : cs[i]? with
    | none => rw [hz] at hi; cases hi
    | some c =>
      rw [hz] at hi
      cases hi
      have hil : i < ms.length := by rw [← hc.1]; exact (List.getElem?_eq_some_iff.mp hz).1
      have hpp := List.getElem?_eq_getElem hil
      generalize ms[i] = p at hpp
      obtain ⟨a, h1, h2⟩ := hc.2 i c p hz hpp
      refine ⟨c, _, rfl, .inl (.inl (sm _ _ h1)), rfl, _, _, rfl, _, _, rfl, rfl, rfl, yes ⟨_, rfl, _, e1, ?_, sNew sm hD1, ?_⟩⟩
      · rw [List.length_map, List.length_map, List.length_map, List.length_take]
        exact size900k (by omega)
      · rw [upd_same, List.take_add_one, hpp, List.map_append, List.map_append, List.map_append]
        rfl
  · rintro H2 ⟨s2, e1⟩
    rw [List.length_map, hc.1, List.take_length] at e1
    refine ⟨D1, _, rfl, SqL.of e1, by rw [List.length_map, List.length_map]; exact List.length_pos_iff.mpr hne, fun m hm hle => ?_⟩
    obtain ⟨sx, hs1, hs2, rfl⟩ := max_of hm hle
    obtain ⟨p0, hp0, rfl⟩ := List.mem_map.mp hs1
    have s12 := s1.trans s2
    have hc2 : A2 (PairAt K H2) cs ms := hc.imp fun _ _ => PairAt.same s2
    refine ⟨_, rfl, C, rfl, ⟨_, SqL.of (s2 _ _ hC)⟩, fun D2 hD2 => ?_⟩
    refine lc_list (xs := cs.map rv) (fun i H' => Same H2 H' ∧ ∃ ds : List Addr, H' D2 = some (.lst (ds.map rv)) ∧ A2 (PairAt K H') ds ((ms.take i).filter fun q => decide (q.1 = p0.1))) ⟨sPut hD2, [], upd_same, A2.nil⟩ (fun i H' _ h => h.1.seq (SqL.of (s2 _ _ hC))) ?_ ?_
    · rintro i y H' hi ⟨sm, ds, e2, e3⟩
      rw [List.getElem?_map] at hi
      cases hz : cs[i]? with
      | none => rw [hz] at hi; cases hi
      | some c =>
        rw [hz] at hi
        cases hi
        have hil : i < ms.length := by rw [← hc.1]; exact (List.getElem?_eq_some_iff.mp hz).1
        have hpp := List.getElem?_eq_getElem hil
        generalize ms[i] = p at hpp
        have hpc : PairAt K H' c p := PairAt.same sm (hc2.2 i c p hz hpp)
        obtain ⟨a, h1, h2⟩ := id hpc
        refine ⟨rfl, _, rfl, c, _, _, iv p.1, rfl, rfl, .inl (.inl h1), rfl, _, rfl, rfl, _, rfl, ?_⟩
        rw [List.take_add_one, hpp, List.filter_append]
        refine ite2 (fun hu => ?_) (fun hu => ?_)
        · have hq : p.1 = p0.1 := Int.ofNat_inj.mp (V.int.inj (of_decide_eq_true hu))
          have e : (some p).toList.filter (fun q => decide (q.1 = p0.1)) = [p] := by simp [hq]
          rw [e]
          refine ⟨_, rfl, _, e2, ?_, sNew sm hD2, ds ++ [c], by rw [upd_same, List.map_append]; rfl, ?_⟩
          · rw [List.length_map, e3.1]
            exact size900k (Nat.le_trans (List.length_filter_le _ _) (by rw [List.length_take]; omega))
          · exact (e3.snoc hpc).imp fun _ _ => PairAt.upd (noT_l e2)
        · have hq : ¬ p.1 = p0.1 := fun h => by
            rw [h] at hu
            rw [decide_eq_true rfl] at hu
            exact hu rfl
          have e : (some p).toList.filter (fun q => decide (q.1 = p0.1)) = [] := by simp [hq]
          rw [e, List.append_nil]
          exact ⟨sm, ds, e2, e3⟩
    · rintro H3 ⟨sm, ds, e2, e3⟩
      rw [List.length_map, hc.1, List.take_length] at e3
      have hne2 : (ms.filter fun q => decide (q.1 = p0.1)) ≠ [] := fun e => by
        have : p0 ∈ (ms.filter fun q => decide (q.1 = p0.1)) := List.mem_filter.mpr ⟨hp0, by simp⟩
        rw [e] at this
        cases this
      refine min_pairs e2 e3 hne2 fun c p h1 h2 h3 => ?_
      obtain ⟨h4, h5⟩ := List.mem_filter.mp h2
      have h6 : p.1 = p0.1 := of_decide_eq_true h5
      refine k H3 c p (s12.trans sm) h1 h4 (fun q hq => ?_) fun q hq e => h3 q (List.mem_filter.mpr ⟨hq, by rw [e, h6]; simp⟩)
      rw [h6]
      exact hs2 _ (List.mem_map.mpr ⟨q, hq, rfl⟩)
end
end K32
set_option Elab.async false
set_option linter.all false
set_option maxRecDepth 100000
set_option maxHeartbeats 4000000
namespace K32
open PySem PySem.Spec L2 C8
theorem cut_len (xs : List V) (k : Nat) : (cutV xs none (some (k : Int))).length ≤ xs.length := cutV_length _ _ _
theorem cutI {ns : List Int} (lo hi : Option Int) : ∃ ms : List Int, cutV (ns.map V.int) lo hi = ms.map V.int ∧ ms.length ≤ ns.length := by
  refine ⟨(ns.drop (HT.sIx (ns.map V.int).length 0 lo)).take (HT.sIx (ns.map V.int).length (ns.map V.int).length hi - HT.sIx (ns.map V.int).length 0 lo), ?_, ?_⟩
  · unfold cutV
    rw [← List.map_drop, ← List.map_take]
  · rw [List.length_take, List.length_drop]
    omega
theorem Fr1.self {S : List Addr} {H H' : Hp} (h : Same H H') : Fr1 S H H' := fun b o e _ => h b o e
section
variable {P : Program} {w : World} {K : PySem.W.Frag} {mg : Str → Option Value} {base : Heap}
theorem ixnn0 (x : Int) (r : List Int) : ixN ((x :: r).map V.int).length 0 = some 0 := ixnn (j := 0) (by simp)
/-- a pool of draws -/
def PoolAt (H : Hp) (p q : Addr) : Prop := ∃ (s c : Int) (cs : List Int), H p = some (.lst [.int s, .int c, .ref q]) ∧ H q = some (.lst (cs.map V.int))
theorem PoolAt.same {H H' : Hp} {p q : Addr} (h : PoolAt H p q) (e : Same H H') : PoolAt H' p q := let ⟨s, c, cs, a, b⟩ := h; ⟨s, c, cs, e _ _ a, e _ _ b⟩
theorem PoolAt.out {H : Hp} {p q l : Addr} {o : HO} (h : PoolAt H p q) (np : p ≠ l) (nq : q ≠ l) : PoolAt (upd H l o) p q := let ⟨s, c, cs, a, b⟩ := h; ⟨s, c, cs, by rw [upd_ne np]; exact a, by rw [upd_ne nq]; exact b⟩
theorem PoolAt.ne {H : Hp} {p q : Addr} (h : PoolAt H p q) : p ≠ q := fun e => by
  obtain ⟨s, c, cs, a, b⟩ := h
  rw [e, b] at a
  have := congrArg (fun o => match o with | some (HO.lst xs) => xs[2]? | _ => none) a
  simp at this
def spLPool (K : PySem.W.Frag) : Sp := fun vs H Q _ => ∃ (l : Addr) (ns : List Int), vs = [.ref l] ∧ SqL K H l (ns.map V.int) ∧ ns.length ≤ 1000 ∧ ∀ H' p q, Same H H' → PoolAt H' p q → H p = none → H q = none → Q (.ref p) H'
theorem scLPool : FnScope ["_law_script", "_law_seed", "_law_cell"] ["_law_script"] (defScope sLPool) := ⟨rfl, rfl, rfl, by decide +kernel, rfl, by decide +kernel, by decide +kernel⟩
theorem calLPool (T : Txt K mg) (D : DefX K mg "_law_pool" sLPool) : Cal P w K mg base 1 "_law_pool" (spLPool K) [] := by
  refine mkCal D scLPool (fun vs H Q E h => by obtain ⟨b, ps, rfl, _⟩ := h; rfl) (fun _ _ _ _ _ _ us hl => match us, hl with | [_], _ => rfl) (fun f cdv A outer s H vs Q E hr h => ?_)
  obtain ⟨l, ns, rfl, hl, hlen, k⟩ := h
  refine ⟨_, pss_cons (ps_set (i := 1) scLPool.nd rfl (Or.inl rfl) (pe_op op_add (pe_op op_add (pe_op op_mod (pe_callTy call_int1 (by rfl) T.int (by decide +kernel) (pa_cons (pe_callB (cr_sum rfl) (by rfl) T.sum (by decide +kernel) (pa_cons (pe_slice sl_list (pv 0) po_none (po_some pe_int)) pa_nil)) pa_nil)) pe_int)
        (pe_callB call_len_seq (by rfl) T.len PySem.boot_len (pa_cons (pv 0) pa_nil))) pe_int))
    (pss_cons (ps_for PassesOwn.never rfl (pi_list (pe_slice sl_list (pv 0) po_none (po_some pe_int))) (pg_name (i := 2) scLPool.nd rfl (.inl rfl))
      (pss_one (ps_set (i := 1) scLPool.nd rfl (Or.inl rfl) (pe_op op_mod (pe_callTy call_int1 (by rfl) T.int (by decide +kernel) (pa_cons (pe_op op_add (pe_op op_add (pe_op op_mul (pv 1) pe_int)
        (pe_op op_mod (pe_callTy call_int1 (by rfl) T.int (by decide +kernel) (pa_cons (pv 2) pa_nil)) pe_int)) pe_int) pa_nil)) pe_int))))
    (pss_one (ps_ret (pe_lst (pa_cons (pv 1) (pa_cons pe_int (pa_cons
      (pe_lc (own := [("_law_cell", 2)]) (g := gName 2) rfl scLPool.nd (pi_list (pe_slice sl_list (pv 0) po_none (po_some pe_int))) (blkOk_by (own := [("_law_cell", 2)]) (N := ["_law_script", "_law_seed", "_law_cell"]) (sc := defScope sLPool) (by decide +kernel))
        (fun _ _ _ _ _ => pg_name (i := 2) scLPool.nd rfl (Or.inl rfl)) (fun _ _ _ _ _ => by exact pts_one (pt_cmpR op_ge (pe_callB call_abs (by rfl) T.abs (by decide +kernel) (pa_cons (pv 2) pa_nil)) (pe_op op_pow pe_int pe_int) (nomark _)))
        (fun _ _ _ _ _ => pe_callB call_abs (by rfl) T.abs (by decide +kernel) (pa_cons (pv 2) pa_nil))) pa_nil))))))), ?_⟩
  obtain ⟨ms1, em1, hm1⟩ := cutI (ns := ns) none (some 1)
  obtain ⟨ms2, em2, hm2⟩ := cutI (ns := ns) none (some 63)
  have sq : ∀ {H' : Hp}, Same H H' → SqL K H' l (ns.map V.int) := fun {H'} e => e.seq hl
  refine ⟨_, rfl, _, rfl, l, _, rfl, hl, fun p1 hp1 => ⟨p1, ms1, rfl, SqL.of (by rw [upd_same]; exact congrArg (fun z => some (HO.lst z)) em1), ?_⟩⟩
  have s1 : Same H (upd H p1 (.lst (cutV (ns.map V.int) none (some 1)))) := sPut hp1
  refine .inl ⟨_, rfl, _, _, rfl, rfl, by show (0 : Int) < 1000003; decide, ?_⟩
  refine ⟨_, rfl, l, _, rfl, .inl (sq s1), _, _, rfl, rfl, _, _, rfl, rfl, ?_⟩
  refine ⟨_, rfl, _, rfl, l, _, rfl, sq s1, fun p2 hp2 => ⟨p2, rfl, ⟨_, SqL.of upd_same⟩, ?_⟩⟩
  have s2 := sNew (o := .lst (cutV (ns.map V.int) none (some 63))) s1 (s1.free hp2)
  refine for_list (xs := cutV (ns.map V.int) none (some 63)) (fun i σ H' => Same H H' ∧ H' p2 = some (.lst (cutV (ns.map V.int) none (some 63))) ∧ ∃ (s : Int) (v2 : Option V), σ = [some (.ref l), some (.int s), v2]) ⟨s2, upd_same, _, _, rfl⟩ (fun i σ H' _ h => SqL.of h.2.1) ?_ ?_
  · rintro i y σ H' hi ⟨sm, e1, s, v2, rfl⟩
    rw [em2, List.getElem?_map] at hi
    cases hz : ms2[i]? with
    | none => rw [hz] at hi; cases hi
    | some z =>
      rw [hz] at hi
      cases hi
      refine ⟨_, rfl, _, _, rfl, rfl, .inr ⟨by decide, by decide⟩, _, rfl, .inl ⟨_, rfl, _, _, rfl, rfl, by show (0 : Int) < 2147483629; decide, _, _, rfl, rfl, _, _, rfl, rfl, .inl ⟨_, rfl, _, _, rfl, rfl, by show (0 : Int) < 2147483647; decide, sm, e1, _, _, rfl⟩⟩⟩
  · rintro σ H3 ⟨sm, e1, s, v2, rfl⟩
    refine ⟨_, rfl, _, rfl, _, rfl, l, _, rfl, sq sm, fun p3 hp3 => ⟨p3, rfl, ⟨_, SqL.of upd_same⟩, fun D1 hD1 => ?_⟩⟩
    have s3 := sNew (o := .lst (cutV (ns.map V.int) none (some 63))) sm (sm.free hp3)
    have nDp : p3 ≠ D1 := ne_of_none upd_same hD1
    have hD0 : H D1 = none := s3.free hD1
    refine lc_list (xs := cutV (ns.map V.int) none (some 63)) (fun i H' => Same H H' ∧ H' p3 = some (.lst (cutV (ns.map V.int) none (some 63))) ∧ ∃ cs : List Int, H' D1 = some (.lst (cs.map V.int)) ∧ cs.length ≤ i) ⟨sNew s3 hD0, by rw [upd_ne nDp]; exact upd_same, [], upd_same, Nat.le_refl _⟩ (fun i H' _ h => SqL.of h.2.1) ?_ ?_
    · rintro i y H' hi ⟨sm2, e2, cs, e3, e4⟩
      rw [em2, List.getElem?_map] at hi
      cases hz : ms2[i]? with
      | none => rw [hz] at hi; cases hi
      | some z =>
        rw [hz] at hi
        cases hi
        have hil : i < ms2.length := (List.getElem?_eq_some_iff.mp hz).1
        refine ⟨rfl, _, rfl, _, rfl, _, _, rfl, rfl, ⟨by decide, by decide, by decide⟩, _, _, rfl, rfl, _, rfl, ite2 (fun hu => ?_) (fun hu => ?_)⟩
        · refine ⟨_, rfl, _, rfl, _, e3, ?_, sNew sm2 hD0, by rw [upd_ne nDp]; exact e2, cs ++ [_], by rw [upd_same, List.map_append]; rfl, ?_⟩
          · rw [List.length_map]
            exact size1000 (by omega)
          · rw [List.length_append, List.length_singleton]
            omega
        · exact ⟨sm2, e2, cs, e3, by omega⟩
    · rintro H4 ⟨sm2, e2, cs, e3, e4⟩
      refine ⟨by show 3 ≤ sizeLine; decide, fun p hp => ?_⟩
      have nDq : D1 ≠ p := ne_of_none e3 hp
      exact k _ p D1 (sNew sm2 (sm2.free hp)) ⟨_, _, _, upd_same, by rw [upd_ne nDq]; exact e3⟩ (sm2.free hp) hD0
def spLDraw : Sp := fun vs H Q _ => ∃ (p q : Addr) (many : Nat), vs = [.ref p, iv many] ∧ PoolAt H p q ∧ 0 < many ∧ many ≤ 1000 ∧ ∀ H' (d : Nat), Fr1 [p, q] H H' → PoolAt H' p q → d < many → Q (iv d) H'
theorem scLDraw : FnScope ["_law_pool_here", "_law_many", "_law_cells", "_law_digit", "_law_mixed_here"] ["_law_pool_here", "_law_many"] (defScope sLDraw) := ⟨rfl, rfl, rfl, by decide +kernel, rfl, by decide +kernel, by decide +kernel⟩
theorem modNat {i : Int} {n : Nat} (h : 0 < n) : ∃ d : Nat, d < n ∧ i % (n : Int) = (d : Int) := by
  refine ⟨(i % (n : Int)).toNat, ?_, ?_⟩
  · have := Int.emod_lt_of_pos i (show (0 : Int) < n by omega)
    have h2 := Int.emod_nonneg i (show (n : Int) ≠ 0 by omega)
    omega
  · have h2 := Int.emod_nonneg i (show (n : Int) ≠ 0 by omega)
    omega
theorem calLDraw (T : Txt K mg) (D : DefX K mg "_law_draw" sLDraw) : Cal P w K mg base 1 "_law_draw" spLDraw [] := by
  refine mkCal D scLDraw (fun vs H Q E h => by obtain ⟨p, q, m, rfl, _⟩ := h; rfl) (fun _ _ _ _ _ _ us hl => match us, hl with | [_, _], _ => rfl) (fun f cdv A outer s H vs Q E hr h => ?_)
  obtain ⟨p, q, m, rfl, hP, h0, hm, k⟩ := h
  refine ⟨_, pss_cons (ps_asg (pe_op op_add (pe_ix ix_list (pv 0) pe_int (fun _ _ => rfl)) pe_int) (pg_sub (pv 0) pe_int set_list))
    (pss_cons (ps_set (i := 2) scLDraw.nd rfl (Or.inl rfl) (pe_ix ix_list (pv 0) pe_int (fun _ _ => rfl)))
    (pss_cons (ps_if (pt_cmpR op_gt (pe_callB call_len_seq (by rfl) T.len PySem.boot_len (pa_cons (pv 2) pa_nil)) pe_int (nomark _))
        (pss_cons (ps_set (i := 3) scLDraw.nd rfl (Or.inl rfl) (pe_op op_mod (pe_callTy call_int1 (by rfl) T.int (by decide +kernel) (pa_cons (pe_ix ix_list (pv 2) pe_int (fun _ _ => rfl)) pa_nil)) (pv 1)))
        (pss_cons (ps_asg (pe_op op_fdiv (pe_callTy call_int1 (by rfl) T.int (by decide +kernel) (pa_cons (pe_ix ix_list (pv 2) pe_int (fun _ _ => rfl)) pa_nil)) (pv 1)) (pg_sub (pv 2) pe_int set_list))
        (pss_cons (ps_if (pt_cmpR op_eq (pe_ix ix_list (pv 2) pe_int (fun _ _ => rfl)) pe_int (nomark _)) (pss_one (ps_expr (pe_bm PySem.F.plainAttrs_list PySem.F.slot_list_pop PySem.F.type_list_pop mt_popAt (pv 2) (pa_cons pe_int pa_nil)))) pss_nil)
        (pss_one (ps_ret (pv 3)))))) pss_nil)
    (pss_cons (ps_set (i := 4) scLDraw.nd rfl (Or.inl rfl) (pe_op op_mod (pe_callTy call_int1 (by rfl) T.int (by decide +kernel) (pa_cons (pe_op op_mul (pe_op op_add (pe_ix ix_list (pv 0) pe_int (fun _ _ => rfl)) (pe_op op_mul pe_int (pe_ix ix_list (pv 0) pe_int (fun _ _ => rfl)))) pe_int) pa_nil)) pe_int))
    (pss_cons (ps_set (i := 4) scLDraw.nd rfl (Or.inl rfl) (pe_op op_mod (pe_callTy call_int1 (by rfl) T.int (by decide +kernel) (pa_cons (pe_op op_mul (pv 4) (pe_op op_add (pe_op op_fdiv (pv 4) pe_int) pe_int)) pa_nil)) pe_int))
    (pss_cons (ps_set (i := 4) scLDraw.nd rfl (Or.inl rfl) (pe_op op_mod (pe_callTy call_int1 (by rfl) T.int (by decide +kernel) (pa_cons (pe_op op_mul (pv 4) (pe_op op_add (pe_op op_fdiv (pv 4) pe_int) pe_int)) pa_nil)) pe_int))
    (pss_one (ps_ret (pe_op op_mod (pe_callTy call_int1 (by rfl) T.int (by decide +kernel) (pa_cons (pe_op op_fdiv (pv 4) pe_int) pa_nil)) (pv 1))))))))), ?_⟩
  have npq := hP.ne
  obtain ⟨s, c, cs, e1, e2⟩ := hP
  refine ⟨_, rfl, p, _, 1, .int c, rfl, rfl, SqL.of e1, rfl, _, _, rfl, rfl, _, rfl, p, _, 1, 1, rfl, rfl, e1, rfl, ?_⟩
  have f1 : Fr1 [p, q] H (upd H p (.lst [.int s, .int (c + 1), .ref q])) := (Fr1.refl _ _).put (by simp)
  have e2' : (upd H p (.lst [.int s, .int (c + 1), .ref q])) q = some (.lst (cs.map V.int)) := by rw [upd_ne (Ne.symm npq)]; exact e2
  refine ⟨_, rfl, p, _, 2, .ref q, rfl, rfl, SqL.of upd_same, rfl, ?_⟩
  refine ⟨_, rfl, q, _, rfl, .inl (SqL.of e2'), _, _, rfl, rfl, _, rfl, ite2 (fun hc => ?_) (fun hc => ?_)⟩
  · cases cs with
    | nil => cases hc
    | cons x r =>
      refine ⟨_, rfl, q, _, 0, .int x, rfl, rfl, SqL.of e2', atI_nat (j := 0) rfl, .inl ⟨_, rfl, _, rfl, _, _, rfl, rfl, by show (0 : Int) < (m : Int); omega, ?_⟩⟩
      obtain ⟨d, hd, ed⟩ := modNat (i := x) h0
      have ev : V.int (x % (m : Int)) = iv d := by rw [ed]
      refine ⟨_, rfl, q, _, 0, .int x, rfl, rfl, SqL.of e2', atI_nat (j := 0) rfl, .inl ⟨_, rfl, _, rfl, _, _, rfl, rfl, ⟨by omega, by omega⟩, _, rfl, q, _, 0, 0, rfl, rfl, e2', ixnn0 _ _, ?_⟩⟩
      have e3 : ((V.int x :: r.map V.int).set 0 (V.int (x / (m : Int)))) = (((x / (m : Int)) :: r).map V.int) := rfl
      have f2 := f1.put (o := .lst (((x / (m : Int)) :: r).map V.int)) (p := q) (by simp)
      have ep2 : (upd (upd H p (.lst [.int s, .int (c + 1), .ref q])) q (.lst (((x / (m : Int)) :: r).map V.int))) p = some (.lst [.int s, .int (c + 1), .ref q]) := by rw [upd_ne npq, upd_same]
      refine ⟨_, rfl, q, ((x / (m : Int)) :: r).map V.int, 0, .int (x / (m : Int)), rfl, rfl, SqL.of upd_same, atI_nat (j := 0) rfl, rfl, _, rfl, ite2 (fun hz => ?_) (fun hz => ?_)⟩
      · refine ⟨_, rfl, .inl ⟨rfl, _, SqL.of upd_same⟩, q, _, 0, 0, _, rfl, rfl, upd_same, by decide, by decide, ?_, rfl, ?_⟩
        · show seqIndex? 0 ((r.map V.int).length + 1) = some 0
          unfold seqIndex?
          simp
        · have z := k _ d (f2.put (by simp)) ⟨_, _, r, by rw [upd_ne npq]; exact ep2, upd_same⟩ hd
          rw [← ev] at z
          exact ⟨_, rfl, z⟩
      · have z := k _ d f2 ⟨_, _, _, ep2, upd_same⟩ hd
        rw [← ev] at z
        exact ⟨_, rfl, z⟩
  · have b1 : ∀ i : Int, -(2 ^ 64) < i % 2147483647 ∧ i % 2147483647 < 2 ^ 64 := fun i => ⟨Int.lt_of_lt_of_le (by decide) (Int.emod_nonneg i (by decide)), Int.lt_trans (Int.emod_lt_of_pos i (by decide)) (by decide)⟩
    have pos1 : (0 : Int) < 2147483647 := by decide
    have pos2 : (0 : Int) < 2147483399 := by decide
    have cd1 : ∀ i : Int, CDiv i 1009 := fun i => ⟨by decide, by decide⟩
    have cd2 : ∀ i : Int, CDiv i 2003 := fun i => ⟨by decide, by decide⟩
    have cd3 : ∀ i : Int, CDiv i 16 := fun i => ⟨by decide, by decide⟩
    have fin : ∀ i : Int, Q (V.int (i % (m : Int))) (upd H p (.lst [.int s, .int (c + 1), .ref q])) := fun i => by
      obtain ⟨d, hd, ed⟩ := modNat (i := i) h0
      rw [ed]
      exact k _ d f1 ⟨_, _, _, upd_same, e2'⟩ hd
    refine ⟨_, rfl, p, _, 0, .int s, rfl, rfl, SqL.of upd_same, rfl, _, rfl, p, _, 1, .int (c + 1), rfl, rfl, SqL.of upd_same, rfl, _, _, rfl, rfl, .inl ⟨by decide, by decide⟩, _, _, rfl, rfl, _, _, rfl, rfl, .inr ⟨by decide, by decide⟩, .inl ⟨_, rfl, _, _, rfl, rfl, pos1, ?_⟩⟩
    refine ⟨_, rfl, _, rfl, _, _, rfl, rfl, cd1 _, _, _, rfl, rfl, _, _, rfl, rfl, .inl (b1 _), .inl ⟨_, rfl, _, _, rfl, rfl, pos1, ?_⟩⟩
    refine ⟨_, rfl, _, rfl, _, _, rfl, rfl, cd2 _, _, _, rfl, rfl, _, _, rfl, rfl, .inl (b1 _), .inl ⟨_, rfl, _, _, rfl, rfl, pos2, ?_⟩⟩
    exact ⟨_, rfl, _, _, rfl, rfl, cd3 _, .inl ⟨_, rfl, _, rfl, _, _, rfl, rfl, by show (0 : Int) < (m : Int); omega, fin _⟩⟩
end
end K32
set_option Elab.async false
set_option linter.all false
set_option maxRecDepth 100000
set_option maxHeartbeats 4000000
namespace K32
open PySem PySem.Spec L2 C8
theorem seqI_nat {d n : Nat} (h : d < n) : seqIndex? (d : Int) n = some d := by
  unfold seqIndex?
  rw [if_neg (by omega : ¬ ((d : Int) < 0))]
  have : (decide ((0 : Int) ≤ (d : Int)) && decide ((d : Int) < (n : Int))) = true := by simp; omega
  simp only [this, if_true, Int.toNat_natCast]
theorem map_eraseIdx' {α β : Type} (f : α → β) : ∀ (l : List α) (i : Nat), (l.map f).eraseIdx i = (l.eraseIdx i).map f
  | [], _ => by simp
  | x :: r, 0 => rfl
  | x :: r, i + 1 => by
    show f x :: (r.map f).eraseIdx i = f x :: (r.eraseIdx i).map f
    rw [map_eraseIdx' f r i]
theorem erase_perm {α : Type} : ∀ {l : List α} {i : Nat} {a : α}, l[i]? = some a → (a :: l.eraseIdx i).Perm l
  | [], i, a, h => by simp at h
  | x :: r, 0, a, h => by cases h; exact List.Perm.refl _
  | x :: r, i + 1, a, h => (List.Perm.swap x a _).trans ((erase_perm (l := r) (i := i) h).cons x)
theorem PoolAt.ned {H : Hp} {p q : Addr} (h : PoolAt H p q) {l : Addr} (n : H l = none) : l ∉ [p, q] := fun m => by
  obtain ⟨s, c, cs, a, b⟩ := h
  rcases List.mem_cons.mp m with e | m
  · rw [e, a] at n; cases n
  · rw [List.mem_singleton.mp m, b] at n; cases n
theorem PoolAt.noT {H : Hp} {p q : Addr} (h : PoolAt H p q) : ∀ b ∈ [p, q], NoT H b := fun b m => by
  obtain ⟨s, c, cs, x, y⟩ := h
  rcases List.mem_cons.mp m with e | m
  · rw [e]; exact noT_l x
  · rw [List.mem_singleton.mp m]; exact noT_l y
theorem PoolAt.new {H : Hp} {p q l : Addr} {o : HO} (h : PoolAt H p q) (n : l ∉ [p, q]) : PoolAt (upd H l o) p q :=
  h.out (fun e => n (by simp [e])) (fun e => n (by simp [e]))
theorem Fr1.at {S : List Addr} {H H' : Hp} (e : Fr1 S H H') {l : Addr} {o : HO} (h : H l = some o) (n : l ∉ S) : H' l = some o := e l o h n
theorem Fr1.add {S : List Addr} {H H' : Hp} {l : Addr} {o : HO} (e : Fr1 S H H') (h : H l = none) : Fr1 S H (upd H' l o) := e.new h
section
variable {P : Program} {w : World} {K : PySem.W.Frag} {mg : Str → Option Value} {base : Heap}
def spLMixed (K : PySem.W.Frag) : Sp := fun vs H Q _ => ∃ (p q a : Addr) (l : List Nat), vs = [.ref p, .ref a] ∧ PoolAt H p q ∧ SqL K H a (l.map iv) ∧ l.length ≤ 1000 ∧ ∀ H' M (ms : List Nat), Fr1 [p, q] H H' → PoolAt H' p q → H M = none → H' M = some (.lst (ms.map iv)) → ms.Perm l → Q (.ref M) H'
theorem scLMixed : FnScope ["_law_pool_here", "_law_things", "_law_left", "_law_made", "_law_k"] ["_law_pool_here", "_law_things"] (defScope sLMixed) := ⟨rfl, rfl, rfl, by decide +kernel, rfl, by decide +kernel, by decide +kernel⟩
theorem calLMixed (T : Txt K mg) (cd : Cal P w K mg base 1 "_law_draw" spLDraw []) (D : DefX K mg "_law_mixed" sLMixed) : Cal P w K mg base 2 "_law_mixed" (spLMixed K) [] := by
  refine mkCal D scLMixed (fun vs H Q E h => by obtain ⟨p, q, a, l, rfl, _⟩ := h; rfl) (fun _ _ _ _ _ _ us hl => match us, hl with | [_, _], _ => rfl) (fun f cdv A outer s H vs Q E hr h => ?_)
  obtain ⟨p, q, a, l, rfl, hP, ha, hlen, k⟩ := h
  refine ⟨_, pss_cons (ps_set (i := 2) scLMixed.nd rfl (Or.inl rfl) (pe_callTy call_list_of (by rfl) T.list (by decide +kernel) (pa_cons (pv 1) pa_nil)))
    (pss_cons (ps_set (i := 3) scLMixed.nd rfl (Or.inl rfl) (pe_lst pa_nil))
    (pss_cons (ps_for PassesOwn.never rfl (pi_range1 (by rfl) T.range (pa_cons (pe_callB call_len_seq (by rfl) T.len PySem.boot_len (pa_cons (pv 1) pa_nil)) pa_nil)) (pg_name (i := 4) scLMixed.nd rfl (.inl rfl))
      (pss_one (ps_expr (pe_bm PySem.F.plainAttrs_list PySem.F.slot_list_append PySem.F.type_list_append mt_append (pv 3) (pa_cons
        (pe_bm PySem.F.plainAttrs_list PySem.F.slot_list_pop PySem.F.type_list_pop mt_popAt (pv 2) (pa_cons (pe_c cd hr (by decide) (by rfl) (pa_cons (pv 0) (pa_cons (pe_callB call_len_seq (by rfl) T.len PySem.boot_len (pa_cons (pv 2) pa_nil)) pa_nil))) pa_nil)) pa_nil)))))
    (pss_one (ps_ret (pv 3))))), ?_⟩
  refine ⟨_, rfl, a, _, rfl, .inl ha, fun L hL => ?_⟩
  have nL := hP.ned hL
  refine ⟨Nat.zero_le _, fun M hM => ?_⟩
  have nLM : L ≠ M := ne_of_none upd_same hM
  have hM0 : H M = none := by rw [upd_ne (Ne.symm nLM)] at hM; exact hM
  have nM := hP.ned hM0
  have s1 : Same H (upd (upd H L (.lst (l.map iv))) M (.lst [])) := sNew (sPut hL) hM0
  have hlL : (l.map iv).length = l.length := List.length_map ..
  refine ⟨_, rfl, a, _, rfl, .inl (s1.seq ha), _, rfl, by omega, by omega, ?_⟩
  rw [hlL]
  refine for_rng (n := l.length) (fun i σ H' => Fr1 [p, q] H H' ∧ PoolAt H' p q ∧ ∃ (left made : List Nat) (v4 : Option V), σ = [some (.ref p), some (.ref a), some (.ref L), some (.ref M), v4] ∧ H' L = some (.lst (left.map iv)) ∧ H' M = some (.lst (made.map iv)) ∧ (made ++ left).Perm l ∧ left.length + i = l.length ∧ made.length = i) ?_ ?_ ?_
  · exact ⟨Fr1.self s1, (hP.new nL).new nM, l, [], none, rfl, by rw [upd_ne nLM, upd_same], upd_same, List.Perm.refl _, rfl, rfl⟩
  · rintro i σ H' hi ⟨fr, hp, left, made, v4, rfl, eL, eM, hpm, hll, hml⟩
    refine ⟨_, rfl, .inl ⟨rfl, _, SqL.of eM⟩, _, rfl, .inl ⟨rfl, _, SqL.of eL⟩, _, rfl, _, rfl, L, _, rfl, .inl (SqL.of eL), p, q, left.length, by rw [List.length_map]; rfl, hp, by omega, by omega, fun H2 d fr2 hp2 hd => ?_⟩
    have eL2 := fr2 _ _ eL nL
    have eM2 := fr2 _ _ eM nM
    have hdd := List.getElem?_eq_getElem hd
    generalize left[d] = z at hdd
    refine ⟨L, _, _, d, iv z, rfl, rfl, eL2, by omega, by omega, seqI_nat (by rw [List.length_map]; exact hd), by rw [List.getElem?_map, hdd]; rfl, ?_⟩
    rw [map_eraseIdx']
    have eM3 : (upd H2 L (.lst ((left.eraseIdx d).map iv))) M = some (.lst (made.map iv)) := by rw [upd_ne (Ne.symm nLM)]; exact eM2
    refine ⟨M, _, _, rfl, rfl, eM3, ?_, ((fr.trans fr2).new hL).new hM0, (hp2.new nL).new nM, left.eraseIdx d, made ++ [z], _, rfl, by rw [upd_ne nLM, upd_same], by rw [upd_same, List.map_append]; rfl, ?_, ?_, ?_⟩
    · rw [List.length_map]
      exact size1000 (by omega)
    · rw [List.append_assoc]
      exact ((erase_perm hdd).append_left made).trans hpm
    · have := List.length_eraseIdx (l := left) (i := d)
      rw [if_pos hd] at this
      omega
    · rw [List.length_append, List.length_singleton, hml]
  · rintro σ H' ⟨fr, hp, left, made, v4, rfl, eL, eM, hpm, hll, hml⟩
    have e0 : left = [] := List.eq_nil_of_length_eq_zero (by omega)
    rw [e0, List.append_nil] at hpm
    exact ⟨_, rfl, k H' M made fr hp hM0 eM hpm⟩
/-! ### _law_lot -/
theorem cut_take (ms : List Nat) (d : Nat) : cutV (ms.map iv) none (some (d : Int)) = (ms.take d).map iv := by
  unfold cutV
  rw [HT.sIx_none, HT.sIx_nat, List.drop_zero, Nat.sub_zero, List.length_map, List.map_take]
  by_cases h : d ≤ ms.length
  · rw [Nat.min_eq_left h]
  · rw [Nat.min_eq_right (by omega), List.take_of_length_le (by simp), List.take_of_length_le (by simp; omega)]
theorem lot_of {l : List Nat} {n : Nat} (hn : l.Nodup) (hl : ∀ p ∈ l, p < n) : Lot n (sortN l) :=
  ⟨strict_of (sortN_le _) ((sortN_perm _).nodup_iff.mpr hn), fun p hp => hl p ((sortN_perm _).mem_iff.mp hp)⟩
def spLLot (K : PySem.W.Frag) : Sp := fun vs H Q _ => ∃ (p q : Addr) (many most : Nat), vs = [.ref p, iv many, iv most] ∧ PoolAt H p q ∧ many ≤ 400 ∧ most ≤ 6 ∧ ∀ H' t l, Fr1 [p, q] H H' → PoolAt H' p q → NT K H' t l → Lot many l → l.length ≤ 6 → Q (.ref t) H'
theorem scLLot : FnScope ["_law_pool_here", "_law_many", "_law_most"] ["_law_pool_here", "_law_many", "_law_most"] (defScope sLLot) := ⟨rfl, rfl, rfl, by decide +kernel, rfl, by decide +kernel, by decide +kernel⟩
theorem rgV_nat (n : Nat) : rgV 0 (n : Int) = (List.range n).map iv := by
  unfold rgV
  rw [Int.sub_zero, Int.toNat_natCast]
  exact List.map_congr_left fun i _ => by rw [Int.zero_add]
theorem calLLot (T : Txt K mg) (cd : Cal P w K mg base 1 "_law_draw" spLDraw []) (cm : Cal P w K mg base 2 "_law_mixed" (spLMixed K) []) (D : DefX K mg "_law_lot" sLLot) : Cal P w K mg base 3 "_law_lot" (spLLot K) [] := by
  refine mkCal D scLLot (fun vs H Q E h => by obtain ⟨p, q, a, l, rfl, _⟩ := h; rfl) (fun _ _ _ _ _ _ us hl => match us, hl with | [_, _, _], _ => rfl) (fun f cdv A outer s H vs Q E hr h => ?_)
  obtain ⟨p, q, many, most, rfl, hP, hma, hmo, k⟩ := h
  refine ⟨_, pss_one (ps_ret (pe_callTy call_tuple_of (by rfl) T.tuple (by decide +kernel) (pa_cons (pe_callB cr_sorted (by rfl) T.sorted (by decide +kernel) (pa_cons
    (pe_slice sl_list (pe_c cm hr (by decide) (by rfl) (pa_cons (pv 0) (pa_cons (pe_listRg rfl (by rfl) T.list (prg_1 (by rfl) T.range (pv 1))) pa_nil))) po_none
      (po_some (pe_c cd hr (by decide) (by rfl) (pa_cons (pv 0) (pa_cons (pe_op op_add (pe_callB (call_min2 rfl) (by rfl) T.min (by decide +kernel) (pa_cons (pv 2) (pa_cons (pv 1) pa_nil))) pe_int) pa_nil))))) pa_nil)) pa_nil))), ?_⟩
  refine ⟨_, rfl, _, rfl, _, rfl, RgOk.of_le (by omega) (by omega) (by omega) (by omega), fun r hrn => ?_⟩
  rw [rgV_nat]
  have nr := hP.ned hrn
  refine ⟨p, q, r, List.range many, rfl, hP.new nr, SqL.of upd_same, by rw [List.length_range]; omega, fun H2 M ms fr hp hM eM hpm => ?_⟩
  have fr1 : Fr1 [p, q] H H2 := fun b o e n => fr b o (sPut hrn b o e) n
  have hMr : M ≠ r := fun e => by rw [e, upd_same] at hM; cases hM
  have hM0 : H M = none := by rw [upd_ne hMr] at hM; exact hM
  have nM := hP.ned hM0
  have emin : (if ((many : Nat) : Int) < ((most : Nat) : Int) then ((many : Nat) : Int) else ((most : Nat) : Int)) + 1 = ((min most many + 1 : Nat) : Int) := by split <;> omega
  refine ⟨_, rfl, _, rfl, _, rfl, _, _, rfl, _, _, rfl, rfl, p, q, min most many + 1, ?_, hp, by omega, by omega, fun H3 d fr2 hp2 hd => ?_⟩
  · show [V.ref p, V.int ((if ((many : Nat) : Int) < ((most : Nat) : Int) then ((many : Nat) : Int) else ((most : Nat) : Int)) + 1)] = _
    rw [emin]
  have eM3 := fr2 _ _ eM nM
  refine ⟨_, rfl, M, _, rfl, SqL.of eM3, fun p2 hp2n => ?_⟩
  have fr3 := fr1.trans fr2
  rw [cut_take]
  have np2 := hp2.ned hp2n
  have hp20 : H p2 = none := fr3.free hp2n np2
  have hnd : ms.Nodup := hpm.nodup_iff.mpr List.nodup_range
  have hnd2 : (ms.take d).Nodup := hnd.sublist (List.take_sublist d ms)
  have hlt : ∀ x ∈ ms.take d, x < many := fun x hx => List.mem_range.mp (hpm.mem_iff.mp (List.mem_of_mem_take hx))
  have hl6 : (ms.take d).length ≤ 6 := by
    rw [List.length_take]
    omega
  refine ⟨p2, (ms.take d).map (fun n : Nat => (n : Int)), rfl, SqL.of (by rw [upd_same, iv_map]), by rw [List.length_map]; omega, fun ns' p3 perm le hp3 => ?_⟩
  obtain rfl := sortI perm le
  have hP3 := hp2.new (o := .lst ((ms.take d).map iv)) np2
  have np3 := hP3.ned hp3
  have fr4 := fr3.new (o := .lst ((ms.take d).map iv)) hp20
  refine ⟨p3, _, rfl, .inl ⟨SqL.of upd_same, fun t ht => ?_⟩⟩
  have fr5 := fr4.new (o := .lst (((sortN (ms.take d)).map fun n : Nat => (n : Int)).map V.int)) (fr4.free hp3 np3)
  have hP4 := hP3.new (o := .lst (((sortN (ms.take d)).map fun n : Nat => (n : Int)).map V.int)) np3
  have nt := hP4.ned ht
  exact k _ t (sortN (ms.take d)) (fr5.new (fr5.free ht nt)) (hP4.new nt) (.inl (.inl (by rw [upd_same, iv_map]))) (lot_of hnd2 hlt) (by rw [(sortN_perm _).length_eq]; exact hl6)
end
end K32
set_option Elab.async false
set_option linter.all false
set_option maxRecDepth 100000
set_option maxHeartbeats 4000000
namespace K32
open PySem PySem.Spec L2 C8
section
variable {P : Program} {w : World} {K : PySem.W.Frag} {mg : Str → Option Value} {base : Heap}
/-- the parents found so far, the pool beside them -/
def PB (K : PySem.W.Frag) (H : Hp) (p q F : Addr) (i : Nat) (H' : Hp) : Prop := Fr1 [p, q] H H' ∧ PoolAt H' p q ∧ ∃ (as : List Addr) (ps : Par), H' F = some (.lst (as.map rv)) ∧ Nts K H' as ps ∧ ps.length = i ∧ Valid ps
theorem PB.move {H H1 H2 : Hp} {p q F : Addr} {i : Nat} (x : PB K H p q F i H1) (nF : F ∉ [p, q]) (fr : Fr1 [p, q] H1 H2) (hp : PoolAt H2 p q) : PB K H p q F i H2 := by
  obtain ⟨f, pl, as, ps, e1, e2, e3, e4⟩ := x
  exact ⟨f.trans fr, hp, as, ps, fr _ _ e1 nF, e2.imp fun a l h => Fr1.tup fr pl.noT h, e3, e4⟩
theorem PB.new {H H1 : Hp} {p q F l : Addr} {o : HO} {i : Nat} (x : PB K H p q F i H1) (hl : H1 l = none) : PB K H p q F i (upd H1 l o) := by
  obtain ⟨f, pl, as, ps, e1, e2, e3, e4⟩ := x
  have nl := pl.ned hl
  have nF : F ≠ l := ne_of_none e1 hl
  exact ⟨f.new (f.free hl nl), pl.new nl, as, ps, by rw [upd_ne nF]; exact e1, e2.upd (noT_n hl), e3, e4⟩
theorem Valid.snoc {ps : Par} {l : List Nat} (h : Valid ps) (hl : Lot ps.length l) (h6 : l.length ≤ 6) : Valid (ps ++ [l]) := by
  intro k m hm
  by_cases hk : k < ps.length
  · rw [List.getElem?_append_left hk] at hm
    exact h k m hm
  · rw [List.getElem?_append_right (by omega)] at hm
    have e0 : k - ps.length = 0 := by
      have := (List.getElem?_eq_some_iff.mp hm).1
      simp at this
      omega
    have ek : k = ps.length := by omega
    rw [e0] at hm
    cases hm
    rw [ek]
    exact ⟨hl, h6⟩
theorem PB.step {H H3 : Hp} {p q F t : Addr} {i : Nat} {l : List Nat} (x : PB K H p q F i H3) (hF : H F = none) (nF : F ∉ [p, q]) (ht : NT K H3 t l) (hl : Lot i l) (h6 : l.length ≤ 6) (hi : i ≤ 400) :
    ∃ (l : Addr) (xs : List V) (y : V), V.ref F = .ref l ∧ [V.ref t] = [y] ∧ H3 l = some (.lst xs) ∧ xs.length < sizeLine ∧ PB K H p q F (i + 1) (upd H3 l (.lst (xs ++ [y]))) := by
  obtain ⟨f, pl, as, ps, e1, e2, e3, e4⟩ := x
  have nt := noT_l e1
  refine ⟨F, _, _, rfl, rfl, e1, ?_, f.new hF, pl.new nF, as ++ [t], ps ++ [l], by rw [upd_same, List.map_append]; rfl, (e2.snoc ht).upd nt, by rw [List.length_append, e3]; rfl, e4.snoc (by rw [e3]; exact hl) h6⟩
  rw [List.length_map, e2.1, e3]
  exact size1000 (by omega)
theorem lot_nil (n : Nat) : Lot n [] := ⟨List.Pairwise.nil, by simp⟩
theorem lot_one {n d : Nat} (h : d < n) : Lot n [d] := ⟨List.pairwise_singleton _ _, by simpa using h⟩
theorem cut_drop (ms : List Nat) (d : Nat) : cutV (ms.map iv) (some (d : Int)) none = (ms.drop d).map iv := by
  unfold cutV
  rw [HT.sIx_none, HT.sIx_nat, List.length_map, ← List.map_drop, ← List.map_take]
  by_cases h : d ≤ ms.length
  · rw [Nat.min_eq_left h, List.take_of_length_le (by simp)]
  · rw [Nat.min_eq_right (by omega), Nat.sub_self, List.take_zero, List.drop_eq_nil_of_le (by omega)]
def nearL (i : Nat) : List Nat := (List.range (min 3 i)).map fun k => i - 1 - k
theorem nearL_len (i : Nat) : (nearL i).length ≤ 3 := by
  unfold nearL
  rw [List.length_map, List.length_range]
  omega
theorem nearL_lt {i x : Nat} (h : x ∈ nearL i) : x < i := by
  obtain ⟨k, hk, rfl⟩ := List.mem_map.mp h
  have := List.mem_range.mp hk
  omega
theorem nearL_nd (i : Nat) : (nearL i).Nodup := by
  unfold nearL
  refine map_nodup (fun a ha b hb e => ?_) List.nodup_range
  have h1 := List.mem_range.mp ha
  have h2 := List.mem_range.mp hb
  omega
def spLParents (K : PySem.W.Frag) : Sp := fun vs H Q _ => ∃ (p q : Addr) (n : Nat), vs = [.ref p, iv n] ∧ PoolAt H p q ∧ n ≤ 400 ∧ ∀ H' t ps, Fr1 [p, q] H H' → PoolAt H' p q → PT K H' t ps → ps.length = n → Valid ps → Q (.ref t) H'
theorem scLParents : FnScope ["_law_pool_here", "_law_many", "_law_way", "_law_found", "_law_number", "_law_near", "_law_first", "_law_lot_here", "_law_k", "_law_kind"] ["_law_pool_here", "_law_many"] (defScope sLParents) := ⟨rfl, rfl, rfl, by decide +kernel, rfl, by decide +kernel, by decide +kernel⟩
theorem calLParents (T : Txt K mg) (cd : Cal P w K mg base 1 "_law_draw" spLDraw []) (cl : Cal P w K mg base 3 "_law_lot" (spLLot K) []) (D : DefX K mg "_law_parents" sLParents) : Cal P w K mg base 4 "_law_parents" (spLParents K) [] := by
  refine mkCal D scLParents (fun vs H Q E h => by obtain ⟨p, q, n, rfl, _⟩ := h; rfl) (fun _ _ _ _ _ _ us hl => match us, hl with | [_, _], _ => rfl) (fun f cdv A outer s H vs Q E hr h => ?_)
  obtain ⟨p, q, n, rfl, hP, hn, k⟩ := h
  refine ⟨_, pss_cons (ps_set (i := 2) scLParents.nd rfl (Or.inl rfl) (pe_c cd hr (by decide) (by rfl) (pa_cons (pv 0) (pa_cons pe_int pa_nil))))
    (pss_cons (ps_set (i := 3) scLParents.nd rfl (Or.inl rfl) (pe_lst pa_nil))
    (pss_cons (ps_for PassesOwn.never rfl (pi_range1 (by rfl) T.range (pa_cons (pv 1) pa_nil)) (pg_name (i := 4) scLParents.nd rfl (.inr rfl))
      (pss_one (ps_if (pt_cmpR op_eq (pv 2) pe_int (nomark _))
        (pss_one (ps_expr (pe_bm PySem.F.plainAttrs_list PySem.F.slot_list_append PySem.F.type_list_append mt_append (pv 3) (pa_cons (pe_c cl hr (by decide) (by rfl) (pa_cons (pv 0) (pa_cons (pv 4) (pa_cons pe_int pa_nil)))) pa_nil))))
      (pss_one (ps_if (pt_cmpR op_eq (pv 2) pe_int (nomark _))
        (pss_one (ps_expr (pe_bm PySem.F.plainAttrs_list PySem.F.slot_list_append PySem.F.type_list_append mt_append (pv 3) (pa_cons
          (pe_ifExp (PW.pt (pw_and (pt_cmpR op_gt (pv 4) pe_int (nomark _)) (pw_and1 (pt_cmpR op_gt (pe_c cd hr (by decide) (by rfl) (pa_cons (pv 0) (pa_cons pe_int pa_nil))) pe_int (nomark _)))))
            (pe_tup (pa_cons (pe_c cd hr (by decide) (by rfl) (pa_cons (pv 0) (pa_cons (pv 4) pa_nil))) pa_nil)) (pe_tup pa_nil)) pa_nil))))
      (pss_one (ps_if (pt_cmpR op_eq (pv 2) pe_int (nomark _))
        (pss_cons (ps_setLc (i := 5) (own := [("_law_k", 8)]) (g := gName 8) (tt := tYes) rfl scLParents.nd rfl rfl (sw_true rfl rfl rfl (by decide +kernel)) (pi_range1 (by rfl) T.range (pa_cons (pe_callB (call_min2 rfl) (by rfl) T.min (by decide +kernel) (pa_cons pe_int (pa_cons (pv 4) pa_nil))) pa_nil))
            (blkOk_by (own := [("_law_k", 8)]) (N := ["_law_pool_here", "_law_many", "_law_way", "_law_found", "_law_number", "_law_near", "_law_first", "_law_lot_here", "_law_k", "_law_kind"]) (sc := defScope sLParents) (by decide +kernel))
            (fun _ _ _ _ _ => pg_name (i := 8) scLParents.nd rfl (Or.inl rfl)) (fun _ _ _ _ _ => pts_nil) (fun _ _ _ _ _ => pe_op op_sub (pe_op op_sub (pv 4) pe_int) (pv 8)))
        (pss_one (ps_expr (pe_bm PySem.F.plainAttrs_list PySem.F.slot_list_append PySem.F.type_list_append mt_append (pv 3) (pa_cons
          (pe_ifExp (pt_cmpR op_gt (pe_c cd hr (by decide) (by rfl) (pa_cons (pv 0) (pa_cons pe_int pa_nil))) pe_int (nomark _))
            (pe_callTy call_tuple_of (by rfl) T.tuple (by decide +kernel) (pa_cons (pe_callB cr_sorted (by rfl) T.sorted (by decide +kernel) (pa_cons (pe_slice sl_list (pv 5) (po_some (pe_c cd hr (by decide) (by rfl) (pa_cons (pv 0) (pa_cons pe_int pa_nil)))) po_none) pa_nil)) pa_nil))
            (pe_callTy call_tuple_of (by rfl) T.tuple (by decide +kernel) (pa_cons (pe_slice sl_list (pv 5) po_none (po_some pe_int)) pa_nil))) pa_nil)))))
      (pss_one (ps_if (pt_cmpR op_eq (pv 2) pe_int (nomark _))
        (pss_one (ps_expr (pe_bm PySem.F.plainAttrs_list PySem.F.slot_list_append PySem.F.type_list_append mt_append (pv 3) (pa_cons (pe_c cl hr (by decide) (by rfl) (pa_cons (pv 0) (pa_cons (pv 4)
          (pa_cons (pe_op op_add pe_int (pe_callTy call_int1 (by rfl) T.int (by decide +kernel) (pa_cons (pe_cmpR op_eq (pe_c cd hr (by decide) (by rfl) (pa_cons (pv 0) (pa_cons pe_int pa_nil))) pe_int (nomark _)) pa_nil))) pa_nil)))) pa_nil))))
        (pss_cons (ps_set (i := 6) scLParents.nd rfl (Or.inl rfl) (pe_op op_sub (pv 4) (pe_callTy call_int1 (by rfl) T.int (by decide +kernel) (pa_cons (pe_op op_mod (pv 4) pe_int) pa_nil))))
        (pss_cons (ps_setLc (i := 7) (own := [("_law_kind", 9)]) (g := gName 9) rfl scLParents.nd rfl rfl (sw_true rfl rfl rfl (by decide +kernel))
            (pi_range2 (by rfl) T.range (pa_cons (pe_callB (call_max2 rfl) (by rfl) T.max (by decide +kernel) (pa_cons pe_int (pa_cons (pe_op op_sub (pv 6) pe_int) pa_nil))) (pa_cons (pv 6) pa_nil)))
            (blkOk_by (own := [("_law_kind", 9)]) (N := ["_law_pool_here", "_law_many", "_law_way", "_law_found", "_law_number", "_law_near", "_law_first", "_law_lot_here", "_law_k", "_law_kind"]) (sc := defScope sLParents) (by decide +kernel))
            (fun _ _ _ _ _ => pg_name (i := 9) scLParents.nd rfl (Or.inl rfl)) (fun _ _ _ _ _ => by exact pts_one (pt_cmpR op_eq (pe_c cd hr (by decide) (by rfl) (pa_cons (pv 0) (pa_cons pe_int pa_nil))) pe_int (nomark _))) (fun _ _ _ _ _ => pv 9))
        (pss_one (ps_expr (pe_bm PySem.F.plainAttrs_list PySem.F.slot_list_append PySem.F.type_list_append mt_append (pv 3) (pa_cons (pe_callTy call_tuple_of (by rfl) T.tuple (by decide +kernel) (pa_cons (pv 7) pa_nil)) pa_nil)))))))))))))))
    (pss_one (ps_ret (pe_callTy call_tuple_of (by rfl) T.tuple (by decide +kernel) (pa_cons (pv 3) pa_nil)))))), ?_⟩
  refine ⟨_, rfl, p, q, 5, rfl, hP, by decide, by decide, fun H1 way fr1 hP1 hway => ?_⟩
  refine ⟨Nat.zero_le _, fun F hF => ?_⟩
  have nF := hP1.ned hF
  have hF0 : H F = none := fr1.free hF nF
  refine ⟨_, rfl, _, rfl, by omega, by omega, ?_⟩
  refine for_rng (n := n) (fun i σ H' => PB K H p q F i H' ∧ ∃ v4 v5 v6 v7 v8 v9 : Option V, σ = [some (.ref p), some (iv n), some (iv way), some (.ref F), v4, v5, v6, v7, v8, v9]) ?_ ?_ ?_
  · exact ⟨⟨fr1.new hF0, hP1.new nF, [], [], upd_same, Nts.nil, rfl, fun k l h => by simp at h⟩, _, _, _, _, _, _, rfl⟩
  · rintro i σ H2 hi ⟨pb, v4, v5, v6, v7, v8, v9, rfl⟩
    have hPi := pb.2.1
    have eF : ∃ xs, H2 F = some (.lst xs) := let ⟨_, _, as, ps, e1, _⟩ := pb; ⟨_, e1⟩
    obtain ⟨xsF, eF⟩ := eF
    have weq : ∀ j : Nat, (∃ b, V.bl (decide (V.int (way : Int) = V.int (j : Int))) = V.bl b ∧ (b = true → way = j) ) := fun j => ⟨_, rfl, fun h => Int.ofNat_inj.mp (V.int.inj (of_decide_eq_true h))⟩
    have step : ∀ {H3 : Hp} {t : Addr} {l : List Nat}, PB K H p q F i H3 → NT K H3 t l → Lot i l → l.length ≤ 6 → ∃ (l : Addr) (xs : List V) (y : V), V.ref F = .ref l ∧ [V.ref t] = [y] ∧ H3 l = some (.lst xs) ∧ xs.length < sizeLine ∧ PB K H p q F (i + 1) (upd H3 l (.lst (xs ++ [y]))) :=
      fun {H3 t l} x ht hl h6 => x.step hF0 nF ht hl h6 (by omega)
    refine ⟨_, rfl, rfl, _, rfl, ite2 (fun hw => ?_) (fun hw => ?_)⟩
    · refine ⟨_, rfl, .inl ⟨rfl, _, SqL.of eF⟩, _, rfl, _, rfl, p, q, i, 3, rfl, hPi, by omega, by decide, fun H3 t l fr hp ht hl h6 => ?_⟩
      obtain ⟨a, xs, y, e1, e2, e3, e4, pb2⟩ := step (pb.move nF fr hp) ht hl h6
      exact ⟨a, xs, y, e1, e2, e3, e4, pb2, _, _, _, _, _, _, rfl⟩
    refine ⟨_, rfl, rfl, _, rfl, ite2 (fun hw1 => ?_) (fun hw1 => ?_)⟩
    · refine ⟨_, rfl, .inl ⟨rfl, _, SqL.of eF⟩, ?_⟩
      have emp : ∀ {H3 : Hp}, PB K H p q F i H3 → ∀ t, H3 t = none → ∃ (l : Addr) (xs : List V) (y : V), V.ref F = .ref l ∧ [V.ref t] = [y] ∧ (upd H3 t (.tup [])) l = some (.lst xs) ∧ xs.length < sizeLine ∧ PB K H p q F (i + 1) (upd (upd H3 t (.tup [])) l (.lst (xs ++ [y]))) :=
        fun {H3} x t ht => step (l := []) (x.new ht) (.inl (.inl upd_same)) (lot_nil i) (by decide)
      refine ⟨_, rfl, _, _, rfl, rfl, _, rfl, ite2 (fun h0 => ?_) (fun h0 => iteF ?_)⟩
      · have hi0 : 0 < i := by
          have := of_decide_eq_true h0
          omega
        refine ⟨_, rfl, p, q, 6, rfl, hPi, by decide, by decide, fun H3 d fr hp hd => ⟨_, _, rfl, rfl, _, rfl, ite2 (fun h1 => ?_) (fun h1 => ?_)⟩⟩
        · refine ⟨_, rfl, _, rfl, p, q, i, rfl, hp, hi0, by omega, fun H4 d2 fr2 hp2 hd2 => ⟨by show 1 ≤ sizeLine; decide, fun t ht => ?_⟩⟩
          have pb3 := (pb.move nF fr hp).move nF fr2 hp2
          obtain ⟨a, xs, y, e1, e2, e3, e4, pb2⟩ := step (l := [d2]) (pb3.new (o := .tup [iv d2]) ht) (.inl (.inl upd_same)) (lot_one hd2) (by show 1 ≤ 6; decide)
          exact ⟨a, xs, y, e1, e2, e3, e4, pb2, _, _, _, _, _, _, rfl⟩
        · refine ⟨Nat.zero_le _, fun t ht => ?_⟩
          obtain ⟨a, xs, y, e1, e2, e3, e4, pb2⟩ := emp (pb.move nF fr hp) t ht
          exact ⟨a, xs, y, e1, e2, e3, e4, pb2, _, _, _, _, _, _, rfl⟩
      · refine ⟨Nat.zero_le _, fun t ht => ?_⟩
        obtain ⟨a, xs, y, e1, e2, e3, e4, pb2⟩ := emp pb t ht
        exact ⟨a, xs, y, e1, e2, e3, e4, pb2, _, _, _, _, _, _, rfl⟩
    refine ⟨_, rfl, rfl, _, rfl, ite2 (fun hw2 => ?_) (fun hw2 => ?_)⟩
    · have emin : (if (i : Int) < 3 then (i : Int) else 3) = ((min 3 i : Nat) : Int) := by split <;> omega
      refine ⟨_, rfl, _, _, rfl, (if (i : Int) < 3 then (i : Int) else 3), rfl, by split <;> omega, by split <;> omega, fun D1 hD1 => ?_⟩
      rw [emin]
      have pbD := pb.new (o := .lst []) hD1
      have nD := hPi.ned hD1
      have nFD : F ≠ D1 := ne_of_none eF hD1
      refine lc_rng (n := min 3 i) (fun j H' => H' = upd H2 D1 (.lst (((List.range j).map fun k => i - 1 - k).map iv))) rfl ?_ ?_
      · rintro j H' hj rfl
        refine ⟨rfl, yes ⟨_, rfl, _, _, rfl, rfl, _, rfl, _, _, rfl, rfl, _, upd_same, ?_, ?_⟩⟩
        · rw [List.length_map, List.length_map, List.length_range]
          exact size1000 (by omega)
        · rw [upd_upd, List.range_succ, List.map_append, List.map_append]
          have e : (i : Int) - 1 - (j : Int) = ((i - 1 - j : Nat) : Int) := by omega
          show upd H2 D1 (.lst (_ ++ [V.int ((i : Int) - 1 - (j : Int))])) = _
          rw [e]
          rfl
      · rintro H3 rfl
        have pb3 : PB K H p q F i (upd H2 D1 (.lst ((nearL i).map iv))) := pb.new hD1
        have eN : (upd H2 D1 (.lst ((nearL i).map iv))) D1 = some (.lst ((nearL i).map iv)) := upd_same
        have hnl := nearL_len i
        have eF3 : (upd H2 D1 (.lst ((nearL i).map iv))) F = some (.lst xsF) := by rw [upd_ne nFD]; exact eF
        have nln : (nearL i).length < 64 := by omega
        have key : ∀ {H4 : Hp}, Fr1 [p, q] (upd H2 D1 (.lst ((nearL i).map iv))) H4 → PoolAt H4 p q → PB K H p q F i H4 ∧ H4 D1 = some (.lst ((nearL i).map iv)) := fun {H4} fr hp => ⟨pb3.move nF fr hp, fr _ _ eN nD⟩
        refine ⟨_, rfl, .inl ⟨rfl, _, SqL.of eF3⟩, _, rfl, p, q, 4, rfl, pb3.2.1, by decide, by decide, fun H4 d fr hp hd => ⟨_, _, rfl, rfl, _, rfl, ite2 (fun hu => ?_) (fun hu => ?_)⟩⟩
        · refine ⟨_, rfl, _, rfl, p, q, 2, rfl, hp, by decide, by decide, fun H5 d2 fr2 hp2 hd2 => ⟨_, rfl, D1, _, rfl, SqL.of (key (fr.trans fr2) hp2).2, fun p2 hp2n => ?_⟩⟩
          have pb5 := (key (fr.trans fr2) hp2).1
          rw [cut_drop]
          refine ⟨p2, ((nearL i).drop d2).map (fun n : Nat => (n : Int)), rfl, SqL.of (by rw [upd_same, iv_map]), by rw [List.length_map, List.length_drop]; omega, fun ns' p3 perm le hp3 => ?_⟩
          obtain rfl := sortI perm le
          refine ⟨p3, _, rfl, .inl ⟨SqL.of upd_same, fun t ht => ?_⟩⟩
          obtain ⟨a, xs, y, e1, e2, e3, e4, pb2⟩ := step (l := sortN ((nearL i).drop d2)) (((pb5.new (o := .lst (((nearL i).drop d2).map iv)) hp2n).new (o := .lst (((sortN ((nearL i).drop d2)).map fun n : Nat => (n : Int)).map V.int)) hp3).new (o := .tup (((sortN ((nearL i).drop d2)).map fun n : Nat => (n : Int)).map V.int)) ht)
            (.inl (.inl (by rw [upd_same, iv_map]))) (lot_of ((nearL_nd i).sublist (List.drop_sublist _ _)) fun x hx => nearL_lt (List.mem_of_mem_drop hx)) (by rw [(sortN_perm _).length_eq, List.length_drop]; omega)
          exact ⟨a, xs, y, e1, e2, e3, e4, pb2, _, _, _, _, _, _, rfl⟩
        · refine ⟨_, rfl, _, rfl, D1, _, rfl, SqL.of (key fr hp).2, fun p2 hp2n => ?_⟩
          have pb5 := (key fr hp).1
          have ec : cutV ((nearL i).map iv) none (some 1) = ((nearL i).take 1).map iv := cut_take (nearL i) 1
          rw [ec]
          refine ⟨p2, _, rfl, .inl ⟨SqL.of upd_same, fun t ht => ?_⟩⟩
          have hlot : Lot i ((nearL i).take 1) := by
            refine ⟨?_, fun x hx => nearL_lt (List.mem_of_mem_take hx)⟩
            cases nearL i with
            | nil => exact List.Pairwise.nil
            | cons a r => exact List.pairwise_singleton _ _
          obtain ⟨a, xs, y, e1, e2, e3, e4, pb2⟩ := step (l := (nearL i).take 1) ((pb5.new (o := .lst (((nearL i).take 1).map iv)) hp2n).new (o := .tup (((nearL i).take 1).map iv)) ht)
            (.inl (.inl upd_same)) hlot (by rw [List.length_take]; omega)
          exact ⟨a, xs, y, e1, e2, e3, e4, pb2, _, _, _, _, _, _, rfl⟩
    refine ⟨_, rfl, rfl, _, rfl, ite2 (fun hw3 => ?_) (fun hw3 => ?_)⟩
    · refine ⟨_, rfl, .inl ⟨rfl, _, SqL.of eF⟩, _, rfl, _, rfl, _, rfl, p, q, 4, rfl, hPi, by decide, by decide, fun H3 d fr hp hd => ?_⟩
      refine ⟨rfl, .inr ⟨_, rfl, _, _, rfl, rfl, p, q, i, if d = 0 then 2 else 1, ?_, hp, by omega, by split <;> omega, fun H4 t l fr2 hp2 ht hl h6 => ?_⟩⟩
      · by_cases h0 : d = 0
        · subst h0; rfl
        · rw [if_neg h0]
          have : decide (V.int ((d : Nat) : Int) = V.int 0) = false := decide_eq_false fun e => h0 (Int.ofNat_inj.mp (V.int.inj e))
          show [V.ref p, iv i, V.int (1 + if decide (V.int ((d : Nat) : Int) = V.int 0) = true then 1 else 0)] = _
          rw [this]
          rfl
      obtain ⟨a, xs, y, e1, e2, e3, e4, pb2⟩ := step ((pb.move nF fr hp).move nF fr2 hp2) ht hl h6
      exact ⟨a, xs, y, e1, e2, e3, e4, pb2, _, _, _, _, _, _, rfl⟩
    · refine ⟨_, rfl, _, rfl, _, _, rfl, rfl, by show (0 : Int) < 3; decide, .inl ⟨_, rfl, _, _, rfl, rfl, ?_⟩⟩
      refine ⟨_, rfl, _, _, rfl, rfl, _, _, rfl, _, rfl, (if (i : Int) - (i : Int) % 3 - 3 > 0 then (i : Int) - (i : Int) % 3 - 3 else 0), (i : Int) - (i : Int) % 3, rfl, ⟨by split <;> omega, by split <;> omega, by omega, by omega⟩, fun D1 hD1 => ?_⟩
      have hb : ∃ lo : Int, lo = (if (i : Int) - (i : Int) % 3 - 3 > 0 then (i : Int) - (i : Int) % 3 - 3 else 0) ∧ 0 ≤ lo ∧ lo ≤ (i : Int) - (i : Int) % 3 ∧ (i : Int) - (i : Int) % 3 - lo ≤ 3 := ⟨_, rfl, by split <;> omega, by split <;> omega, by split <;> omega⟩
      obtain ⟨lo, elo, b1, b2, b3⟩ := hb
      rw [← elo]
      have nD := hPi.ned hD1
      have nFD : F ≠ D1 := ne_of_none eF hD1
      have hD0 : H D1 = none := pb.1.free hD1 nD
      refine lc_range (lo := lo) (n := ((i : Int) - (i : Int) % 3 - lo).toNat) (fun j H' => PB K H p q F i H' ∧ ∃ l : List Nat, H' D1 = some (.lst (l.map iv)) ∧ l.Pairwise (· < ·) ∧ (∀ x ∈ l, (x : Int) < lo + (j : Nat)) ∧ l.length ≤ j) ?_ ?_ ?_
      · exact ⟨pb.new hD1, [], upd_same, List.Pairwise.nil, by simp, Nat.le_refl _⟩
      · rintro j H' hj ⟨pb2, l, e1, e2, e3, e4⟩
        refine ⟨rfl, _, rfl, p, q, 2, rfl, pb2.2.1, by decide, by decide, fun H3 d fr hp hd => ⟨rfl, _, rfl, ite2 (fun hu => ?_) (fun hu => ?_)⟩⟩
        · have e1' := fr _ _ e1 nD
          have pb3 := pb2.move nF fr hp
          have ez : V.int (lo + (j : Nat)) = iv (lo + (j : Nat)).toNat := by
            show V.int _ = V.int _
            congr 1
            omega
          refine ⟨_, rfl, _, e1', ?_, ?_, l ++ [(lo + (j : Nat)).toNat], ?_, ?_, ?_, ?_⟩
          · rw [List.length_map]
            exact size1000 (by omega)
          · obtain ⟨f3, hp3, as, ps, a1, a2, a3, a4⟩ := pb3
            exact ⟨f3.new hD0, hp3.new nD, as, ps, by rw [upd_ne nFD]; exact a1, a2.upd (noT_l e1'), a3, a4⟩
          · rw [upd_same, ez, List.map_append]
            rfl
          · rw [List.pairwise_append]
            refine ⟨e2, List.pairwise_singleton _ _, fun x hx y hy => ?_⟩
            obtain rfl := List.mem_singleton.mp hy
            have := e3 x hx
            omega
          · intro x hx
            rcases List.mem_append.mp hx with h | h
            · have := e3 x h
              omega
            · obtain rfl := List.mem_singleton.mp h
              omega
          · rw [List.length_append, List.length_singleton]
            omega
        · exact ⟨pb2.move nF fr hp, l, fr _ _ e1 nD, e2, fun x hx => by have := e3 x hx; omega, by omega⟩
      · rintro H3 ⟨pb2, l, e1, e2, e3, e4⟩
        obtain ⟨fr3, hp3, as3, ps3, eF3, _⟩ := id pb2
        refine ⟨_, rfl, .inl ⟨rfl, _, SqL.of eF3⟩, _, rfl, D1, _, rfl, .inl ⟨SqL.of e1, fun t ht => ?_⟩⟩
        obtain ⟨a, xs, y, e1, e2, e3, e4, pb2⟩ := step (l := l) (pb2.new (o := .tup (l.map iv)) ht) (.inl (.inl upd_same)) ⟨e2, fun x hx => by have := e3 x hx; omega⟩ (by omega)
        exact ⟨a, xs, y, e1, e2, e3, e4, pb2, _, _, _, _, _, _, rfl⟩
  · rintro σ H2 ⟨⟨fr, hp, as, ps, e1, e2, e3, e4⟩, v4, v5, v6, v7, v8, v9, rfl⟩
    refine ⟨_, rfl, F, _, rfl, .inl ⟨SqL.of e1, fun t ht => ?_⟩⟩
    have nt := hp.ned ht
    exact k _ t ps (fr.new (fr.free ht nt)) (hp.new nt) ⟨as, .inl (.inl upd_same), e2.upd (noT_n ht)⟩ e3 e4
end
end K32
set_option Elab.async false
set_option linter.all false
set_option maxRecDepth 100000
set_option maxHeartbeats 4000000
namespace K32
open PySem PySem.Spec L2 C8
/-! the keys of a dict of kinds -/
def keysIs (up : Nat → Bool) (kvs : List (L2.Key × V)) : Prop := ∀ k : L2.Key, (valV kvs k).isSome = true ↔ ∃ p : Nat, k = Sum.inl (p : Int) ∧ up p = true
theorem val_mem (kvs : List (L2.Key × V)) (k : L2.Key) : (valV kvs k).isSome = true ↔ k ∈ kvs.map (·.1) := by
  unfold valV
  rw [Option.isSome_map, List.find?_isSome, List.mem_map]
  constructor
  · rintro ⟨x, h1, h2⟩
    exact ⟨x, h1, of_decide_eq_true h2⟩
  · rintro ⟨x, h1, h2⟩
    exact ⟨x, h1, decide_eq_true h2⟩
theorem put_some (kvs : List (L2.Key × V)) (k j : L2.Key) (y : V) : (valV (putK kvs k y) j).isSome = true ↔ j = k ∨ (valV kvs j).isSome = true := by
  rw [valV_put]
  by_cases h : j = k
  · rw [if_pos h]
    simp [h]
  · rw [if_neg h]
    simp [h]
theorem merge_some (j : L2.Key) : ∀ (more kvs : List (L2.Key × V)), (valV (mergeK kvs more) j).isSome = true ↔ (valV kvs j).isSome = true ∨ (valV more j).isSome = true
  | [], kvs => by
    show (valV kvs j).isSome = true ↔ _
    simp [valV]
  | p :: r, kvs => by
    show (valV (mergeK (putK kvs p.1 p.2) r) j).isSome = true ↔ _
    rw [merge_some j r, put_some, val_mem (p :: r), val_mem r]
    simp only [List.map_cons, List.mem_cons]
    constructor
    · rintro ((h | h) | h)
      · exact .inr (.inl h)
      · exact .inl h
      · exact .inr (.inr h)
    · rintro (h | h | h)
      · exact .inl (.inr h)
      · exact .inl (.inl h)
      · exact .inr h
def DAt (H : Hp) (d : Addr) (up : Nat → Bool) (B : Nat) : Prop := ∃ kvs : List (L2.Key × V), H d = some (.dK kvs) ∧ keysIs up kvs ∧ kvs.length ≤ B
theorem DAt.same {H H' : Hp} {d : Addr} {up : Nat → Bool} {B : Nat} (h : DAt H d up B) (e : Same H H') : DAt H' d up B := ⟨h.choose, e _ _ h.choose_spec.1, h.choose_spec.2⟩
theorem DAt.out {H : Hp} {d l : Addr} {o : HO} {up : Nat → Bool} {B : Nat} (h : DAt H d up B) (n : d ≠ l) : DAt (upd H l o) d up B := ⟨h.choose, by rw [upd_ne n]; exact h.choose_spec.1, h.choose_spec.2⟩
theorem DAt.upd {H : Hp} {d l : Addr} {o : HO} {xs : List V} {up : Nat → Bool} {B : Nat} (h : DAt H d up B) (n : H l = some (.lst xs)) : DAt (upd H l o) d up B := h.out fun e => by
  obtain ⟨kvs, h1, _⟩ := h
  rw [e, n] at h1
  cases h1
/-- the dicts of all that a kind comes from -/
def AB (H : Hp) (ds : List Addr) (ps : Par) (n : Nat) : Prop := ds.length = n ∧ ∀ (i : Nat) (d : Addr), ds[i]? = some d → DAt H d (isA ps i) (7 ^ i)
theorem AB.imp {H H' : Hp} {ds : List Addr} {ps : Par} {n : Nat} (h : AB H ds ps n) (f : ∀ d up B, DAt H d up B → DAt H' d up B) : AB H' ds ps n := ⟨h.1, fun i d x => f _ _ _ (h.2 i d x)⟩
theorem AB.at {H : Hp} {ds : List Addr} {ps : Par} {n i : Nat} (h : AB H ds ps n) (hi : i < n) : ∃ d, ds[i]? = some d ∧ DAt H d (isA ps i) (7 ^ i) := by
  have hl : i < ds.length := by rw [h.1]; exact hi
  exact ⟨ds[i], List.getElem?_eq_getElem hl, h.2 i _ (List.getElem?_eq_getElem hl)⟩
theorem AB.snoc {H : Hp} {ds : List Addr} {ps : Par} {n : Nat} {d : Addr} (h : AB H ds ps n) (q : DAt H d (isA ps n) (7 ^ n)) : AB H (ds ++ [d]) ps (n + 1) := by
  refine ⟨by simp [h.1], fun i b x => ?_⟩
  by_cases hi : i < ds.length
  · rw [List.getElem?_append_left hi] at x
    exact h.2 i b x
  · rw [List.getElem?_append_right (by omega)] at x
    have e0 : i - ds.length = 0 := by
      have := (List.getElem?_eq_some_iff.mp x).1
      simp at this
      omega
    have ei : i = n := by
      have := h.1
      omega
    rw [e0] at x
    cases x
    rw [ei]
    exact q
section
variable {P : Program} {w : World} {K : PySem.W.Frag} {mg : Str → Option Value} {base : Heap}
def spLAbove (K : PySem.W.Frag) : Sp := fun vs H Q _ => ∃ (t : Addr) (ps : Par), vs = [.ref t] ∧ PT K H t ps ∧ Valid ps ∧ ps.length ≤ 7 ∧ ∀ H' F ds, Same H H' → H' F = some (.lst (ds.map rv)) → AB H' ds ps ps.length → Q (.ref F) H'
theorem scLAbove : FnScope ["_law_parents_here", "_law_found", "_law_number", "_law_item", "_law_here", "_law_parent"] ["_law_parents_here"] (defScope sLAbove) := ⟨rfl, rfl, rfl, by decide +kernel, rfl, by decide +kernel, by decide +kernel⟩
theorem calLAbove (T : Txt K mg) (D : DefX K mg "_law_above" sLAbove) : Cal P w K mg base 1 "_law_above" (spLAbove K) [] := by
  refine mkCal D scLAbove (fun vs H Q E h => by obtain ⟨t, ps, rfl, _⟩ := h; rfl) (fun _ _ _ _ _ _ us hl => match us, hl with | [_], _ => rfl) (fun f cdv A outer s H vs Q E hr h => ?_)
  obtain ⟨t, ps, rfl, ⟨as, hS, hN⟩, hv, hlen, k⟩ := h
  refine ⟨_, pss_cons (ps_set (i := 1) scLAbove.nd rfl (Or.inl rfl) (pe_lst pa_nil))
    (pss_cons (ps_for PassesOwn.never rfl (pi_enumT (by rfl) T.enumerate (pa_cons (pv 0) pa_nil)) (pg_tup rfl (pgs_cons (pg_name (i := 2) scLAbove.nd rfl (.inl rfl)) (pgs_cons (pg_name (i := 3) scLAbove.nd rfl (.inl rfl)) pgs_nil)))
      (pss_cons (ps_set (i := 4) scLAbove.nd rfl (Or.inl rfl) (pe_disp (pps_cons (pv 2) pe_bl pps_nil) rfl rfl (by simp) (by decide)))
      (pss_cons (ps_for PassesOwn.never rfl (pi_tup (pv 3)) (pg_name (i := 5) scLAbove.nd rfl (.inl rfl))
        (pss_one (ps_expr (pe_bm PySem.F.plainAttrs_dict PySem.F.slot_dict_update PySem.F.type_dict_update mt_dupd (pv 4) (pa_cons (pe_ix ix_list (pv 1) (pv 5) (fun _ _ => rfl)) pa_nil)))))
      (pss_one (ps_expr (pe_bm PySem.F.plainAttrs_list PySem.F.slot_list_append PySem.F.type_list_append mt_append (pv 1) (pa_cons (pv 4) pa_nil)))))))
    (pss_one (ps_ret (pv 1)))), ?_⟩
  refine ⟨Nat.zero_le _, fun F hF => ?_⟩
  have s1 : Same H (upd H F (.lst [])) := sPut hF
  refine ⟨_, rfl, t, _, rfl, sTup s1 hS, ?_⟩
  refine for_enumT (xs := as.map rv) (fun i σ H' => Same H H' ∧ ∃ ds : List Addr, H' F = some (.lst (ds.map rv)) ∧ AB H' ds ps i ∧ ∃ v2 v3 v4 v5 : Option V, σ = [some (.ref t), some (.ref F), v2, v3, v4, v5]) ⟨s1, [], upd_same, ⟨rfl, by simp⟩, _, _, _, _, rfl⟩ (fun i σ H' _ h => sTup h.1 hS) ?_ ?_
  · rintro i y σ H1 T2 hi ⟨sm, ds, eF, ab, v2, v3, v4, v5, rfl⟩ hT
    rw [List.getElem?_map] at hi
    cases ha : as[i]? with
    | none => rw [ha] at hi; cases hi
    | some a =>
      rw [ha] at hi
      cases hi
      have hil : i < ps.length := by rw [← hN.1]; exact (List.getElem?_eq_some_iff.mp ha).1
      have hpl := List.getElem?_eq_getElem hil
      generalize ps[i] = it at hpl
      have hit : NT K H a it := hN.2 i a it ha hpl
      obtain ⟨hlot, h6⟩ := hv i it hpl
      have sT : Same H1 (upd H1 T2 (.tup [.int (i : Nat), rv a])) := sPut hT
      refine ⟨T2, _, rfl, .inl (.inl upd_same), rfl, _, _, rfl, _, _, rfl, rfl, ?_⟩
      refine fun d hd => ⟨_, rfl, upd_same, [(Sum.inl (i : Int), .bl true)], rfl, by show 1 ≤ 15; decide, ?_⟩
      have sd : Same H1 (upd (upd (upd H1 T2 (.tup [.int (i : Nat), rv a])) d (.dK [])) d (.dK (mergeK [] [(Sum.inl (i : Int), .bl true)]))) := by
        rw [upd_upd]
        exact sNew sT (sT.free hd)
      have hd0 : H d = none := (sm.trans sT).free hd
      have nFd : F ≠ d := fun e => by
        rw [← e] at hd
        rw [sT _ _ eF] at hd
        cases hd
      have nds : ∀ j b, ds[j]? = some b → b ≠ d := fun j b hb e => by
        obtain ⟨kvs, h1, _⟩ := ab.2 j b hb
        rw [e] at h1
        rw [sT _ _ h1] at hd
        cases hd
      have nT2 : T2 ≠ d := ne_of_none upd_same hd
      refine ⟨_, rfl, a, rfl, ⟨_, sTup (sm.trans sd) hit⟩, ?_⟩
      refine for_tup (xs := it.map iv) (fun j σ H' => Same H H' ∧ H' F = some (.lst (ds.map rv)) ∧ AB H' ds ps i ∧ (∃ v5 : Option V, σ = [some (.ref t), some (.ref F), some (iv i), some (rv a), some (.ref d), v5]) ∧ ∃ kvs : List (L2.Key × V), H' d = some (.dK kvs) ∧ kvs.length ≤ 1 + j * 7 ^ (i - 1) ∧ keysIs (fun p => decide (p = i) || (it.take j).any fun q => isA ps q p) kvs) ?_ (fun j σ H' _ h => sTup h.1 hit) ?_ ?_
      · refine ⟨sm.trans sd, sd _ _ eF, ab.imp fun _ _ _ h => h.same sd, ⟨_, rfl⟩, _, upd_same, by show 1 ≤ _; omega, fun k => ?_⟩
        show (valV (mergeK [] [(Sum.inl (i : Int), V.bl true)]) k).isSome = true ↔ _
        rw [merge_some, val_mem, val_mem]
        simp only [List.map_nil, List.map_cons, List.not_mem_nil, false_or, List.mem_singleton, List.take_zero, List.any_nil, Bool.or_false, decide_eq_true_eq]
        constructor
        · rintro rfl
          exact ⟨i, rfl, rfl⟩
        · rintro ⟨p, rfl, rfl⟩
          rfl
      · rintro j y σ H2 hj ⟨s2, eF2, ab2, ⟨v5, rfl⟩, kvs, ek, hkl, hks⟩
        rw [List.getElem?_map] at hj
        cases hq : it[j]? with
        | none => rw [hq] at hj; cases hj
        | some q =>
          rw [hq] at hj
          cases hj
          have hjl : j < it.length := (List.getElem?_eq_some_iff.mp hq).1
          have hqi : q < i := hlot.2 q (List.mem_of_getElem? hq)
          obtain ⟨b, hb, more, eb, hmk, hml⟩ := ab2.at hqi
          have hpow : 7 ^ q ≤ 7 ^ (i - 1) := Nat.pow_le_pow_right (by decide) (by omega)
          have hpow2 : 7 ^ (i - 1) ≤ 117649 := Nat.le_trans (Nat.pow_le_pow_right (by decide) (show i - 1 ≤ 6 by omega)) (by decide)
          have hbd := nds q b hb
          have hmulj : (j + 1) * 7 ^ (i - 1) = j * 7 ^ (i - 1) + 7 ^ (i - 1) := Nat.succ_mul _ _
          have hj6 : j * 7 ^ (i - 1) ≤ 5 * 117649 := Nat.mul_le_mul (by omega) hpow2
          generalize 7 ^ (i - 1) = B at *
          refine ⟨_, rfl, .inr (.inr (.inl ⟨rfl, .inl ⟨_, ek⟩⟩)), _, rfl, _, rfl, F, _, _, rv b, rfl, rfl, SqL.of eF2, atI_nat (by rw [List.getElem?_map, hb]; rfl), d, b, kvs, more, rfl, rfl, Ne.symm hbd, ek, eb, ?_, ?_⟩
          · have : kvs.length + more.length ≤ 823543 := by omega
            exact Nat.le_of_lt (size900k this)
          · refine ⟨sNew s2 hd0, by rw [upd_ne nFd]; exact eF2, ⟨ab2.1, fun j b hb => (ab2.2 j b hb).out (nds j b hb)⟩, ⟨_, rfl⟩, _, upd_same, ?_, fun k => ?_⟩
            · have := length_mergeK more kvs
              omega
            · have ht : ∀ p, ((it.take (j + 1)).any fun q => isA ps q p) = (((it.take j).any fun q => isA ps q p) || isA ps q p) := fun p => by
                rw [List.take_add_one, hq, List.any_append]
                simp
              show _ ↔ ∃ p : Nat, k = Sum.inl (p : Int) ∧ (decide (p = i) || (it.take (j + 1)).any fun q => isA ps q p) = true
              rw [merge_some, hks k, hmk k]
              simp only [ht]
              constructor
              · rintro (⟨p, rfl, hp⟩ | ⟨p, rfl, hp⟩)
                · refine ⟨p, rfl, ?_⟩
                  rw [← Bool.or_assoc, show (decide (p = i) || (it.take j).any fun q => isA ps q p) = true from hp, Bool.true_or]
                · refine ⟨p, rfl, ?_⟩
                  simp [hp]
              · rintro ⟨p, rfl, hp⟩
                rw [← Bool.or_assoc, Bool.or_eq_true] at hp
                rcases hp with hp | hp
                · exact .inl ⟨p, rfl, hp⟩
                · exact .inr ⟨p, rfl, hp⟩
      · rintro σ H2 ⟨s2, eF2, ab2, ⟨v5, rfl⟩, kvs, ek, hkl, hks⟩
        rw [List.length_map, List.take_length] at hks
        rw [List.length_map] at hkl
        refine ⟨_, rfl, .inl ⟨rfl, _, SqL.of eF2⟩, _, rfl, F, _, _, rfl, rfl, eF2, ?_, sNew s2 hF, ds ++ [d], by rw [upd_same, List.map_append]; rfl, ?_, _, _, _, _, rfl⟩
        · rw [List.length_map, ab.1]
          exact size1000 (by omega)
        · refine AB.snoc (ab2.imp fun _ _ _ h => h.upd eF2) ⟨kvs, by rw [upd_ne (Ne.symm nFd)]; exact ek, fun k => ?_, ?_⟩
          · rw [hks k]
            have e : ∀ p, isA ps i p = (decide (p = i) || it.any fun q => isA ps q p) := fun p => isA_eq hv hpl p
            simp only [e]
          · refine Nat.le_trans hkl ?_
            cases i with
            | zero =>
              have : it.length = 0 := by
                cases it with
                | nil => rfl
                | cons x r => exact absurd (hlot.2 x (by simp)) (by omega)
              rw [this]
              simp
            | succ i =>
              rw [Nat.add_sub_cancel, Nat.pow_succ]
              have h1 : 1 ≤ 7 ^ i := Nat.one_le_pow _ _ (by decide)
              have h2 : it.length * 7 ^ i ≤ 6 * 7 ^ i := Nat.mul_le_mul_right _ h6
              generalize 7 ^ i = B at *
              omega
  · rintro σ H' ⟨sm, ds, eF, ab, v2, v3, v4, v5, rfl⟩
    rw [List.length_map, hN.1] at ab
    exact ⟨_, rfl, k H' F ds sm eF ab⟩
end
end K32
set_option Elab.async false
set_option linter.all false
set_option maxRecDepth 100000
set_option maxHeartbeats 4000000
namespace K32
open PySem PySem.Spec L2 C8
/-! orders as the law makes them -/
def FzAt (H : Hp) (a : Addr) (o : List Nat) : Prop := TFz H a (o.map iv)
theorem FzAt.same {H H' : Hp} (e : Same H H') {a : Addr} {o : List Nat} (h : FzAt H a o) : FzAt H' a o := let ⟨b, h1, h2⟩ := h; ⟨b, e _ _ h1, h2⟩
theorem FzAt.upd {H : Hp} {l : Addr} {o : HO} (n : NoT H l) {a : Addr} {m : List Nat} (h : FzAt H a m) : FzAt (upd H l o) a m := by
  obtain ⟨b, h1, h2⟩ := h
  have ne : a ≠ l := fun e => n.2 _ _ (by rw [← e]; exact h1)
  exact ⟨b, by rw [upd_ne ne]; exact h1, h2⟩
theorem FzAt.nt {K : PySem.W.Frag} {H : Hp} {a : Addr} {o : List Nat} (h : FzAt H a o) : NT K H a o := TFz.sq h
theorem A2.at {α : Type} {R : Addr → α → Prop} {as : List Addr} {ms : List α} (h : A2 R as ms) {i : Nat} {m : α} (e : ms[i]? = some m) : ∃ a, as[i]? = some a ∧ R a m := by
  have hi : i < as.length := by rw [h.1]; exact (List.getElem?_eq_some_iff.mp e).1
  exact ⟨as[i], List.getElem?_eq_getElem hi, h.2 i _ m (List.getElem?_eq_getElem hi) e⟩
def gK (x : Nat) (o : List Nat) : L2.Key → Bool
  | .inl i => decide (V.int i = V.int (x : Int)) || inV (V.int i) (o.map iv)
  | .inr _ => false
theorem gK_nat (x p : Nat) (o : List Nat) : gK x o (Sum.inl (p : Int)) = (decide (p = x) || o.contains p) := by
  show (decide (V.int (p : Int) = V.int (x : Int)) || inV (iv p) (o.map iv)) = _
  rw [inV_nat]
  congr 1
  rw [Bool.eq_iff_iff, decide_eq_true_eq, decide_eq_true_eq, V.int.injEq]
  omega
theorem mayC_keys {up : Nat → Nat → Bool} {n : Nat} {o : List Nat} {x : Nat} {kvs : List (L2.Key × V)} (hk : keysIs (up x) kvs) (hup : ∀ p, up x p = true → p < n) :
    mayC up n o x = (!(o.contains x) && ((kvs.map fun kv => gK x o kv.1)).all id) := by
  rw [Bool.eq_iff_iff, mayC_iff, Bool.and_eq_true, Bool.not_eq_true', List.all_eq_true]
  constructor
  · rintro ⟨h1, h2⟩
    refine ⟨by simpa using h1, fun b hb => ?_⟩
    obtain ⟨kv, hkv, rfl⟩ := List.mem_map.mp hb
    obtain ⟨p, e, hp⟩ := (hk kv.1).mp ((val_mem kvs kv.1).mpr (List.mem_map.mpr ⟨kv, hkv, rfl⟩))
    show gK x o kv.1 = true
    rw [e, gK_nat, Bool.or_eq_true, decide_eq_true_eq]
    by_cases hpx : p = x
    · exact .inl hpx
    · exact .inr (List.contains_iff_mem.mpr (h2 p (hup p hp) hpx hp))
  · rintro ⟨h1, h2⟩
    refine ⟨by simpa using h1, fun p hp hne hu => ?_⟩
    have hm := (val_mem kvs _).mp ((hk (Sum.inl (p : Int))).mpr ⟨p, rfl, hu⟩)
    obtain ⟨kv, hkv, e⟩ := List.mem_map.mp hm
    have h3 : gK x o kv.1 = true := h2 _ (List.mem_map.mpr ⟨kv, hkv, rfl⟩)
    rw [e, gK_nat, Bool.or_eq_true, decide_eq_true_eq] at h3
    rcases h3 with h3 | h3
    · exact absurd h3 hne
    · exact List.contains_iff_mem.mp h3
/-- what stands all the while -/
structure OI (H : Hp) (ps : Par) (n : Nat) (A : Addr) (ds : List Addr) (F : Addr) (as : List Addr) (ff : List (List Nat)) (H' : Hp) : Prop where
  sm : Same H H'
  eA : H' A = some (.lst (ds.map rv))
  ab : AB H' ds ps n
  eF : H' F = some (.lst (as.map rv))
  fz : A2 (FzAt H') as ff
theorem OI.same {H H1 H2 : Hp} {ps : Par} {n : Nat} {A F : Addr} {ds as : List Addr} {ff : List (List Nat)} (x : OI H ps n A ds F as ff H1) (e : Same H1 H2) : OI H ps n A ds F as ff H2 :=
  ⟨x.sm.trans e, e _ _ x.eA, x.ab.imp fun _ _ _ h => h.same e, e _ _ x.eF, x.fz.imp fun _ _ h => h.same e⟩
theorem OI.put {H H1 : Hp} {ps : Par} {n : Nat} {A F L : Addr} {ds as : List Addr} {ff : List (List Nat)} {xs : List V} {o : HO} (x : OI H ps n A ds F as ff H1) (e : H1 L = some (.lst xs)) (nA : A ≠ L) (nF : F ≠ L) (h0 : H L = none) : OI H ps n A ds F as ff (upd H1 L o) :=
  ⟨sNew x.sm h0, by rw [upd_ne nA]; exact x.eA, x.ab.imp fun _ _ _ h => h.upd e, by rw [upd_ne nF]; exact x.eF, x.fz.imp fun _ _ h => h.upd (noT_l e)⟩
theorem size9 {n : Nat} (h : n ≤ 900000) : n < sizeLine := Nat.lt_of_le_of_lt h (by unfold sizeLine; decide)
section
variable {P : Program} {w : World} {K : PySem.W.Frag} {mg : Str → Option Value} {base : Heap}
def spLOrders (K : PySem.W.Frag) : Sp := fun vs H Q _ => ∃ (t : Addr) (ps : Par), vs = [.ref t] ∧ PT K H t ps ∧ Valid ps ∧ ps.length ≤ 7 ∧ ∀ H' F as, Same H H' → H' F = some (.lst (as.map rv)) → A2 (FzAt H') as (ordM (isA ps) ps.length ps.length) → Q (.ref F) H'
theorem scLOrders : FnScope ["_law_parents_here", "_law_above_here", "_law_found", "_law_turn", "_law_longer", "_law_order", "_law_x", "_law_p"] ["_law_parents_here"] (defScope sLOrders) := ⟨rfl, rfl, rfl, by decide +kernel, rfl, by decide +kernel, by decide +kernel⟩
theorem calLOrders (T : Txt K mg) (ca : Cal P w K mg base 1 "_law_above" (spLAbove K) []) (D : DefX K mg "_law_orders" sLOrders) : Cal P w K mg base 2 "_law_orders" (spLOrders K) [] := by
  refine mkCal D scLOrders (fun vs H Q E h => by obtain ⟨t, ps, rfl, _⟩ := h; rfl) (fun _ _ _ _ _ _ us hl => match us, hl with | [_], _ => rfl) (fun f cdv A outer s H vs Q E hr h => ?_)
  obtain ⟨t, ps, rfl, hPT, hv, hlen, k⟩ := h
  refine ⟨_, pss_cons (ps_set (i := 1) scLOrders.nd rfl (Or.inl rfl) (pe_c ca hr (by decide) (by rfl) (pa_cons (pv 0) pa_nil)))
    (pss_cons (ps_set (i := 2) scLOrders.nd rfl (Or.inl rfl) (pe_lst (pa_cons (pe_tupF pa_nil) pa_nil)))
    (pss_cons (ps_for PassesOwn.never rfl (pi_range1 (by rfl) T.range (pa_cons (pe_callB call_len_seq (by rfl) T.len PySem.boot_len (pa_cons (pv 0) pa_nil)) pa_nil)) (pg_name (i := 3) scLOrders.nd rfl (.inl rfl))
      (pss_cons (ps_set (i := 4) scLOrders.nd rfl (Or.inl rfl) (pe_lst pa_nil))
      (pss_cons (ps_for PassesOwn.never rfl (pi_list (pv 2)) (pg_name (i := 5) scLOrders.nd rfl (.inr rfl))
        (pss_one (ps_for PassesOwn.never rfl (pi_range1 (by rfl) T.range (pa_cons (pe_callB call_len_seq (by rfl) T.len PySem.boot_len (pa_cons (pv 0) pa_nil)) pa_nil)) (pg_name (i := 6) scLOrders.nd rfl (.inr rfl))
          (pss_one (ps_if (PW.pt (pw_and (pt_cmpR op_notIn_seq (pv 6) (pv 5) (by with_unfolding_all rfl)) (pw_and1 (pt_val (pe_callB (cr_all rfl) (by rfl) T.all (by decide +kernel) (pa_cons
              (pe_lock (pe_lc (own := [("_law_p", 7)]) (g := gName 7) (tt := tYes) rfl scLOrders.nd (pi_keys (pe_ix ix_list (pv 1) (pv 6) (fun _ _ => rfl))) (blkOk_by (own := [("_law_p", 7)]) (N := ["_law_parents_here", "_law_above_here", "_law_found", "_law_turn", "_law_longer", "_law_order", "_law_x", "_law_p"]) (sc := defScope sLOrders) (by decide +kernel))
                (fun _ _ _ _ _ => pg_name (i := 7) scLOrders.nd rfl (Or.inl rfl)) (fun _ _ _ _ _ => pts_nil)
                (fun _ _ _ _ _ => pe_or (pe_cmpR op_eq (pv 7) (pv 6) (nomark _)) (pe_one (pe_cmpR (inLK K) (pv 7) (pv 5) (by with_unfolding_all rfl)))))) pa_nil))))))
            (pss_one (ps_expr (pe_bm PySem.F.plainAttrs_list PySem.F.slot_list_append PySem.F.type_list_append mt_append (pv 4) (pa_cons (pe_op op_catF (pv 5) (pe_tupF (pa_cons (pv 6) pa_nil))) pa_nil)))) pss_nil)))))
      (pss_one (ps_set (i := 2) scLOrders.nd rfl (Or.inl rfl) (pv 4))))))
    (pss_one (ps_ret (pv 2))))), ?_⟩
  obtain ⟨asP, hS, hNP⟩ := id hPT
  have hlS : (asP.map rv).length = ps.length := by rw [List.length_map, hNP.1]
  refine ⟨_, rfl, t, ps, rfl, hPT, hv, hlen, fun H1 A ds s1 eA ab => ?_⟩
  refine ⟨Nat.zero_le _, fun t0 o0 ht0 ho0 => ⟨by show 1 ≤ sizeLine; decide, fun F0 hF0 => ?_⟩⟩
  have s2 : Same H1 (upd (upd H1 t0 (.frz o0 (.tup []))) F0 (.lst [rv t0])) := by
    have s3 : Same H1 (upd H1 t0 (.frz o0 (.tup []))) := sPut ht0
    exact sNew s3 (s3.free hF0)
  have nF0 : t0 ≠ F0 := fun e => by rw [← e, upd_same] at hF0; cases hF0
  refine ⟨_, rfl, t, _, rfl, .inr (sTup (s1.trans s2) hS), _, rfl, by omega, by omega, ?_⟩
  rw [hlS]
  generalize hn : ps.length = n at *
  refine for_rng (n := n) (fun i σ H' => ∃ (F : Addr) (as : List Addr) (v3 v4 v5 v6 v7 : Option V), σ = [some (.ref t), some (.ref A), some (.ref F), v3, v4, v5, v6, v7] ∧ OI H ps n A ds F as (ordM (isA ps) n i) H') ?_ ?_ ?_
  · refine ⟨F0, [t0], none, none, none, none, none, rfl, s1.trans s2, s2 _ _ eA, ab.imp fun _ _ _ h => h.same s2, upd_same, ?_⟩
    exact A2.snoc (as := []) (ms := []) A2.nil ⟨o0, by rw [upd_ne nF0, upd_same]; rfl, ho0⟩
  · rintro i σ H2 hi ⟨F, as, v3, v4, v5, v6, v7, rfl, oi⟩
    refine ⟨Nat.zero_le _, fun L hL => ?_⟩
    have hL0 : H L = none := oi.sm.free hL
    have nFL : F ≠ L := ne_of_none oi.eF hL
    have nAL : A ≠ L := ne_of_none oi.eA hL
    have hlenF := ordM_len (isA ps) n i
    have hlenF2 := ordM_len (isA ps) n (i + 1)
    have hext : ordM (isA ps) n (i + 1) = (ordM (isA ps) n i).flatMap fun o => ((List.range n).filter (mayC (isA ps) n o)).map fun x => o ++ [x] := rfl
    generalize hgg : (fun o : List Nat => ((List.range n).filter (mayC (isA ps) n o)).map fun x => o ++ [x]) = gg at hext
    rw [hext] at hlenF2 ⊢
    have hol : ∀ o ∈ ordM (isA ps) n i, o.length ≤ 7 := fun o ho => by
      have := (ordM_ok ho).len
      omega
    generalize ordM (isA ps) n i = ff at *
    have p7' := pow7 (n := n) (k := i + 1) hlen (by omega)
    have s3 : Same H2 (upd H2 L (.lst [])) := sPut hL
    refine ⟨_, rfl, F, rfl, ⟨_, SqL.of (s3 _ _ oi.eF)⟩, ?_⟩
    refine for_list (xs := as.map rv) (fun j σ H' => OI H ps n A ds F as ff H' ∧ ∃ (as2 : List Addr) (v3 v5 v6 v7 : Option V), σ = [some (.ref t), some (.ref A), some (.ref F), v3, some (.ref L), v5, v6, v7] ∧ H' L = some (.lst (as2.map rv)) ∧ A2 (FzAt H') as2 ((ff.take j).flatMap gg)) ?_ (fun j σ H' _ h => SqL.of h.1.eF) ?_ ?_
    · exact ⟨oi.same s3, [], _, _, _, _, rfl, upd_same, A2.nil⟩
    · rintro j y σ H3 hj ⟨oi3, as2, v3, v5, v6, v7, rfl, eL, eM⟩
      rw [List.getElem?_map] at hj
      cases hz : as[j]? with
      | none => rw [hz] at hj; cases hj
      | some a =>
        rw [hz] at hj
        cases hj
        have hjl : j < ff.length := by rw [← oi3.fz.1]; exact (List.getElem?_eq_some_iff.mp hz).1
        have hoo := List.getElem?_eq_getElem hjl
        generalize ff[j] = o at hoo
        have ho7 := hol o (List.mem_of_getElem? hoo)
        have tk := take_flat gg ff j
        have tks := take_flat_succ gg hoo
        refine ⟨_, rfl, t, _, rfl, .inr (sTup oi3.sm hS), _, rfl, by omega, by omega, ?_⟩
        rw [hlS]
        refine for_rng (n := n) (fun x σ H' => OI H ps n A ds F as ff H' ∧ ∃ (as3 : List Addr) (v3 v6 v7 : Option V), σ = [some (.ref t), some (.ref A), some (.ref F), v3, some (.ref L), some (.ref a), v6, v7] ∧ H' L = some (.lst (as3.map rv)) ∧ A2 (FzAt H') as3 ((ff.take j).flatMap gg ++ ((List.range x).filter (mayC (isA ps) n o)).map fun x => o ++ [x])) ?_ ?_ ?_
        · refine ⟨oi3, as2, _, _, _, rfl, eL, ?_⟩
          show A2 _ _ (_ ++ [])
          rw [List.append_nil]
          exact eM
        · rintro x σ H4 hx ⟨oi4, as3, v3, v6, v7, rfl, eL4, eM4⟩
          have hta : FzAt H4 a o := oi4.fz.2 j a o hz hoo
          rw [List.range_succ, List.filter_append]
          obtain ⟨d, hd, kvs, ek, hks, hkl⟩ := oi4.ab.at hx
          have hup : ∀ p, isA ps x p = true → p < n := fun p hp => Nat.lt_of_le_of_lt (isA_le hv x p hp).1 hx
          have hmay := mayC_keys (o := o) hks hup
          have hk7 : kvs.length ≤ 823543 := Nat.le_trans hkl (Nat.le_trans (Nat.pow_le_pow_right (by decide) (show x ≤ 7 by omega)) (by decide))
          have neg : ∀ H5, mayC (isA ps) n o x = false → Same H4 H5 → OI H ps n A ds F as ff H5 ∧ ∃ (as3 : List Addr) (v3' v6' v7' : Option V), ([some (.ref t), some (.ref A), some (.ref F), v3, some (.ref L), some (.ref a), v6, v7].set 6 (some (iv x)) : L2.St) = [some (.ref t), some (.ref A), some (.ref F), v3', some (.ref L), some (.ref a), v6', v7'] ∧ H5 L = some (.lst (as3.map rv)) ∧ A2 (FzAt H5) as3 ((ff.take j).flatMap gg ++ ((((List.range x).filter (mayC (isA ps) n o)) ++ [x].filter (mayC (isA ps) n o)).map fun x => o ++ [x])) := by
            intro H5 hm s5
            have e : [x].filter (mayC (isA ps) n o) = [] := by simp [hm]
            rw [e, List.append_nil]
            exact ⟨oi4.same s5, as3, _, _, _, rfl, s5 _ _ eL4, eM4.imp fun _ _ h => h.same s5⟩
          refine ⟨_, rfl, _, rfl, a, _, rfl, .inr hta.nt, rfl, flat_iv o, ?_⟩
          rw [if_pos rfl, inV_nat]
          cases hc : o.contains x with
          | true =>
            refine ⟨false, rfl, iteF ?_⟩
            rw [hc] at hmay
            exact iteF (neg H4 hmay (Same.refl H4))
          | false =>
            rw [hc] at hmay
            refine ⟨true, rfl, iteT ?_⟩
            refine ⟨d, .dK kvs, ek, trivial, fun od => ?_⟩
            have nAd : A ≠ d := fun e => by rw [← e, oi4.eA] at ek; cases ek
            refine ⟨_, rfl, _, rfl, A, _, _, rv d, rfl, rfl, SqL.of (by rw [upd_ne nAd]; exact oi4.eA), atI_nat (by rw [List.getElem?_map, hd]; rfl), d, od, rfl, .inl ⟨kvs, upd_same, fun D1 hD1 => ?_⟩⟩
            have nDd : D1 ≠ d := fun e => by rw [e, upd_same] at hD1; cases hD1
            have hD4 : H4 D1 = none := by rw [upd_ne nDd] at hD1; exact hD1
            have hta2 : NT K (upd (upd H4 d (.frz od (.dK kvs))) D1 (.lst [])) a o := (hta.nt.upd (noT_d ek)).upd (noT_n hD1)
            refine lc_it walk_keys (fun i H' => H' = upd (upd H4 d (.frz od (.dK kvs))) D1 (.lst (((kvs.take i).map fun kv => gK x o kv.1).map V.bl))) rfl (fun i H' _ h => by rw [h, upd_ne (Ne.symm nDd), upd_same]) ?_ ?_
            · rintro i z H' H'' hi rfl ⟨rfl, kk, vv, hkv, rfl⟩
              have hkm : kk ∈ kvs.map (·.1) := List.mem_map.mpr ⟨(kk, vv), List.mem_of_getElem? hkv, rfl⟩
              obtain ⟨p, rfl, hp⟩ := (hks kk).mp ((val_mem kvs kk).mpr hkm)
              have fin : ∀ bb, bb = gK x o (Sum.inl (p : Int)) → ∃ acc, (upd (upd H4 d (.frz od (.dK kvs))) D1 (.lst (((kvs.take i).map fun kv => gK x o kv.1).map V.bl))) D1 = some (.lst acc) ∧ acc.length < sizeLine ∧ upd (upd (upd H4 d (.frz od (.dK kvs))) D1 (.lst (((kvs.take i).map fun kv => gK x o kv.1).map V.bl))) D1 (.lst (acc ++ [V.bl bb])) = upd (upd H4 d (.frz od (.dK kvs))) D1 (.lst (((kvs.take (i + 1)).map fun kv => gK x o kv.1).map V.bl)) := by
                rintro bb rfl
                refine ⟨_, upd_same, ?_, ?_⟩
                · rw [List.length_map, List.length_map, List.length_take]
                  exact size900k (by omega)
                · rw [upd_upd, List.take_add_one, hkv, List.map_append, List.map_append]
                  rfl
              refine ⟨rfl, yes ⟨_, rfl, _, rfl, rfl, _, rfl, ite2 (fun hu => ?_) (fun hu => ?_)⟩⟩
              · refine fin true ?_
                show true = (decide (V.int (p : Int) = V.int (x : Int)) || inV (V.int (p : Int)) (o.map iv))
                rw [show decide (V.int (p : Int) = V.int (x : Int)) = true from hu, Bool.true_or]
              · refine ⟨_, rfl, _, rfl, a, _, rfl, .inr ((hta.nt.upd (noT_d ek)).upd (noT_n hD1)), rfl, flat_iv o, fin _ ?_⟩
                show inV (V.int (p : Int)) (o.map iv) = (decide (V.int (p : Int) = V.int (x : Int)) || inV (V.int (p : Int)) (o.map iv))
                have : decide (V.int (p : Int) = V.int (x : Int)) = false := by
                  cases h : decide (V.int (p : Int) = V.int (x : Int)) with
                  | false => rfl
                  | true => exact absurd h hu
                rw [this, Bool.false_or]
            · rintro H' rfl
              rw [List.take_length]
              refine ⟨by rw [upd_ne (Ne.symm nDd), upd_same], ?_⟩
              have sE : Same H4 (upd (upd (upd H4 d (.frz od (.dK kvs))) D1 (.lst ((kvs.map fun kv => gK x o kv.1).map V.bl))) d (.dK kvs)) := by
                intro b u hb
                by_cases hbd : b = d
                · rw [hbd] at hb ⊢
                  rw [upd_same, ← hb, ek]
                · have hbD : b ≠ D1 := ne_of_none hb hD4
                  rw [upd_ne hbd, upd_ne hbD, upd_ne hbd]
                  exact hb
              refine ⟨D1, _, rfl, SqL.of (by rw [upd_ne nDd, upd_same]), ?_⟩
              rw [Bool.not_false, Bool.true_and] at hmay
              refine ⟨_, rfl, ?_⟩
              rw [← hmay]
              generalize upd (upd (upd H4 d (.frz od (.dK kvs))) D1 (.lst ((kvs.map fun kv => gK x o kv.1).map V.bl))) d (.dK kvs) = H5 at sE ⊢
              refine ite2 (fun hu => ?_) (fun hu => neg H5 (by simpa using hu) sE)
              have e : [x].filter (mayC (isA ps) n o) = [x] := by simp [show mayC (isA ps) n o x = true from hu]
              rw [e, List.map_append, ← List.append_assoc]
              have eL5 := sE _ _ eL4
              have fin : ∀ p H6, Same H5 H6 → FzAt H6 p (o ++ [x]) → ∃ (l : Addr) (xs : List V) (y : V), V.ref L = .ref l ∧ [V.ref p] = [y] ∧ H6 l = some (.lst xs) ∧ xs.length < sizeLine ∧ (OI H ps n A ds F as ff (upd H6 l (.lst (xs ++ [y]))) ∧ ∃ (as3 : List Addr) (v3' v6' v7' : Option V), ([some (.ref t), some (.ref A), some (.ref F), v3, some (.ref L), some (.ref a), v6, v7].set 6 (some (iv x)) : L2.St) = [some (.ref t), some (.ref A), some (.ref F), v3', some (.ref L), some (.ref a), v6', v7'] ∧ (upd H6 l (.lst (xs ++ [y]))) L = some (.lst (as3.map rv)) ∧ A2 (FzAt (upd H6 l (.lst (xs ++ [y])))) as3 (((ff.take j).flatMap gg ++ ((List.range x).filter (mayC (isA ps) n o)).map fun x => o ++ [x]) ++ [x].map fun x => o ++ [x])) := by
                intro p H6 s6 hp
                have s46 := sE.trans s6
                have eL6 := s46 _ _ eL4
                refine ⟨L, _, _, rfl, rfl, eL6, ?_, (oi4.same s46).put eL6 nAL nFL hL0, as3 ++ [p], _, _, _, rfl, by rw [upd_same, List.map_append]; rfl, ?_⟩
                · rw [List.length_map, eM4.1, List.length_append, List.length_map]
                  have h1 : ((List.range x).filter (mayC (isA ps) n o)).length ≤ x := Nat.le_trans (List.length_filter_le _ _) (by rw [List.length_range]; exact Nat.le_refl x)
                  exact size9 (by omega)
                · exact ((eM4.imp fun _ _ h => h.same s46).snoc hp).imp fun _ _ h => h.upd (noT_l eL6)
              refine ⟨_, rfl, .inl ⟨rfl, _, SqL.of eL5⟩, _, rfl, _, rfl, by show 1 ≤ sizeLine; decide, fun t2 o2 ht2 ho2 => ?_⟩
              have s6 : Same H5 (upd H5 t2 (.frz o2 (.tup [iv x]))) := sPut ht2
              refine ⟨a, t2, _, _, rfl, rfl, ((hta.same sE).same s6).nt, .inl (.inr ⟨o2, upd_same⟩), ?_, by simp, fun e => ?_, fun _ p op hp hop => ?_⟩
              · rw [List.length_map, List.length_singleton]
                exact Nat.le_of_lt (size1000 (by omega))
              · obtain rfl : o = [] := by
                  cases o with
                  | nil => rfl
                  | cons _ _ => cases e
                exact fin t2 _ s6 ⟨o2, upd_same, ho2⟩
              · exact fin p _ (s6.trans (sPut hp)) ⟨op, by rw [upd_same, List.map_append]; rfl, hop⟩
        · rintro σ H4 ⟨oi4, as3, v3, v6, v7, rfl, eL4, eM4⟩
          have eG : ((List.range n).filter (mayC (isA ps) n o)).map (fun x => o ++ [x]) = gg o := by rw [← hgg]
          rw [eG, ← tks] at eM4
          exact ⟨oi4, as3, _, _, _, _, rfl, eL4, eM4⟩
    · rintro σ H3 ⟨oi3, as2, v3, v5, v6, v7, rfl, eL, eM⟩
      rw [List.length_map, oi3.fz.1, List.take_length] at eM
      exact ⟨_, rfl, L, as2, _, _, _, _, _, rfl, oi3.sm, oi3.eA, oi3.ab, eL, eM⟩
  · rintro σ H2 ⟨F, as, v3, v4, v5, v6, v7, rfl, oi⟩
    exact ⟨_, rfl, k H2 F as oi.sm oi.eF oi.fz⟩
end
end K32
set_option Elab.async false
set_option linter.all false
set_option maxRecDepth 100000
set_option maxHeartbeats 4000000
namespace K32
open PySem PySem.Spec L2 C8
theorem tupIxK {X : Cx} (K : PySem.W.Frag) (hK : X.K = K := by rfl) : MtR X "tuple.index" (rTupIx K) := by
  rw [← hK]
  exact mt_tupIx
theorem idx_first {o : List Nat} {q m : Nat} (hn : o.Nodup) (h : m < o.idxOf q) : o[m]? ≠ some q := fun e => by
  obtain ⟨hm, e⟩ := List.getElem?_eq_some_iff.mp e
  have hq : q ∈ o := e ▸ List.getElem_mem hm
  have h2 := List.getElem_idxOf (List.idxOf_lt_length_of_mem hq)
  have := (List.getElem_inj hn).mp (e.trans h2.symm)
  omega
section
variable {P : Program} {w : World} {K : PySem.W.Frag} {mg : Str → Option Value} {base : Heap}
def spLIsInt : Sp := fun vs H Q _ => ∃ i : Int, vs = [.int i] ∧ Q (.bl true) H
theorem scLIsInt : FnScope ["_law_thing"] ["_law_thing"] (defScope sLIsInt) := ⟨rfl, rfl, rfl, by decide +kernel, rfl, by decide +kernel, by decide +kernel⟩
theorem calLIsInt (T : Txt K mg) (D : DefX K mg "_law_is_int" sLIsInt) : Cal P w K mg base 1 "_law_is_int" spLIsInt [] := by
  refine mkCal D scLIsInt (fun vs H Q E h => by obtain ⟨i, rfl, _⟩ := h; rfl) (fun _ _ _ _ _ _ us hl => match us, hl with | [_], _ => rfl) (fun f cdv A outer s H vs Q E hr h => ?_)
  obtain ⟨i, rfl, q⟩ := h
  refine ⟨_, pss_one (ps_ret (pe_and (pe_callB call_isi (by rfl) T.isinstance (by decide +kernel) (pa_cons (pv 0) (pa_cons (pe_ty "int" (by rfl) T.int (by decide +kernel)) pa_nil)))
    (pe_one (pe_not (pe_callB call_isi (by rfl) T.isinstance (by decide +kernel) (pa_cons (pv 0) (pa_cons (pe_ty "bool" (by rfl) T.bool (by decide +kernel)) pa_nil))))))), ?_⟩
  refine ⟨_, rfl, _, _, _, _, true, rfl, .ty "int", .base (.int i), kIsInt, true, rfl, ?_⟩
  exact iteT ⟨_, rfl, _, _, _, _, false, rfl, .ty "bool", .base (.int i), kIsBool, false, rfl, q⟩
def spLMoved (K : PySem.W.Frag) : Sp := fun vs H Q _ => ∃ (t a : Addr) (ps : Par) (o : List Nat), vs = [.ref t, .ref a] ∧ PT K H t ps ∧ Valid ps ∧ ps.length ≤ 400 ∧ FzAt H a o ∧ OrdK (isA ps) ps.length ps.length o ∧ ∀ H' t', Same H H' → PT K H' t' (movedM ps o) → Q (.ref t') H'
theorem scLMoved : FnScope ["_law_parents_here", "_law_order", "_law_found", "_law_kind", "_law_parent"] ["_law_parents_here", "_law_order"] (defScope sLMoved) := ⟨rfl, rfl, rfl, by decide +kernel, rfl, by decide +kernel, by decide +kernel⟩
theorem calLMoved (T : Txt K mg) (D : DefX K mg "_law_moved" sLMoved) : Cal P w K mg base 1 "_law_moved" (spLMoved K) [] := by
  refine mkCal D scLMoved (fun vs H Q E h => by obtain ⟨t, a, ps, o, rfl, _⟩ := h; rfl) (fun _ _ _ _ _ _ us hl => match us, hl with | [_, _], _ => rfl) (fun f cdv A outer s H vs Q E hr h => ?_)
  obtain ⟨t, a, ps, o, rfl, ⟨as0, hS, hN⟩, hv, hlen, hfz, ho, k⟩ := h
  refine ⟨_, pss_cons (ps_set (i := 2) scLMoved.nd rfl (Or.inl rfl) (pe_lst pa_nil))
    (pss_cons (ps_for PassesOwn.never rfl (pi_tup (pv 1)) (pg_name (i := 3) scLMoved.nd rfl (.inl rfl))
      (pss_one (ps_expr (pe_bm PySem.F.plainAttrs_list PySem.F.slot_list_append PySem.F.type_list_append mt_append (pv 2) (pa_cons
        (pe_callTy call_tuple_of (by rfl) T.tuple (by decide +kernel) (pa_cons (pe_callB cr_sorted (by rfl) T.sorted (by decide +kernel) (pa_cons
          (pe_lc (own := [("_law_parent", 4)]) (g := gName 4) (tt := tYes) rfl scLMoved.nd (pi_tup (pe_ix ix_tup (pv 0) (pv 3) (fun _ _ => rfl))) (blkOk_by (own := [("_law_parent", 4)]) (N := ["_law_parents_here", "_law_order", "_law_found", "_law_kind", "_law_parent"]) (sc := defScope sLMoved) (by decide +kernel))
            (fun _ _ _ _ _ => pg_name (i := 4) scLMoved.nd rfl (Or.inl rfl)) (fun _ _ _ _ _ => pts_nil)
            (fun _ _ _ _ _ => pe_mG ty_TF PySem.F.plainAttrs_tuple PySem.F.slot_tuple_index PySem.F.type_tuple_index (tupIxK K) (pv 1) (pa_cons (pv 4) pa_nil))) pa_nil)) pa_nil)) pa_nil)))))
    (pss_one (ps_ret (pe_callTy call_tuple_of (by rfl) T.tuple (by decide +kernel) (pa_cons (pv 2) pa_nil))))), ?_⟩
  have hol := ho.len
  have hidx : ∀ q, q ∈ o → o[o.idxOf q]? = some q := fun q hq => by
    rw [List.getElem?_eq_getElem (List.idxOf_lt_length_of_mem hq), List.getElem_idxOf]
  refine ⟨Nat.zero_le _, fun F hF => ?_⟩
  have s1 : Same H (upd H F (.lst [])) := sPut hF
  refine ⟨_, rfl, a, rfl, ⟨_, (hfz.same s1).nt⟩, ?_⟩
  refine for_tup (xs := o.map iv) (fun i σ H' => Same H H' ∧ ∃ as : List Addr, H' F = some (.lst (as.map rv)) ∧ Nts K H' as ((movedM ps o).take i) ∧ ∃ v3 v4 : Option V, σ = [some (.ref t), some (.ref a), some (.ref F), v3, v4]) ⟨s1, [], upd_same, Nts.nil, _, _, rfl⟩ (fun i σ H' _ h => (hfz.same h.1).nt) ?_ ?_
  · rintro i y σ H1 hi ⟨sm, as, eF, eN, v3, v4, rfl⟩
    rw [List.getElem?_map] at hi
    cases hx : o[i]? with
    | none => rw [hx] at hi; cases hi
    | some x =>
      rw [hx] at hi
      cases hi
      have hil : i < o.length := (List.getElem?_eq_some_iff.mp hx).1
      have hxn : x < ps.length := ho.lt x (List.mem_of_getElem? hx)
      have hpl := List.getElem?_eq_getElem hxn
      generalize ps[x] = l at hpl
      obtain ⟨m1, m2, m3⟩ := moved_item hv ho hx hpl
      have mat := movedM_at hx hpl
      have m6 := (hv x l hpl).2
      generalize hm : sortN (l.map fun q => o.idxOf q) = m at m2 m3 mat
      obtain ⟨b, hb, hNb⟩ := hN.at hpl
      refine ⟨_, rfl, .inl ⟨rfl, _, SqL.of eF⟩, _, rfl, _, rfl, t, _, _, rv b, rfl, rfl, sTup sm hS, atI_nat (by rw [List.getElem?_map, hb]; rfl), b, rfl, ⟨_, sTup sm hNb⟩, fun D2 hD2 => ?_⟩
      have hD20 : H D2 = none := sm.free hD2
      have nFD : F ≠ D2 := ne_of_none eF hD2
      refine lc_tup (xs := l.map iv) (fun j H3 => Same H H3 ∧ H3 F = some (.lst (as.map rv)) ∧ Nts K H3 as ((movedM ps o).take i) ∧ H3 D2 = some (.lst ((l.take j).map fun q => iv (o.idxOf q)))) ?_ (fun j H3 _ h => sTup h.1 hNb) ?_ ?_
      · exact ⟨sNew sm hD20, by rw [upd_ne nFD]; exact eF, eN.upd (noT_n hD2), upd_same⟩
      · rintro j y H3 hj ⟨sm3, eF3, eN3, eL3⟩
        rw [List.getElem?_map] at hj
        cases hq : l[j]? with
        | none => rw [hq] at hj; cases hj
        | some q =>
          rw [hq] at hj
          cases hj
          have hqo : q ∈ o := List.mem_of_mem_take (m1 q (List.mem_of_getElem? hq))
          have hfz3 := hfz.same sm3
          refine ⟨rfl, yes ⟨_, rfl, ⟨a, _, rfl, hfz3⟩, _, rfl, a, o.map (fun n : Nat => (n : Int)), q, o.idxOf q, rfl, rfl, by rw [← iv_map]; exact hfz3.nt, by rw [List.getElem?_map, hidx q hqo]; rfl, fun m hm e => ?_, _, eL3, ?_, ?_⟩⟩
          · rw [List.getElem?_map] at e
            cases hz : o[m]? with
            | none => rw [hz] at e; cases e
            | some z =>
              rw [hz] at e
              have : z = q := Int.ofNat_inj.mp (Option.some.inj e)
              exact idx_first ho.nd hm (this ▸ hz)
          · rw [List.length_map, List.length_take]
            exact size1000 (by omega)
          · refine ⟨sNew sm3 hD20, by rw [upd_ne nFD]; exact eF3, eN3.upd (noT_l eL3), ?_⟩
            rw [upd_same, List.take_add_one, hq, List.map_append]
            rfl
      · rintro H3 ⟨sm3, eF3, eN3, eL3⟩
        rw [List.length_map, List.take_length] at eL3
        refine ⟨D2, (l.map fun q => o.idxOf q).map (fun n : Nat => (n : Int)), rfl, SqL.of (by rw [eL3, List.map_map, List.map_map]; rfl), by rw [List.length_map, List.length_map]; omega, fun ns' p perm le hp => ?_⟩
        obtain rfl := sortI perm le
        rw [hm]
        refine ⟨p, _, rfl, .inl ⟨SqL.of upd_same, fun T3 hT3 => ?_⟩⟩
        have s4 : Same H3 (upd (upd H3 p (.lst ((m.map fun n : Nat => (n : Int)).map V.int))) T3 (.tup ((m.map fun n : Nat => (n : Int)).map V.int))) := by
          have z : Same H3 (upd H3 p (.lst ((m.map fun n : Nat => (n : Int)).map V.int))) := sPut hp
          exact sNew z (z.free hT3)
        have hm3 : NT K (upd (upd H3 p (.lst ((m.map fun n : Nat => (n : Int)).map V.int))) T3 (.tup ((m.map fun n : Nat => (n : Int)).map V.int))) T3 m := .inl (.inl (by rw [upd_same, iv_map]))
        have eF4 := s4 _ _ eF3
        refine ⟨F, _, _, rfl, rfl, eF4, ?_, sNew (sm3.trans s4) hF, as ++ [T3], by rw [upd_same, List.map_append]; rfl, ?_, _, _, rfl⟩
        · rw [List.length_map, eN.1, List.length_take]
          exact size1000 (by omega)
        · rw [List.take_add_one, mat]
          exact (((eN3.same s4).snoc hm3)).upd (noT_l eF4)
  · rintro σ H' ⟨sm, as, eF, eN, v3, v4, rfl⟩
    have hml : (movedM ps o).length = o.length := movedM_length ps o
    rw [List.length_map, ← hml, List.take_length] at eN
    refine ⟨_, rfl, F, _, rfl, .inl ⟨SqL.of eF, fun T3 hT3 => ?_⟩⟩
    exact k _ T3 (sNew sm (sm.free hT3)) ⟨as, .inl (.inl upd_same), eN.upd (noT_n hT3)⟩
end
end K32
set_option Elab.async false
set_option linter.all false
set_option maxRecDepth 100000
set_option maxHeartbeats 4000000
namespace K32
open PySem PySem.Spec L2 C8
/-- the law's own groups -/
structure GD (H : Hp) (L B F : Addr) (la : List Addr) (lots : List (List Nat)) (lasts fnd : List Nat) (H' : Hp) : Prop where
  sm : Same H H'
  nL : H L = none
  nB : H B = none
  nF : H F = none
  nla : ∀ c ∈ la, H c = none
  LB : L ≠ B
  LF : L ≠ F
  BF : B ≠ F
  Lla : L ∉ la
  Bla : B ∉ la
  Fla : F ∉ la
  nd : la.Nodup
  hL : H' L = some (.lst (la.map rv))
  ll : LL H' la lots
  hB : H' B = some (.lst (lasts.map iv))
  hF : H' F = some (.lst (fnd.map iv))
section
variable {H H' H2 : Hp} {L B F : Addr} {la : List Addr} {lots : List (List Nat)} {lasts fnd : List Nat}
theorem GD.same (x : GD H L B F la lots lasts fnd H') (e : Same H' H2) : GD H L B F la lots lasts fnd H2 :=
  ⟨x.sm.trans e, x.nL, x.nB, x.nF, x.nla, x.LB, x.LF, x.BF, x.Lla, x.Bla, x.Fla, x.nd, e _ _ x.hL, x.ll.same e, e _ _ x.hB, e _ _ x.hF⟩
theorem GD.addLot (x : GD H L B F la lots lasts fnd H') {a : Addr} (n : H' a = none) : GD H L B F (la ++ [a]) (lots ++ [[]]) lasts fnd (upd (upd H' a (.lst [])) L (.lst (la.map rv ++ [rv a]))) := by
  have aL : a ≠ L := ne_none n (by rw [x.hL]; exact Option.some_ne_none _)
  have aB : a ≠ B := ne_none n (by rw [x.hB]; exact Option.some_ne_none _)
  have aF : a ≠ F := ne_none n (by rw [x.hF]; exact Option.some_ne_none _)
  have a1 := x.ll.nmem n
  have n0 := x.sm.free n
  have key : LL (upd (upd H' a (.lst [])) L (.lst (la.map rv ++ [rv a]))) la lots := (x.ll.out a1).out x.Lla
  refine ⟨sIn (sIn x.sm n0) x.nL, x.nL, x.nB, x.nF, fun c hc => ?_, x.LB, x.LF, x.BF, ?_, ?_, ?_, nodup_snoc x.nd a1, ?_, key.snoc (l := []) ?_, ?_, ?_⟩
  · rcases List.mem_append.mp hc with h | h
    · exact x.nla c h
    · rw [List.mem_singleton.mp h]; exact n0
  · simp [x.Lla, Ne.symm aL]
  · simp [x.Bla, Ne.symm aB]
  · simp [x.Fla, Ne.symm aF]
  · rw [upd_same, List.map_append]; rfl
  · rw [upd_ne aL, upd_same]; rfl
  · rw [upd_ne (Ne.symm x.LB), upd_ne (Ne.symm aB)]; exact x.hB
  · rw [upd_ne (Ne.symm x.LF), upd_ne (Ne.symm aF)]; exact x.hF
theorem GD.setLot (x : GD H L B F la lots lasts fnd H') {i : Nat} {a : Addr} {l' : List Nat} (h : la[i]? = some a) : GD H L B F la (lots.set i l') lasts fnd (upd H' a (.lst (l'.map iv))) := by
  have m := List.mem_of_getElem? h
  have La : L ≠ a := fun e => x.Lla (e ▸ m)
  have Ba : B ≠ a := fun e => x.Bla (e ▸ m)
  have Fa : F ≠ a := fun e => x.Fla (e ▸ m)
  exact ⟨sIn x.sm (x.nla a m), x.nL, x.nB, x.nF, x.nla, x.LB, x.LF, x.BF, x.Lla, x.Bla, x.Fla, x.nd, by rw [upd_ne La]; exact x.hL, x.ll.put x.nd h, by rw [upd_ne Ba]; exact x.hB, by rw [upd_ne Fa]; exact x.hF⟩
theorem GD.repl (x : GD H L B F la lots lasts fnd H') {i : Nat} {a : Addr} {l' : List Nat} (e : H' a = some (.lst (l'.map iv))) (n0 : H a = none) (aL : a ≠ L) (aB : a ≠ B) (aF : a ≠ F) (a1 : a ∉ la) :
    GD H L B F (la.set i a) (lots.set i l') lasts fnd (upd H' L (.lst ((la.set i a).map rv))) := by
  have mem : ∀ c ∈ la.set i a, c = a ∨ c ∈ la := fun c hc => (List.mem_or_eq_of_mem_set hc).elim .inr .inl
  have Ls : L ∉ la.set i a := fun m => (mem L m).elim (fun h => aL h.symm) x.Lla
  refine ⟨sIn x.sm x.nL, x.nL, x.nB, x.nF, fun c hc => ?_, x.LB, x.LF, x.BF, Ls, fun m => (mem B m).elim (fun h => aB h.symm) x.Bla, fun m => (mem F m).elim (fun h => aF h.symm) x.Fla, nodup_set x.nd a1, upd_same, (x.ll.repl e).out Ls, by rw [upd_ne (Ne.symm x.LB)]; exact x.hB, by rw [upd_ne (Ne.symm x.LF)]; exact x.hF⟩
  rcases mem c hc with rfl | h
  · exact n0
  · exact x.nla c h
theorem GD.setB (x : GD H L B F la lots lasts fnd H') (l' : List Nat) : GD H L B F la lots l' fnd (upd H' B (.lst (l'.map iv))) :=
  ⟨sIn x.sm x.nB, x.nL, x.nB, x.nF, x.nla, x.LB, x.LF, x.BF, x.Lla, x.Bla, x.Fla, x.nd, by rw [upd_ne x.LB]; exact x.hL, x.ll.out x.Bla, upd_same, by rw [upd_ne (Ne.symm x.BF)]; exact x.hF⟩
theorem GD.setF (x : GD H L B F la lots lasts fnd H') (l' : List Nat) : GD H L B F la lots lasts l' (upd H' F (.lst (l'.map iv))) :=
  ⟨sIn x.sm x.nF, x.nL, x.nB, x.nF, x.nla, x.LB, x.LF, x.BF, x.Lla, x.Bla, x.Fla, x.nd, by rw [upd_ne x.LF]; exact x.hL, x.ll.out x.Fla, by rw [upd_ne x.BF]; exact x.hB, upd_same⟩
end
theorem sort_min {l : List Nat} {s : Nat} {r : List Nat} (h : sortN l = s :: r) : l.min? = some s := by
  rw [List.min?_eq_some_iff]
  have hp := sortN_perm l
  have hle := sortN_le l
  rw [h] at hp hle
  refine ⟨hp.mem_iff.mp (by simp), fun b hb => ?_⟩
  rcases List.mem_cons.mp (hp.mem_iff.mpr hb) with rfl | hb
  · exact Nat.le_refl _
  · exact (List.pairwise_cons.mp hle).1 b hb
section
variable {P : Program} {w : World} {K : PySem.W.Frag} {mg : Str → Option Value} {base : Heap}
def spLGroups (K : PySem.W.Frag) : Sp := fun vs H Q _ => ∃ (t : Addr) (ps : Par), vs = [.ref t] ∧ PT K H t ps ∧ Valid ps ∧ ps.length ≤ 7 ∧ ∀ H' t', Same H H' → NT K H' t' (slotsM (isA ps) ps.length) → Q (.ref t') H'
theorem scLGroups : FnScope ["_law_parents_here", "_law_above_here", "_law_lots", "_law_lasts", "_law_found", "_law_x", "_law_number", "_law_slot", "_law_fitting", "_law_rest", "_law_one"] ["_law_parents_here"] (defScope sLGroupsDone) := ⟨rfl, rfl, rfl, by decide +kernel, rfl, by decide +kernel, by decide +kernel⟩
theorem calLGroups (T : Txt K mg) (ca : Cal P w K mg base 1 "_law_above" (spLAbove K) []) (D : DefX K mg "_law_groups_done" sLGroupsDone) : Cal P w K mg base 2 "_law_groups_done" (spLGroups K) [] := by
  refine mkCal D scLGroups (fun vs H Q E h => by obtain ⟨t, ps, rfl, _⟩ := h; rfl) (fun _ _ _ _ _ _ us hl => match us, hl with | [_], _ => rfl) (fun f cdv A outer s H vs Q E hr h => ?_)
  obtain ⟨t, ps, rfl, hPT, hv, hlen, k⟩ := h
  refine ⟨_, pss_cons (ps_set (i := 1) scLGroups.nd rfl (Or.inr rfl) (pe_c ca hr (by decide) (by rfl) (pa_cons (pv 0) pa_nil)))
    (pss_cons (ps_set (i := 2) scLGroups.nd rfl (Or.inl rfl) (pe_lst pa_nil))
    (pss_cons (ps_set (i := 3) scLGroups.nd rfl (Or.inr rfl) (pe_lst pa_nil))
    (pss_cons (ps_set (i := 4) scLGroups.nd rfl (Or.inl rfl) (pe_lst pa_nil))
    (pss_cons (ps_for PassesOwn.never rfl (pi_range1 (by rfl) T.range (pa_cons (pe_callB call_len_seq (by rfl) T.len PySem.boot_len (pa_cons (pv 0) pa_nil)) pa_nil)) (pg_name (i := 5) scLGroups.nd rfl (.inr rfl))
      (pss_cons (ps_set (i := 6) scLGroups.nd rfl (Or.inl rfl) pe_int)
      (pss_cons (ps_set (i := 7) scLGroups.nd rfl (Or.inr rfl) pe_non)
      (pss_cut (ps_while PassesOwn.never (pt_cmp (pc_isN (pv 7)))
        (pss_cut (ps_if (pt_cmpR op_eq (pv 6) (pe_callB call_len_seq (by rfl) T.len PySem.boot_len (pa_cons (pv 2) pa_nil)) (nomark _))
            (pss_one (ps_expr (pe_bm PySem.F.plainAttrs_list PySem.F.slot_list_append PySem.F.type_list_append mt_append (pv 2) (pa_cons (pe_lst pa_nil) pa_nil)))) pss_nil)
        (pss_cons (ps_set (i := 8) scLGroups.nd rfl (Or.inl rfl) (pe_callB cr_sorted (by rfl) T.sorted (by decide +kernel) (pa_cons
            (pe_lc (own := [("_law_one", 10)]) (g := gName 10) rfl scLGroups.nd (pi_list (pe_ix ix_list (pv 2) (pv 6) (fun _ _ => rfl))) (blkOk_by (own := [("_law_one", 10)]) (N := ["_law_parents_here", "_law_above_here", "_law_lots", "_law_lasts", "_law_found", "_law_x", "_law_number", "_law_slot", "_law_fitting", "_law_rest", "_law_one"]) (sc := defScope sLGroupsDone) (by decide +kernel))
              (fun _ _ _ _ _ => pg_name (i := 10) scLGroups.nd rfl (Or.inl rfl)) (fun _ _ _ _ _ => by exact pts_one (pt_cmp (pc_din (hu_of hr) (pe_ix (ixLK K) (pv 3) (pv 10) (fun _ _ => rfl)) (pe_ix (ixLK K) (pv 1) (pv 5) (fun _ _ => rfl))))) (fun _ _ _ _ _ => pv 10)) pa_nil)))
        (pss_one (ps_if (pt_cmpR op_gt (pe_callB call_len_seq (by rfl) T.len PySem.boot_len (pa_cons (pv 8) pa_nil)) pe_int (nomark _))
            (pss_one (ps_set (i := 7) scLGroups.nd rfl (Or.inr rfl) (pe_ix ix_list (pv 8) pe_int (fun _ _ => rfl))))
          (pss_one (ps_if (pt_cmpR op_le (pe_callB call_len_seq (by rfl) T.len PySem.boot_len (pa_cons (pe_ix ix_list (pv 2) (pv 6) (fun _ _ => rfl)) pa_nil)) (pv 6) (nomark _))
            (pss_cons (ps_set (i := 7) scLGroups.nd rfl (Or.inr rfl) (pe_callB call_len_seq (by rfl) T.len PySem.boot_len (pa_cons (pv 3) pa_nil)))
            (pss_cons (ps_expr (pe_bm PySem.F.plainAttrs_list PySem.F.slot_list_append PySem.F.type_list_append mt_append (pv 3) (pa_cons (pv 5) pa_nil)))
            (pss_one (ps_expr (pe_bm PySem.F.plainAttrs_list PySem.F.slot_list_append PySem.F.type_list_append mt_append (pe_ix ix_list (pv 2) (pv 6) (fun _ _ => rfl)) (pa_cons (pv 7) pa_nil))))))
            (pss_one (ps_set (i := 6) scLGroups.nd rfl (Or.inl rfl) (pe_op op_add (pv 6) pe_int))))))))))
      (pss_cons (ps_asg (pv 5) (pg_sub (pv 3) (pv 7) set_list))
      (pss_cons (ps_expr (pe_bm PySem.F.plainAttrs_list PySem.F.slot_list_append PySem.F.type_list_append mt_append (pv 4) (pa_cons (pv 7) pa_nil)))
      (pss_one (ps_if (pt_cmpR op_gt (pv 6) pe_int (nomark _))
        (pss_cons (ps_setLc (i := 9) (own := [("_law_one", 10)]) (g := gName 10) rfl scLGroups.nd rfl rfl (sw_true rfl rfl rfl (by decide +kernel)) (pi_list (pe_ix ix_list (pv 2) (pv 6) (fun _ _ => rfl)))
          (blkOk_by (own := [("_law_one", 10)]) (N := ["_law_parents_here", "_law_above_here", "_law_lots", "_law_lasts", "_law_found", "_law_x", "_law_number", "_law_slot", "_law_fitting", "_law_rest", "_law_one"]) (sc := defScope sLGroupsDone) (by decide +kernel))
          (fun _ _ _ _ _ => pg_name (i := 10) scLGroups.nd rfl (Or.inl rfl)) (fun _ _ _ _ _ => by exact pts_one (pt_cmpR op_ne (pv 10) (pv 7) (nomark _))) (fun _ _ _ _ _ => pv 10))
        (pss_cons (ps_asg (pe_op op_cat (pe_ix ix_list (pv 2) (pe_op op_sub (pv 6) pe_int) (fun _ _ => rfl)) (pe_lst (pa_cons (pv 7) pa_nil))) (pg_sub (pv 2) (pv 6) set_list))
        (pss_one (ps_asg (pv 9) (pg_sub (pv 2) (pe_op op_sub (pv 6) pe_int) set_list))))) pss_nil))))))))
    (pss_one (ps_ret (pe_callTy call_tuple_of (by rfl) T.tuple (by decide +kernel) (pa_cons (pv 4) pa_nil)))))))), ?_⟩
  obtain ⟨asP, hS, hNP⟩ := id hPT
  have hlS : (asP.map rv).length = ps.length := by rw [List.length_map, hNP.1]
  refine ⟨_, rfl, t, ps, rfl, hPT, hv, hlen, fun H1 A ds s1 eA ab => ?_⟩
  refine ⟨Nat.zero_le _, fun L hL => ⟨Nat.zero_le _, fun B hB => ⟨Nat.zero_le _, fun F hF => ?_⟩⟩⟩
  have nLB : L ≠ B := ne_of_none upd_same hB
  have hB1 : H1 B = none := by rw [upd_ne (Ne.symm nLB)] at hB; exact hB
  have nBF : B ≠ F := ne_of_none upd_same hF
  have hF1 := hF
  rw [upd_ne (Ne.symm nBF)] at hF1
  have nLF : L ≠ F := ne_of_none upd_same hF1
  rw [upd_ne (Ne.symm nLF)] at hF1
  have g0 : GD H1 L B F [] [] [] [] (upd (upd (upd H1 L (.lst [])) B (.lst [])) F (.lst [])) :=
    ⟨sNew (sNew (sPut hL) hB1) hF1, hL, hB1, hF1, by simp, nLB, nLF, nBF, by simp, by simp, by simp, List.nodup_nil, by rw [upd_ne nLF, upd_ne nLB, upd_same]; rfl, ⟨rfl, by simp⟩, by rw [upd_ne nBF, upd_same]; rfl, by rw [upd_same]; rfl⟩
  refine ⟨_, rfl, t, _, rfl, .inr (sTup (s1.trans g0.sm) hS), _, rfl, by omega, by omega, ?_⟩
  rw [hlS]
  refine for_rng (n := ps.length) (fun i σ H' => ∃ (la : List Addr) (v5 v6 v7 v8 v9 v10 : Option V), σ = [some (.ref t), some (.ref A), some (.ref L), some (.ref B), some (.ref F), v5, v6, v7, v8, v9, v10] ∧ GD H1 L B F la (runM (isA ps) i).1.lots (runM (isA ps) i).1.lasts (runM (isA ps) i).2 H') ?_ ?_ ?_
  · exact ⟨[], none, none, none, none, none, none, rfl, g0⟩
  · rintro x σ H2 hx ⟨la, v5, v6, v7, v8, v9, v10, rfl, gd⟩
    have hR := runM_inv (isA ps) x
    have hrun : runM (isA ps) (x + 1) = ((putM (isA ps x) x (runM (isA ps) x).1).2, (runM (isA ps) x).2 ++ [(putM (isA ps x) x (runM (isA ps) x).1).1]) := rfl
    have hfl : (runM (isA ps) x).2.length = x := slotsM_length (isA ps) x
    rw [hrun]
    generalize (runM (isA ps) x).2 = fnd at *
    generalize (runM (isA ps) x).1 = st at *
    have hput : putM (isA ps x) x st = putM (isA ps x) x st := rfl
    conv at hput => rhs; unfold putM
    obtain ⟨dA, hdA, dAt⟩ := ab.at hx
    obtain ⟨kvs, ek, hks, hkl⟩ := dAt
    have hbit : ∀ z : Nat, (valV kvs (Sum.inl (z : Int))).isSome = isA ps x z := fun z => by
      rw [Bool.eq_iff_iff, hks]
      constructor
      · rintro ⟨p, e, hp⟩
        obtain rfl : z = p := Int.ofNat_inj.mp (Sum.inl.inj e)
        exact hp
      · exact fun h => ⟨z, rfl, h⟩
    have hmany := hR.many
    have hlas := hR.las
    refine ⟨fun σ H' => ∃ (g s : Nat) (la2 : List Addr) (lots2 : List (List Nat)) (lasts2 : List Nat) (v8 v9 v10 : Option V), σ = [some (.ref t), some (.ref A), some (.ref L), some (.ref B), some (.ref F), some (iv x), some (iv g), some (iv s), v8, v9, v10] ∧ GD H1 L B F la2 lots2 lasts2 fnd H' ∧ s < lasts2.length ∧ g < lots2.length ∧ lots2.length ≤ 900 ∧
      (∀ l ∈ lots2, l.length ≤ 900) ∧ (putM (isA ps x) x st).1 = s ∧ (putM (isA ps x) x st).2.lots = shiftM g s lots2 ∧ (putM (isA ps x) x st).2.lasts = lasts2.set s x, ?_, ?_⟩
    · generalize hMid : (fun (σ : L2.St) (H' : Hp) => ∃ (g s : Nat) (la2 : List Addr) (lots2 : List (List Nat)) (lasts2 : List Nat) (v8 v9 v10 : Option V), σ = [some (.ref t), some (.ref A), some (.ref L), some (.ref B), some (.ref F), some (iv x), some (iv g), some (iv s), v8, v9, v10] ∧ GD H1 L B F la2 lots2 lasts2 fnd H' ∧ s < lasts2.length ∧ g < lots2.length ∧ lots2.length ≤ 900 ∧
        (∀ l ∈ lots2, l.length ≤ 900) ∧ (putM (isA ps x) x st).1 = s ∧ (putM (isA ps x) x st).2.lots = shiftM g s lots2 ∧ (putM (isA ps x) x st).2.lasts = lasts2.set s x) = Mid
      refine ⟨fun m σ H' => (∃ (g : Nat) (la : List Addr) (v8 v9 v10 : Option V), σ = [some (.ref t), some (.ref A), some (.ref L), some (.ref B), some (.ref F), some (iv x), some (iv g), some .non, v8, v9, v10] ∧ GD H1 L B F la st.lots st.lasts fnd H' ∧ takeG (isA ps x) st.lasts 0 st.lots = takeG (isA ps x) st.lasts g (st.lots.drop g) ∧ g ≤ st.lots.length ∧ m = st.lots.length + 1 - g) ∨ (Mid σ H' ∧ m = 0),
        ⟨_, .inl ⟨0, la, _, _, _, rfl, gd, rfl, Nat.zero_le _, rfl⟩⟩, ?_⟩
      rintro m σ H3 (⟨g, la, v8, v9, v10, rfl, gd, eT, hg, rfl⟩ | ⟨hmid, rfl⟩)
      · refine ⟨_, rfl, true, rfl, iteT ⟨_, fun _ _ h => h, ?_⟩⟩
        obtain ⟨gl1, gl2⟩ := grow_length hg
        refine ⟨fun σ H' => σ = [some (.ref t), some (.ref A), some (.ref L), some (.ref B), some (.ref F), some (iv x), some (iv g), some .non, v8, v9, v10] ∧ ∃ la', GD H1 L B F la' (grow g st.lots) st.lasts fnd H', ?_, ?_⟩
        · refine ⟨_, rfl, _, rfl, L, _, rfl, .inl (SqL.of gd.hL), rfl, _, rfl, ite2 (fun hc => ?_) (fun hc => ?_)⟩
          · have hgn : g = st.lots.length := by
              have := V.int.inj (of_decide_eq_true hc)
              rw [List.length_map, gd.ll.1] at this
              omega
            refine ⟨_, rfl, .inl ⟨rfl, _, SqL.of gd.hL⟩, Nat.zero_le _, fun a hna => ?_⟩
            have aL : L ≠ a := ne_of_none gd.hL hna
            refine ⟨L, _, _, rfl, rfl, by rw [upd_ne aL]; exact gd.hL, ?_, rfl, ?_⟩
            · rw [List.length_map, gd.ll.1]
              exact size1000 (by omega)
            · unfold grow
              rw [if_pos hgn]
              exact ⟨_, gd.addLot hna⟩
          · refine ⟨rfl, ?_⟩
            have hgn : g ≠ st.lots.length := fun e => hc (by
              rw [List.length_map, gd.ll.1, e]
              exact decide_eq_true rfl)
            unfold grow
            rw [if_neg hgn]
            exact ⟨_, gd⟩
        rintro σ H4 ⟨rfl, la', gd4⟩
        have hgd := getD_at gl1
        have hgb := grow_lot (g := g) (n := 2 * x) (m := st.lasts.length) hR.lot
        have hrow := hgb _ (List.mem_of_getElem? hgd)
        obtain ⟨c, c1, c2, c3⟩ := gd4.ll.at hgd
        generalize hl : (grow g st.lots).getD g [] = l at *
        have hgl : ∀ l0, st.lots[g]? = some l0 → grow g st.lots = st.lots ∧ l = l0 := fun l0 h => by
          have hlt : g < st.lots.length := (List.getElem?_eq_some_iff.mp h).1
          have e : grow g st.lots = st.lots := by
            unfold grow
            rw [if_neg (by omega)]
          refine ⟨e, ?_⟩
          rw [e, h] at hgd
          exact (Option.some.inj hgd).symm
        have hend : g = st.lots.length → l = [] := fun e => by
          have e2 : grow g st.lots = st.lots ++ [[]] := by
            unfold grow
            rw [if_pos e]
          rw [e2, e, List.getElem?_append_right (Nat.le_refl _), Nat.sub_self] at hgd
          exact (Option.some.inj hgd).symm
        have eA4 := gd4.sm _ _ eA
        have ek4 := gd4.sm _ _ ek
        refine ⟨_, rfl, _, rfl, L, _, _, rv c, rfl, rfl, SqL.of gd4.hL, atI_nat (by rw [List.getElem?_map, c1]; rfl), c, rfl, ⟨_, SqL.of c3⟩, fun D1 hD1 => ?_⟩
        have ne : ∀ {b : Addr} {o : HO}, H4 b = some o → b ≠ D1 := fun {b o} h => ne_of_none h hD1
        refine lc_list (xs := l.map iv) (fun i H' => H' = upd H4 D1 (.lst ((fitL (isA ps x) st.lasts (l.take i)).map iv))) rfl (fun i H' _ h => by rw [h]; exact SqL.of (by rw [upd_ne (ne c3)]; exact c3)) ?_ ?_
        · rintro i y H' hi rfl
          rw [List.getElem?_map] at hi
          cases hz : l[i]? with
          | none => rw [hz] at hi; cases hi
          | some sl =>
            rw [hz] at hi
            cases hi
            have hsl := hrow.2 sl (List.mem_of_getElem? hz)
            have hlz : st.lasts[sl]? = some (st.lasts.getD sl 0) := by
              rw [List.getD_eq_getElem?_getD, List.getElem?_eq_getElem hsl]
              rfl
            refine ⟨rfl, _, rfl, _, rfl, B, _, _, iv (st.lasts.getD sl 0), rfl, rfl, SqL.of (by rw [upd_ne (ne gd4.hB)]; exact gd4.hB), atI_nat (by rw [List.getElem?_map, hlz]; rfl), _, rfl, _, rfl, A, _, _, rv dA, rfl, rfl, SqL.of (by rw [upd_ne (ne eA4)]; exact eA4), atI_nat (by rw [List.getElem?_map, hdA]; rfl), dA, _, rfl, DGet.k (k := Sum.inl ((st.lasts.getD sl 0 : Nat) : Int)) (by rw [upd_ne (ne ek4)]; exact ek4), _, rfl, ?_⟩
            rw [hbit]
            have e := fit_snoc (isA ps x) st.lasts (l.take i) sl
            have e' : fitL (isA ps x) st.lasts (l.take (i + 1)) = fitL (isA ps x) st.lasts (l.take i) ++ if isA ps x (st.lasts.getD sl 0) = true then [sl] else [] := by
              rw [List.take_add_one, hz]
              exact e
            refine ite2 (fun hu => ?_) (fun hu => ?_)
            · refine ⟨_, rfl, _, upd_same, ?_, ?_⟩
              · rw [List.length_map]
                exact size1000 (Nat.le_trans (List.length_filter_le _ _) (by rw [List.length_take]; omega))
              · rw [e', if_pos hu, upd_upd, List.map_append]
                rfl
            · rw [e', if_neg hu, List.append_nil]
        · rintro H' rfl
          rw [List.length_map, List.take_length]
          have hfl14 : (fitL (isA ps x) st.lasts l).length < 64 := Nat.lt_of_le_of_lt (List.length_filter_le _ _) (by omega)
          refine ⟨D1, (fitL (isA ps x) st.lasts l).map (fun n : Nat => (n : Int)), rfl, SqL.of (by rw [upd_same, iv_map]), by rw [List.length_map]; exact hfl14, fun ns' p perm le hp => ?_⟩
          obtain rfl := sortI perm le
          have s5 : Same H4 (upd (upd H4 D1 (.lst ((fitL (isA ps x) st.lasts l).map iv))) p (.lst (((sortN (fitL (isA ps x) st.lasts l)).map fun n : Nat => (n : Int)).map V.int))) := by
            have z : Same H4 (upd H4 D1 (.lst ((fitL (isA ps x) st.lasts l).map iv))) := sPut hD1
            exact sNew z (z.free hp)
          have ep : (upd (upd H4 D1 (.lst ((fitL (isA ps x) st.lasts l).map iv))) p (.lst (((sortN (fitL (isA ps x) st.lasts l)).map fun n : Nat => (n : Int)).map V.int))) p = some (.lst (((sortN (fitL (isA ps x) st.lasts l)).map fun n : Nat => (n : Int)).map V.int)) := upd_same
          generalize upd (upd H4 D1 (.lst ((fitL (isA ps x) st.lasts l).map iv))) p (.lst (((sortN (fitL (isA ps x) st.lasts l)).map fun n : Nat => (n : Int)).map V.int)) = H5 at s5 ep ⊢
          have gd5 := gd4.same s5
          have c35 := s5 _ _ c3
          cases hsn : sortN (fitL (isA ps x) st.lasts l) with
          | cons s0 r =>
            rw [hsn] at ep
            have hmin := sort_min hsn
            have hs0 : s0 ∈ l := (List.mem_filter.mp (min_mem hmin).1).1
            have hs0l := hrow.2 s0 hs0
            have hne : g ≠ st.lots.length := fun e => by rw [hend e] at hs0; cases hs0
            have hlt : g < st.lots.length := by omega
            obtain ⟨e1, e2⟩ := hgl _ (List.getElem?_eq_getElem hlt)
            have hstep := takeG_step (up := isA ps x) (lasts := st.lasts) (List.getElem?_eq_getElem hlt)
            rw [← e2, hmin, ← eT] at hstep
            rw [hstep] at hput
            have hsome : putM (isA ps x) x st = (s0, ⟨shiftM g s0 st.lots, st.lasts.set s0 x⟩) := hput
            refine ⟨_, rfl, p, _, rfl, .inl (SqL.of ep), _, _, rfl, rfl, true, blT ?_, iteT ?_⟩
            · rw [List.length_map, List.length_map, List.length_cons]
              omega
            refine ⟨_, rfl, p, _, 0, iv s0, rfl, rfl, SqL.of ep, atI_nat (j := 0) rfl, 0, by omega, .inr ⟨?_, rfl⟩⟩
            rw [← hMid]
            refine ⟨g, s0, la', st.lots, st.lasts, _, _, _, rfl, by rw [e1] at gd5; exact gd5, hs0l, hlt, by omega, fun l hl => ?_, by rw [hsome], by rw [hsome], by rw [hsome]⟩
            have := (hR.lot l hl).1
            omega
          | nil =>
            rw [hsn] at ep
            have hfn : fitL (isA ps x) st.lasts l = [] := by
              have := (sortN_perm (fitL (isA ps x) st.lasts l)).length_eq
              rw [hsn] at this
              exact List.eq_nil_of_length_eq_zero this.symm
            refine ⟨_, rfl, p, _, rfl, .inl (SqL.of ep), _, _, rfl, rfl, false, blF (by simp), iteF ?_⟩
            refine ⟨_, rfl, _, rfl, L, _, _, rv c, rfl, rfl, SqL.of gd5.hL, atI_nat (by rw [List.getElem?_map, c1]; rfl), c, _, rfl, .inl (SqL.of c35), _, rfl, _, _, rfl, rfl, _, rfl, ite2 (fun hc => ?_) (fun hc => ?_)⟩
            · have hlg : l.length ≤ g := by
                have := of_decide_eq_true hc
                rw [List.length_map] at this
                omega
              have hnone : takeG (isA ps x) st.lasts 0 st.lots = (g, none) := by
                rw [eT]
                by_cases hlt : g < st.lots.length
                · obtain ⟨e1, e2⟩ := hgl _ (List.getElem?_eq_getElem hlt)
                  rw [takeG_step (List.getElem?_eq_getElem hlt), ← e2, hfn]
                  exact if_pos hlg
                · have : g = st.lots.length := by omega
                  rw [this]
                  exact takeG_end
              rw [hnone] at hput
              have hnew : putM (isA ps x) x st = (st.lasts.length, ⟨shiftM g st.lasts.length ((grow g st.lots).set g ((grow g st.lots).getD g [] ++ [st.lasts.length])), st.lasts ++ [x]⟩) := hput
              rw [hl] at hnew
              have eB : (st.lasts.map iv).length = st.lasts.length := List.length_map ..
              refine ⟨_, rfl, B, _, rfl, .inl (SqL.of gd5.hB), ?_⟩
              refine ⟨_, rfl, .inl ⟨rfl, _, SqL.of gd5.hB⟩, _, rfl, B, _, _, rfl, rfl, gd5.hB, by rw [eB]; exact size1000 (by omega), ?_⟩
              have gd6 : GD H1 L B F la' (grow g st.lots) (st.lasts ++ [x]) fnd (upd H5 B (.lst (st.lasts.map iv ++ [iv x]))) := by
                have z := gd5.setB (st.lasts ++ [x])
                rw [List.map_append] at z
                exact z
              have c36 := gd6.ll.2 g c l c1 hgd
              refine ⟨_, rfl, _, rfl, L, _, _, rv c, rfl, rfl, SqL.of gd6.hL, atI_nat (by rw [List.getElem?_map, c1]; rfl), .inl ⟨rfl, _, SqL.of c36⟩, _, rfl, c, _, _, rfl, rfl, c36, by rw [List.length_map]; exact size1000 (by omega), 0, by omega, .inr ⟨?_, rfl⟩⟩
              rw [← hMid]
              have gd7 : GD H1 L B F la' ((grow g st.lots).set g (l ++ [st.lasts.length])) (st.lasts ++ [x]) fnd (upd (upd H5 B (.lst (st.lasts.map iv ++ [iv x]))) c (.lst (l.map iv ++ [iv st.lasts.length]))) := by
                have z := gd6.setLot (l' := l ++ [st.lasts.length]) c1
                rw [List.map_append] at z
                exact z
              refine ⟨g, st.lasts.length, la', (grow g st.lots).set g (l ++ [st.lasts.length]), st.lasts ++ [x], _, _, _, by rw [eB]; rfl, by rw [eB]; exact gd7, by simp, by rw [List.length_set]; exact gl1, by rw [List.length_set]; omega, fun l2 hl2 => ?_, by rw [hnew], by rw [hnew], ?_⟩
              · rcases set_mem hl2 with rfl | hl2
                · rw [List.length_append, List.length_singleton]
                  omega
                · have := (hgb l2 hl2).1
                  omega
              · rw [hnew, List.set_append_right _ _ (Nat.le_refl _), Nat.sub_self]
                rfl
            · have hlg : ¬ l.length ≤ g := fun h => hc (by
                rw [decide_eq_true_eq, List.length_map]
                omega)
              have hlt : g < st.lots.length := by
                rcases Nat.lt_or_ge g st.lots.length with h | h
                · exact h
                · have : l = [] := hend (by omega)
                  rw [this] at hlg
                  exact absurd (Nat.zero_le _) hlg
              obtain ⟨e1, e2⟩ := hgl _ (List.getElem?_eq_getElem hlt)
              have hstep := takeG_step (up := isA ps x) (lasts := st.lasts) (List.getElem?_eq_getElem hlt)
              rw [← e2, hfn] at hstep
              have hstep2 : takeG (isA ps x) st.lasts g (st.lots.drop g) = takeG (isA ps x) st.lasts (g + 1) (st.lots.drop (g + 1)) := hstep.trans (if_neg hlg)
              rw [e1] at gd5
              exact ⟨_, rfl, _, _, rfl, rfl, st.lots.length + 1 - (g + 1), by omega, .inl ⟨g + 1, la', _, _, _, rfl, gd5, eT.trans hstep2, by omega, rfl⟩⟩
      · have hm2 := hmid
        rw [← hMid] at hm2
        obtain ⟨g, s, la2, lots2, lasts2, v8, v9, v10, rfl, rest⟩ := hm2
        exact ⟨_, rfl, false, rfl, iteF hmid⟩
    rintro σ H3 ⟨g, s, la2, lots2, lasts2, v8, v9, v10, rfl, gd3, hs, hg, hl9, hr9, p1, p2, p3⟩
    refine ⟨_, rfl, _, rfl, _, rfl, B, _, s, s, rfl, rfl, gd3.hB, ixnn (by rw [List.length_map]; exact hs), ?_⟩
    have gd4 : GD H1 L B F la2 lots2 (lasts2.set s x) fnd (upd H3 B (.lst ((lasts2.map iv).set s (iv x)))) := by
      have z := gd3.setB (lasts2.set s x)
      rw [List.map_set] at z
      exact z
    refine ⟨_, rfl, .inl ⟨rfl, _, SqL.of gd4.hF⟩, _, rfl, F, _, _, rfl, rfl, gd4.hF, by rw [List.length_map, hfl]; exact size1000 (by omega), ?_⟩
    have gd5 : GD H1 L B F la2 lots2 (lasts2.set s x) (fnd ++ [s]) (upd (upd H3 B (.lst ((lasts2.map iv).set s (iv x)))) F (.lst (fnd.map iv ++ [iv s]))) := by
      have z := gd4.setF (fnd ++ [s])
      rw [List.map_append] at z
      exact z
    rw [p1, p3, p2]
    generalize upd (upd H3 B (.lst ((lasts2.map iv).set s (iv x)))) F (.lst (fnd.map iv ++ [iv s])) = H4 at gd5 ⊢
    refine ⟨_, rfl, _, _, rfl, rfl, _, rfl, ite2 (fun hc => ?_) (fun hc => ?_)⟩
    · have hg0 : 0 < g := by
        have := of_decide_eq_true hc
        omega
      have hgd := getD_at hg
      have hgd1 := getD_at (l := lots2) (i := g - 1) (by omega)
      have sh : shiftM g s lots2 = (lots2.set g (lots2.getD (g - 1) [] ++ [s])).set (g - 1) ((lots2.getD g []).filter fun z => decide (z ≠ s)) := by
        unfold shiftM
        rw [if_pos hg0]
      rw [sh]
      have b0 := hr9 _ (List.mem_of_getElem? hgd)
      have b1 := hr9 _ (List.mem_of_getElem? hgd1)
      generalize lots2.getD g [] = l0 at hgd b0 ⊢
      generalize lots2.getD (g - 1) [] = l1 at hgd1 b1 ⊢
      obtain ⟨d, d1, d2, d3⟩ := gd5.ll.at hgd
      obtain ⟨e, e1, e2, e3⟩ := gd5.ll.at hgd1
      have ei : (g : Int) - 1 = ((g - 1 : Nat) : Int) := by omega
      refine ⟨_, rfl, _, rfl, L, _, _, rv d, rfl, rfl, SqL.of gd5.hL, atI_nat (by rw [List.getElem?_map, d1]; rfl), d, rfl, ⟨_, SqL.of d3⟩, fun N hN => ?_⟩
      refine lc_list (xs := l0.map iv) (fun i H' => H' = upd H4 N (.lst (((l0.take i).filter fun z => decide (z ≠ s)).map iv))) rfl (fun i H' _ h => by rw [h]; exact SqL.of (by rw [upd_ne (ne_of_none d3 hN)]; exact d3)) ?_ ?_
      · rintro i y H' hi rfl
        rw [List.getElem?_map] at hi
        cases hz : l0[i]? with
        | none => rw [hz] at hi; cases hi
        | some z =>
          rw [hz] at hi
          cases hi
          refine ⟨rfl, _, rfl, _, rfl, rfl, _, rfl, ?_⟩
          have e : (l0.take (i + 1)).filter (fun z => decide (z ≠ s)) = ((l0.take i).filter fun z => decide (z ≠ s)) ++ if z = s then [] else [z] := by
            rw [List.take_add_one, hz, List.filter_append]
            congr 1
            by_cases h : z = s <;> simp [h]
          refine ite2 (fun hq => ?_) (fun hq => ?_)
          · have hzs : z ≠ s := fun h => by
              rw [h, decide_eq_true rfl] at hq
              cases hq
            refine ⟨_, rfl, _, upd_same, ?_, ?_⟩
            · rw [List.length_map]
              exact size1000 (Nat.le_trans (List.length_filter_le _ _) (by rw [List.length_take]; omega))
            · rw [e, if_neg hzs, List.map_append, upd_upd]
              rfl
          · have hzs : z = s := by
              cases hd : decide (iv z = iv s) with
              | true => exact Int.ofNat_inj.mp (V.int.inj (of_decide_eq_true hd))
              | false => rw [hd] at hq; exact absurd rfl hq
            rw [e, if_pos hzs, List.append_nil]
      · rintro H' rfl
        rw [List.length_map, List.take_length]
        generalize (l0.filter fun z => decide (z ≠ s)) = less
        have gd6 := gd5.same (H2 := upd H4 N (.lst (less.map iv))) (sPut hN)
        have nNL : L ≠ N := ne_of_none gd5.hL hN
        have nNB : B ≠ N := ne_of_none gd5.hB hN
        have nNF : F ≠ N := ne_of_none gd5.hF hN
        have nN1 := gd5.ll.nmem hN
        have n0N := gd5.sm.free hN
        refine ⟨_, rfl, _, rfl, _, _, rfl, rfl, L, _, _, rv e, rfl, rfl, SqL.of gd6.hL, by rw [ei]; exact atI_nat (by rw [List.getElem?_map, e1]; rfl), _, rfl, by show 1 ≤ sizeLine; decide, fun M hM => ?_⟩
        have gd7 := gd6.same (H2 := upd (upd H4 N (.lst (less.map iv))) M (.lst [iv s])) (sPut hM)
        have hN5 : (upd H4 N (.lst (less.map iv))) N = some (.lst (less.map iv)) := upd_same
        have nNM : N ≠ M := ne_of_none hN5 hM
        obtain ⟨e', e1', e2', e3'⟩ := gd7.ll.at hgd1
        obtain rfl : e' = e := Option.some.inj (e1'.symm.trans e1)
        refine ⟨e', M, _, _, rfl, rfl, e3', upd_same, ?_, fun p hp => ?_⟩
        · rw [List.length_map, List.length_singleton]
          exact Nat.le_of_lt (size1000 (by omega))
        have hN6 : (upd (upd H4 N (.lst (less.map iv))) M (.lst [iv s])) N = some (.lst (less.map iv)) := by rw [upd_ne nNM]; exact upd_same
        have nNp : N ≠ p := ne_of_none hN6 hp
        have gd8 := gd7.same (H2 := upd (upd (upd H4 N (.lst (less.map iv))) M (.lst [iv s])) p (.lst (l1.map iv ++ [iv s]))) (sPut hp)
        have gd9 := gd8.repl (i := g) (a := p) (l' := l1 ++ [s]) (by rw [upd_same, List.map_append]; rfl) (gd7.sm.free hp) (Ne.symm (ne_of_none gd7.hL hp)) (Ne.symm (ne_of_none gd7.hB hp)) (Ne.symm (ne_of_none gd7.hF hp)) (gd7.ll.nmem hp)
        refine ⟨_, rfl, _, rfl, L, _, g, g, rfl, rfl, gd8.hL, ixnn (by rw [List.length_map, gd5.ll.1]; exact hg), ?_⟩
        have em : (la2.map rv).set g (V.ref p) = (la2.set g p).map rv := by rw [List.map_set]
        rw [em]
        have Nla : N ∉ la2.set g p := fun m => by
          rcases set_mem m with h | h
          · exact nNp h
          · exact nN1 h
        have hN7 : (upd (upd (upd (upd H4 N (.lst (less.map iv))) M (.lst [iv s])) p (.lst (l1.map iv ++ [iv s]))) L (.lst ((la2.set g p).map rv))) N = some (.lst (less.map iv)) := by
          rw [upd_ne (Ne.symm nNL), upd_ne nNp]
          exact hN6
        have gd10 := gd9.repl (i := g - 1) (a := N) (l' := less) hN7 n0N (Ne.symm nNL) (Ne.symm nNB) (Ne.symm nNF) Nla
        refine ⟨_, rfl, _, rfl, _, rfl, _, _, rfl, rfl, L, (la2.set g p).map rv, (g : Int) - 1, g - 1, rfl, rfl, gd9.hL, ?_, ?_⟩
        · rw [ei]
          refine ixnn ?_
          rw [List.length_map, List.length_set, gd5.ll.1]
          omega
        have em2 : ((la2.set g p).map rv).set (g - 1) (V.ref N) = ((la2.set g p).set (g - 1) N).map rv := (List.map_set (f := rv)).symm
        rw [← em2] at gd10
        exact ⟨_, _, _, _, _, _, _, rfl, gd10⟩
    · have hg0 : ¬ 0 < g := fun h => hc (by
        rw [decide_eq_true_eq]
        omega)
      have sh : shiftM g s lots2 = lots2 := by
        unfold shiftM
        rw [if_neg hg0]
      rw [sh]
      exact ⟨_, _, _, _, _, _, _, rfl, gd5⟩
  · rintro σ H' ⟨la, v5, v6, v7, v8, v9, v10, rfl, gd⟩
    refine ⟨_, rfl, F, _, rfl, .inl ⟨SqL.of gd.hF, fun t2 ht2 => ?_⟩⟩
    exact k _ t2 (s1.trans (sNew gd.sm (gd.sm.free ht2))) (.inl (.inl upd_same))
end
end K32
set_option Elab.async false
set_option linter.all false
set_option maxRecDepth 100000
set_option maxHeartbeats 4000000
namespace K32
open PySem PySem.W PySem.Calls PyProof.Rows PySem.HandSPX
/-- what the written part says of TooMany, at C: its __init__ at fI (its code at cda, the cell of __class__ at cc) -/
structure TooTxt (P : Program) (K : Frag) (C fI cc cda : Addr) : Prop where
  cls : ∃ nm q N bs bm sn sub ab col dd k0 k1 k2 k3 k5, K.lookup C = some (excClassObj nm q C N bs bm true sn sub ab col dd k0 k1 k2 k3 k5 "ValueError.__new__") ∧ refsVE bm = true
  sup : ks_superIn K C C "__init__" = some (some (.builtin "ValueError.__init__"))
  sa : findIn K (.ref C) "__setattr__" = some (some (.builtin "object.__setattr__"))
  ga : findIn K (.ref C) "__getattribute__" = some (some (.builtin "BaseException.__getattribute__"))
  gg : findIn K (.ref C) "__getattr__" = some none
  noN : findIn K (.ref C) "most" = some none
  iC : findIn K (.ref C) "__init__" = some (some (.ref fI))
  tC : typeIn K (.ref fI) = some (.type "function")
  kC : keepIn K (.ref C) = true
  exC : subIn K (.ref C) (.type "BaseException") = some true
  veC : subIn K (.ref C) (.type "ValueError") = some true
  self : mroIn K C (.ref C) = some true
  tyC : typeIn K (.ref C) = some (.type "type")
  hdC : hasDictIn K C = true
  te : exmOne K (.ref C) (.ref C) = some true
  fn : ∃ (oc : Value) (od : Option Addr) (kV doc pm : Value) (an : Option Addr) (ct : Value) (osl : Array (Option Value)), K.lookup fI = some ⟨oc, od, .func (ksFn "__init__" "TooMany.__init__" (L2.defArgs sTooInit) (L2.defBody sTooInit) (L2.defScope sTooInit) .none kV doc pm an (.ref cda) ct cc), osl⟩
  code : codeIn K (.ref cda) "TooMany.__init__" = true
  file : ∃ (ccl : Value) (cdd : Option Addr) (vs : Array Value) (ccs : Array (Option Value)) (file : Str) (tf : Tok), K.lookup cda = some ⟨ccl, cdd, .fields vs, ccs⟩ ∧ vs[2]? = some (.str file tf) ∧ ((P.main.file : Str) == file) = true
  top : (P.main.scope.names.lookup ("super" : Str)).isSome = false
  cell : ∃ (cl : Value) (cld : Option Addr) (csl : Array (Option Value)), K.lookup cc = some ⟨cl, cld, .cell (some (.ref C)), csl⟩
  stat : nsIn K cStatics "thirdparty.any" = some none
section
variable {prog : Program} {w : World} {A : Around} {E : Value → Shared → Prop} {h : Heap} {g : Array GenState} {d : Drawn} {t : Nat} {os : OsState}
variable {nm q : Str} {C N : Addr} {bs bm : List Value} {hdct : Bool} {sn : List Str} {sub : List Value} {ab : Bool} {col : Option Bool} {dd : Option Addr} {k0 k1 k2 k3 k5 : Option Value}
/-- the wrapper of ValueError.__init__, called -/
theorem call_wrap {u e t0 : Addr} {rest : List Value} {Q : Value → Shared → Prop} (hC : h.get? C = some (excClassObj nm q C N bs bm hdct sn sub ab col dd k0 k1 k2 k3 k5 "ValueError.__new__")) (he : h.get? e = some (PySem.HandSPX.excO C t0))
    (hu : h.get? u = some (kxs_mw "ValueError.__init__" e)) (hrest : rest.length ≤ sizeLine)
    (hq : ∀ h' t1, (∀ b o, b ≠ e → h.get? b = some o → h'.get? b = some o) → h'.get? e = some (PySem.HandSPX.excO C t1) → Q .none ⟨h', g, d, t, os⟩) : wpAny (model prog w) A (call (.ref u) rest) Q E ⟨h, g, d, t, os⟩ := by
  refine wpAny_call (codeAny_of_tree ?_)
  show wpAny _ A.in1 (callAny (.ref u) ⟨rest, []⟩) _ _ _
  simp only [callAny]
  refine wpAny_bind (wpAny_load hu ?_)
  simp only [kxs_mw, show (Value.type "method-wrapper" == Value.type "method" || Value.type "method-wrapper" == Value.type "builtin_function_or_method" || Value.type "method-wrapper" == Value.type "method-wrapper") = true by decide, if_true]
  refine KFB.if_so (by decide) ?_
  refine wpAny_bind (check_bound_init F.excBase_ValueError.toExcCallFacts hC he rfl ?_)
  refine wpAny_bind (wpAny_pure (wpAny_pure ?_))
  refine ⟨plainId_quiet F.excBase_ValueError.init.plain _, codeAny_builtin F.excBase_ValueError.initEntry ?_⟩
  exact exc_init_tree (cls := .ref C) (t0 := t0) (dv := none) (c2 := .none) (c3 := .none) (b4 := .bool false) he hrest fun h' k e' _ => hq h' _ k e'
end
/-- what __init__ leaves of a fresh exception at x -/
structure TooEnd (h h' : Heap) (x C dx t1 : Addr) (v : Value) : Prop where
  keep : ∀ b o, b ≠ x → h.get? b = some o → h'.get? b = some o
  obj : h'.get? x = some { cls := .ref C, dict := some dx, data := .fields #[.ref t1, .none, .none, .none, .bool false, .none] }
  dbig : h.objs.size ≤ dx
  dne : dx ≠ x
  ns : h'.Ns1 dx (fun y => if y = "most" then some v else none)
section
variable {P : Program} {w : World} {A : Around} {R : Result → Shared → Prop} {s : Shared} {K : Frag} {mg mb : Str → Option Value} {C fI cc cda : Addr}
theorem too_init (T : TooTxt P K C fI cc cda) {x t0 : Addr} {v : Value} (X : K.In s.heap) (G : s.heap.Ns mainGlobals mg) (hm : mg "super" = none) (B : s.heap.Ns builtinsNs mb) (hb : mb "super" = some (.type "super")) (hlim : s.heap.NoLimit)
    (hx : s.heap.get? x = some (PySem.HandSPX.excO C t0)) (hnx : K.lookup x = none) (hroom : A.depth < recursionLimit)
    (hq : ∀ h' tk dx t1, TooEnd s.heap h' x C dx t1 v → R (.ok (.ret .none)) { s with heap := h', toks := tk }) : codeAny (model P w) A (.call (.ref fI) ⟨[.ref x, v], []⟩) R s := by
  obtain ⟨oc, od, kV, doc, pm, an, ct, osl, ho⟩ := T.fn
  obtain ⟨nm, q, N, bs, bm, sn, sub, ab, col, dd, k0, k1, k2, k3, k5, hC, hbm⟩ := T.cls
  obtain ⟨ccl, cdd, vs, ccs, file, tf, hcode, hvs, hfile⟩ := T.file
  obtain ⟨cl, cld, csl, hcell⟩ := T.cell
  have hcl : clsIn K C = some { name := nm, bases := bs, mro := .ref C :: bm, ns := N, qualname := q, hasDict := true, slotNames := sn, subclasses := sub, abstract := ab, collection := col, hasDel := false } := by unfold clsIn; rw [hC] <;> rfl
  refine ks_codeAny_call_defAt (fd := ksFn "__init__" "TooMany.__init__" (L2.defArgs sTooInit) (L2.defBody sTooInit) (L2.defScope sTooInit) .none kV doc pm an (.ref cda) ct cc) (body := L2.defBody sTooInit) (binds := [("self", .ref x), ("most", v)]) hroom (X _ _ ho) rfl hlim (codeRec_of X T.code) rfl
    (BindsTo.of_eq (by first | rfl | with_unfolding_all rfl)) (show ∀ x ∈ (L2.defScope sTooInit).names, x.2 ≠ .cell from by decide +kernel) (fun y hy => ?_) (fun h₁ hns k => ?_) rfl rfl rfl
  · rcases List.mem_cons.mp hy with rfl | hy
    · show (L2.defScope sTooInit).names.lookup ("self" : Str) = some .local
      decide +kernel
    · obtain rfl := List.mem_singleton.mp hy
      show (L2.defScope sTooInit).names.lookup ("most" : Str) = some .local
      decide +kernel
  obtain ⟨hp, g, d, tk, os⟩ := s
  have X₁ : K.In h₁ := X.keeps k
  have hx₁ := k _ _ hx
  have hxL : hp.objs.size ≠ x := Nat.ne_of_gt (Heap.lt_size hx)
  have G₁ : h₁.Ns mainGlobals mg := G.keeps k
  have B₁ : h₁.Ns builtinsNs mb := B.keeps k
  have hC₁ := X₁ _ _ hC
  refine ks_wpAt_execs_cons (ks_wpAt_Expr_any (ks_wpAt_MethodCall (h := ?_) (he := by rfl)))
  refine ks_wpAt_super_base (f := fI) (cc := cda) (show (L2.defScope sTooInit).names.lookup ("super" : Str) = some .globalImplicit from by decide +kernel) (show (L2.defScope sTooInit).names.lookup ("__class__" : Str) = some .free from by decide +kernel) (by decide +kernel) rfl (X₁ _ _ ho) rfl rfl rfl (X₁ _ _ hcode) rfl hvs hfile T.top ?_
  refine ks_loadName_global rfl (show (L2.defScope sTooInit).names.lookup ("super" : Str) = some .globalImplicit from by decide +kernel) (Calls.loadGlobal_builtin G₁ hm B₁ hb ⟨rfl, ?_⟩)
  refine wpAny_loadName_free rfl (show (L2.defScope sTooInit).names.lookup ("__class__" : Str) = some .free from by decide +kernel) (c := cc) (v := .ref C) rfl ⟨_, X₁ _ _ hcell, rfl⟩ ?_
  refine wpAny_loadName_local (v := .ref x) rfl (show (L2.defScope sTooInit).names.lookup ("self" : Str) = some .local from by decide +kernel) hns (by first | rfl | with_unfolding_all rfl | kernel_rfl) ?_
  refine ks_wpAny_isType_cls hC₁ rfl ⟨rfl, ?_⟩
  refine ks_wpAny_call_super hC₁ rfl hx₁ rfl (fun c e => by cases e) (looks_mroIn X₁ T.self) (fun h₂ hso k₂ => ?_)
  have X₂ : K.In h₂ := X₁.keeps k₂
  have hx₂ := k₂ _ _ hx₁
  have J₂ : InstAt h₂ x (PySem.HandSPX.excO C t0) C none := ⟨hx₂, rfl, rfl, trivial⟩
  have hsup := T.sup
  unfold ks_superIn at hsup
  rw [hcl] at hsup
  refine kxs_getMethod kxs_ValueError (D := C) (x := x) (C := C) (l₀ := .ref C :: bm) hso (looks_opaque X₂ T.stat) (fun A Q E s k q => wpAny_bind ((looks_clsIn X₂ hcl) A _ E s k (wpAny_pure q))) rfl X₂ hsup (J₂.type.andThen (looks_subIn X₂ T.veC)) (ks_ne X₂ J₂ hcl) (by decide +kernel) ?_
  have k₃ : ∀ b o, h₂.get? b = some o → (h₂.push (kxs_mw "ValueError.__init__" x)).get? b = some o := fun b o e => Heap.get?_push_of_some _ e
  have hu : (h₂.push (kxs_mw "ValueError.__init__" x)).get? h₂.objs.size = some (kxs_mw "ValueError.__init__" x) := Heap.get?_push_at rfl rfl
  generalize h₂.push (kxs_mw "ValueError.__init__" x) = h₃ at k₃ hu ⊢
  refine kxs_callWith (i := "ValueError.__init__") (x := x) rfl (evalArgs_plain (args_cons (Calls.Constant_str (args_nil ⟨hu, ?_⟩)) rfl))
  have X₃ : K.In h₃ := X₂.keeps k₃
  have hx₃ := k₃ _ _ hx₂
  refine call_wrap (X₃ _ _ hC) hx₃ hu (by show 1 ≤ sizeLine; decide) (fun h₄ t1 k₄ hx₄ => ?_)
  refine wpAt_of_wpAny ?_
  have X₄ : K.In h₄ := fun a o e => k₄ a o (fun z => by rw [z, hnx] at e; cases e) (X₃ a o e)
  have n₄ : h₄.Ns hp.objs.size (fun y => ([("self", Value.ref x), ("most", v)] : List (Str × Value)).reverse.lookup y) := (hns.keeps fun b o e => k₃ b o (k₂ b o e)).at fun o e => k₄ _ _ hxL e
  refine wpAny_execs_cons (plainObj_wpAny_Assign_Attribute ?_)
  refine wpAny_Name (wpAny_loadName_local (v := v) rfl (show (L2.defScope sTooInit).names.lookup ("most" : Str) = some .local from by decide +kernel) n₄ (by first | rfl | with_unfolding_all rfl | kernel_rfl) ?_) (by decide)
  refine wpAny_Name (wpAny_loadName_local (v := .ref x) rfl (show (L2.defScope sTooInit).names.lookup ("self" : Str) = some .local from by decide +kernel) n₄ (by first | rfl | with_unfolding_all rfl | kernel_rfl) ?_) (by decide)
  refine set_plain X₄ (ox := PySem.HandSPX.excO C t1) (od := none) ⟨hx₄, rfl, rfl, trivial⟩ T.sa ?_
  refine exc_osa X₄ hx₄ hcl (show refsVE (.ref C :: bm) = true from hbm) rfl T.noN (fun h₅ tk₅ dx k₅ dn dne hx₅ hn₅ => ?_)
  show wpAny _ _ (execs _ _) _ _ _
  have big : hp.objs.size ≤ h₄.objs.size := Nat.le_of_lt n₄.lt
  exact wpAny_execs_nil (hq h₅ tk₅ dx t1 ⟨fun b o hb e => k₅ b o hb (k₄ b o hb (k₃ b o (k₂ b o (k b o e)))), hx₅, Nat.le_trans big dn, dne, hn₅⟩)
end
end K32
set_option Elab.async false
set_option linter.all false
set_option maxRecDepth 100000
set_option maxHeartbeats 4000000
namespace K32
open PySem PySem.W PySem.Calls PyProof.Rows PySem.HandSPX
/-- a TooMany that is made -/
structure TooMade (h h' : Heap) (e C d : Addr) (v : Value) : Prop where
  keep : ∀ b o, h.get? b = some o → h'.get? b = some o
  new : h.objs.size ≤ e
  obj : ∃ oe vs, h'.get? e = some oe ∧ oe.cls = .ref C ∧ oe.dict = some d ∧ oe.data = .fields vs ∧ vs[1]? = some .none
  dbig : h.objs.size ≤ d
  dne : d ≠ e
  ns : h'.Ns1 d (fun y => if y = "most" then some v else none)
section
variable {P : Program} {w : World} {A : Around} {R : Result → Shared → Prop} {s : Shared} {K : Frag} {mg mb : Str → Option Value} {C fI cc cda : Addr}
theorem too_made (T : TooTxt P K C fI cc cda) {v : Value} (X : K.In s.heap) (G : s.heap.Ns mainGlobals mg) (hm : mg "super" = none) (B : s.heap.Ns builtinsNs mb) (hb : mb "super" = some (.type "super")) (hlim : s.heap.NoLimit) (hroom : A.depth + 1 < recursionLimit)
    (hq : ∀ h' tk e d, TooMade s.heap h' e C d v → R (.ok (.ret (.ref e))) { s with heap := h', toks := tk }) : codeAny (model P w) A (.call (.ref C) ⟨[v], []⟩) R s := by
  obtain ⟨nm, q, N, bs, bm, sn, sub, ab, col, dd, k0, k1, k2, k3, k5, hC, hbm⟩ := T.cls
  obtain ⟨hp, g, dr, tk, os⟩ := s
  have k : ∀ b o, hp.get? b = some o → ((hp.push (kdv_tup [v])).push (PySem.HandSPX.excO C hp.objs.size)).get? b = some o := fun b o e => Heap.get?_push_of_some _ (Heap.get?_push_of_some _ e)
  have hget : ((hp.push (kdv_tup [v])).push (PySem.HandSPX.excO C hp.objs.size)).get? (hp.objs.size + 1) = some (PySem.HandSPX.excO C hp.objs.size) := by heap_get
  have hnx : K.lookup (hp.objs.size + 1) = none := by
    cases e : K.lookup (hp.objs.size + 1) with
    | none => rfl
    | some o =>
      have z : hp.get? (hp.objs.size + 1) = some o := X _ _ e
      exact absurd (Nat.lt_of_succ_lt (Heap.lt_size z)) (Nat.lt_irrefl _)
  refine call_own F.excBase_ValueError (fun Y => refsVE_contains Y bm hbm) (X _ _ hC) (looks_findIn X T.iC) (fun self => bind_fn X self T.tC) (by show 1 ≤ sizeLine; decide) ?_
  refine too_init (s := ⟨(hp.push (kdv_tup [v])).push (PySem.HandSPX.excO C hp.objs.size), g, dr, tk, os⟩) T (X.keeps k) (G.keeps k) hm (B.keeps k) hb (hlim.keeps k) hget hnx ?_ fun h' tk' dx t1 z => ?_
  · show A.depth + 1 < recursionLimit
    exact hroom
  · have old : ∀ b o, hp.get? b = some o → h'.get? b = some o := fun b o e => z.keep b o (Nat.ne_of_lt (Nat.lt_succ_of_lt (Heap.lt_size e))) (k b o e)
    have big : hp.objs.size + 1 + 1 ≤ dx := by
      have y := z.dbig
      first
        | (simpa only [Heap.size_push] using y)
        | exact y
    exact ⟨rfl, hq h' tk' (hp.objs.size + 1) dx ⟨old, Nat.le_succ _, ⟨_, _, z.obj, rfl, rfl, rfl, rfl⟩, Nat.le_trans (Nat.le_trans (Nat.le_succ _) (Nat.le_succ _)) big, z.dne, z.ns⟩⟩
end
end K32
namespace K32
open PySem PySem.Spec L2
open PyProof.Rows hiding St
theorem boot_super : bootBuiltins "super" = some (.type "super") := by decide +kernel
theorem relO_most {v : V} {v' : Value} (r : RelV v v') (f : Str) : RelO (List.lookup f [(("most" : Str), v)]) (if f = "most" then some v' else none) := by
  rw [L2.lookup_put]
  by_cases hw : f = "most"
  · rw [if_pos hw, if_pos hw]
    exact r
  · rw [if_neg hw, if_neg hw]
    trivial
section
variable {X : Cx} {C fI cc cda : Addr}
/-- TooMany(e) -/
def tMkToo (C : Addr) (ta : TA) : L2.St → Hp → XK → Prop := fun σ H Q => ta σ H fun vs H1 => ∃ v, vs = [v] ∧ ∀ d, H1 d = none → Q (.ref C) (some d) (upd H1 d (.xd [(("most" : Str), v)]))
theorem pmk_too {a : Expr} {ta : TA} {p pos : Pos} {k : Nat} (T : TooTxt X.prog X.K C fI cc cda) (hr : Room k X.A) (hgC : X.mg "TooMany" = some (.ref C)) (hsu : X.mg "super" = none) (ha : PA X [a] ta) (hg : Gl X "TooMany" := by rfl)
    (he : starEach (a :: []) X.env = (false, eval a X.env) :: starEach [] X.env := by rfl) (hpl : (backTo pos (starEach [] X.env)).any (·.1) = false := by rfl) :
    PMk X (.Call (.Name "TooMany" p) [a] [] pos) (tMkToo C ta) := by
  intro pins s σ H Q I h
  refine wpAny_Call_Name_kw (ld_glob I hg hgC ?_)
  refine PySem.W.callWith_K (h₀ := X.base) I.ok.mod.kin T.kC (thn (ha.run pos pins s σ H _ I h) fun us s1 hh => ?_) he hpl
  obtain ⟨vs, H1, I1, r1, v, ev, q1⟩ := hh
  subst ev
  refine ⟨I1.kIn, ?_⟩
  cases r1 with
  | cons rv rn =>
    rename_i v' us'
    cases rn
    show wpAny _ _ (call (.ref C) [v']) _ _ _
    have hlim := I1.nolimit
    obtain ⟨mb, hb1, hb2⟩ := I1.mod.blt
    have hG := I1.mod.glob.keeps I1.bk
    have hB := hb1.keeps I1.bk
    obtain ⟨hp, g, dr, tk, os⟩ := s1
    refine wpAny_call (too_made T I1.kIn hG hsu hB ((hb2 _ (by decide)).trans boot_super) hlim (by have := hr.dp; omega) fun h' tk' e d M => ?_)
    show MkP X pins σ Q (.ref e) ⟨h', g, dr, tk', os⟩
    obtain ⟨oe, fv, hoe, hc, hd, hdat, h1⟩ := M.obj
    have hns := M.ns
    obtain ⟨G', g1, g2⟩ := restrict h' fun b => decide (b ≠ e)
    have gk : ∀ b, b ≠ e → G'.get? b = h'.get? b := fun b hb => g1 b (decide_eq_true hb)
    have ge : G'.get? e = none := g2 e (by simp)
    have old : ∀ b o, hp.get? b = some o → G'.get? b = some o := fun b o q => (gk b (Nat.ne_of_lt (Nat.lt_of_lt_of_le (Heap.lt_size q) M.new))).trans (M.keep b o q)
    have ob : ObjOk X.prog X.w (upd H1 d (.xd [(("most" : Str), v)])) G' d (.xd [(("most" : Str), v)]) := ⟨_, hns.at (fun o q => (gk d M.dne).trans q), fun f => relO_most rv f⟩
    have J : Inv X pins σ (upd H1 d (.xd [(("most" : Str), v)])) ⟨G', g, dr, tk', os⟩ := I1.laid (t' := tk') old M.dbig ob
    refine ⟨e, oe, fv, ⟨G', g, dr, tk', os⟩, _, .ref C, some d, rfl, J, fun b o q => ?_, ge, hoe, ⟨hc, hd⟩, hdat, h1, ?_, rfl, I1.bare, raises_own T.exC T.tyC, q1 d (I1.hok.fresh M.dbig)⟩
    · by_cases hb : b = e
      · have q' : G'.get? b = some o := q
        rw [hb, ge] at q'
        cases q'
      · exact (gk b hb).symm.trans q
    · rw [upd_ne (Ne.symm M.dne)]
      exact I1.hok.fresh M.new
end
end K32
set_option Elab.async false
set_option linter.all false
set_option maxRecDepth 100000
set_option maxHeartbeats 4000000
namespace K32
open PySem PySem.Spec L2 C8
/-- a def that may let an exception out -/
structure CalR (P : Program) (w : World) (K : PySem.W.Frag) (mg : Str → Option Value) (base : Heap) (k : Nat) (x : Str) (sp : Sp) : Prop where
  ex : ∃ (f : Addr) (fd : FuncData) (ps : List Str), FnOk P w K mg base (L2.CX P w) k f fd ps sp ∧ mg x = some (.ref f) ∧ PySem.W.keepIn K (.ref f) = true ∧ Binds K fd ps []
theorem pe_cR {X : Cx} {W : WX} {k j : Nat} {x : Str} {sp : Sp} {p pos : Pos} {e : Expr} {es : List Expr} {t : TA} (c : CalR X.prog X.w X.K X.mg X.base k x sp) (hr : Room j X.A) (hk : k ≤ j) (hg : Gl X x) (tk : Takes X W) (ha : PA X (e :: es) t)
    (hdb : (x == ("__debug__" : Str)) = false := by decide) (he : starEach (e :: es) X.env = (false, eval e X.env) :: starEach es X.env := by rfl) (hpl : (backTo pos (starEach es X.env)).any (·.1) = false := by rfl) :
    PE X (.Call (.Name x p) (e :: es) [] pos) (tCallS sp (WE W) t) := by
  obtain ⟨f, fd, ps, F, hm, kp, b⟩ := c.ex
  exact pe_callS F (hr.mono hk) hg hm kp b (fun σ => passAt tk σ) ha hdb he hpl
section
variable {P : Program} {w : World} {K : PySem.W.Frag} {mg : Str → Option Value} {base : Heap} {C fI cc cda : Addr}
theorem mkCalR {x : Str} {st : Stmt} {N ps : List Str} {k : Nat} {sp : Sp} (D : DefX K mg x st) (S : FnScope N ps (defScope st)) (len : ∀ vs H Q E, sp vs H Q E → vs.length = ps.length)
    (hb : ∀ (kV doc pm : Value) (an : Option Addr) (cdv ct : Value) (us : List Value), us.length = ps.length → bindArgs (PySem.W.fnOf x x (defArgs st) (defBody st) (defScope st) .none kV doc pm an cdv ct) ⟨us, []⟩ = pure (ps.zip us))
    (hbody : ∀ (f : Addr) (cdv : Value) (A : Around) (outer : List Env) (s : Shared) (H : Hp) (vs : List V) (Q : VK) (E : XK), Room k (A.deeper (PyProof.Rows.envOfC x (defScope st) s.heap.objs.size f cdv)) → sp vs H Q E →
      ∃ t, PSs (cxOf (L2.CX P w) P w K mg base N x (defScope st) f cdv A outer s H E) (defBody st) t ∧ t { nx := fun _ H' => Q .non H', rt := Q } (start N vs) H) : CalR P w K mg base (k + 1) x sp := by
  obtain ⟨f, fd, F, hm⟩ := D.ex
  exact ⟨f, fd, ps, F.ok S len fun cdv A outer s H vs Q E hr h => hbody f cdv A outer s H vs Q E hr h, hm, F.kp, F.bindsN hb⟩
def spCheckR (C : Addr) : Sp := fun vs H Q E => ∃ a b : Int, vs = [.int a, .int b] ∧ b < a ∧ ∀ d : Addr, H d = none → E (.ref C) (some d) (upd H d (.xd [(("most" : Str), .int b)]))
theorem calCheckR (T : TooTxt P K C fI cc cda) (hgC : mg "TooMany" = some (.ref C)) (hsu : mg "super" = none) (D : DefX K mg "check_most" sCheckMost) : CalR P w K mg base 3 "check_most" (spCheckR C) := by
  refine mkCalR D scCheckMost (fun vs H Q E h => by obtain ⟨a, b, rfl, _⟩ := h; rfl) (fun _ _ _ _ _ _ us hl => match us, hl with | [_, _], _ => rfl) (fun f cdv A outer s H vs Q E hr h => ?_)
  obtain ⟨a, b, rfl, hab, k⟩ := h
  refine ⟨_, pss_one (ps_if (pt_cmpR op_gt (pv 0) (pv 1) (nomark _)) (pss_one (ps_raise rfl (takes_of rfl rfl rfl rfl) (pmk_too T hr hgC hsu (pa_cons (pv 1) pa_nil)))) pss_nil), ?_⟩
  exact ⟨_, rfl, _, rfl, _, _, rfl, rfl, true, blT hab, iteT ⟨_, rfl, _, rfl, k⟩⟩
/-- of a book of more kinds than seven: TooMany, its field 7 -/
def spTooR (K : PySem.W.Frag) (C : Addr) : Sp := fun vs H Q E => ∃ (b : Addr) (ps : Par), vs = [.ref b] ∧ BookAt K H b ps ∧ 7 < ps.length ∧ ∀ d : Addr, H d = none → E (.ref C) (some d) (upd H d (.xd [(("most" : Str), .int 7)]))
theorem calCountsR (T : Txt K mg) (ck : CalR P w K mg base 3 "check_most" (spCheckR C)) (cm : Cal P w K mg base 1 "many_of" (spManyOf K) []) (D : DefX K mg "counts_of" sCountsOf) : CalR P w K mg base 4 "counts_of" (spTooR K C) := by
  refine mkCalR D scCountsOf (fun vs H Q E h => by obtain ⟨b, ps, rfl, _⟩ := h; rfl) (fun _ _ _ _ _ _ us hl => match us, hl with | [_], _ => rfl) (fun f cdv A outer s H vs Q E hr h => ?_)
  obtain ⟨b, ps, rfl, hB, hl, k⟩ := h
  refine ⟨_, pss_cons (ps_expr (pe_cR ck hr (by decide) (by rfl) (takes_of rfl rfl rfl rfl) (pa_cons (pe_c cm hr (by decide) (by rfl) (pa_cons (pv 0) pa_nil)) (pa_cons (pe_gi (by rfl) T.mostO) pa_nil)))) pss_never, ?_⟩
  exact ⟨_, rfl, b, ps, rfl, hB, _, 7, rfl, by show (7 : Int) < ((ps.length : Nat) : Int); omega, k⟩
theorem calBestR (T : Txt K mg) (cc : CalR P w K mg base 4 "counts_of" (spTooR K C)) (D : DefX K mg "best_order" sBestOrder) : CalR P w K mg base 5 "best_order" (spTooR K C) := by
  refine mkCalR D scBestOrder (fun vs H Q E h => by obtain ⟨b, ps, rfl, _⟩ := h; rfl) (fun _ _ _ _ _ _ us hl => match us, hl with | [_], _ => rfl) (fun f cdv A outer s H vs Q E hr h => ?_)
  obtain ⟨b, ps, rfl, hB, hl, k⟩ := h
  refine ⟨_, pss_one (ps_ret (pe_callB (cr_minD rfl hr.units) (by rfl) T.min (by decide +kernel) (pa_cons (pe_cR cc hr (by decide) (by rfl) (takes_of rfl rfl rfl rfl) (pa_cons (pv 0) pa_nil)) pa_nil))), ?_⟩
  exact ⟨_, rfl, b, ps, rfl, hB, hl, k⟩
theorem calWorstR (T : Txt K mg) (cc : CalR P w K mg base 4 "counts_of" (spTooR K C)) (D : DefX K mg "worst_order" sWorstOrder) : CalR P w K mg base 5 "worst_order" (spTooR K C) := by
  refine mkCalR D scWorstOrder (fun vs H Q E h => by obtain ⟨b, ps, rfl, _⟩ := h; rfl) (fun _ _ _ _ _ _ us hl => match us, hl with | [_], _ => rfl) (fun f cdv A outer s H vs Q E hr h => ?_)
  obtain ⟨b, ps, rfl, hB, hl, k⟩ := h
  refine ⟨_, pss_cons (ps_set (i := 1) scWorstOrder.nd rfl (Or.inl rfl) (pe_cR cc hr (by decide) (by rfl) (takes_of rfl rfl rfl rfl) (pa_cons (pv 0) pa_nil))) pss_never, ?_⟩
  exact ⟨_, rfl, b, ps, rfl, hB, hl, k⟩
end
end K32
set_option Elab.async false
set_option linter.all false
set_option maxRecDepth 100000
set_option maxHeartbeats 4000000
namespace K32
open PySem PySem.Spec L2 C8
theorem takesNone {X : Cx} : Takes X (fun _ _ _ _ => False) := fun _ _ x => by
  obtain ⟨_, _, _, _, _, _, _, _, _, _, _, _, _, _, _, _, z⟩ := x
  exact z.elim
section
variable {P : Program} {w : World} {K : PySem.W.Frag} {mg : Str → Option Value} {base : Heap} {C fI cc cda : Addr}
def spLRefused (K : PySem.W.Frag) : Sp := fun vs H Q _ => ∃ (d : Nat) (b : Addr) (ps : Par), vs = [iv d, .ref b] ∧ d < 2 ∧ BookAt K H b ps ∧ 7 < ps.length ∧ ∀ H', Same H H' → Q (.int 7) H'
theorem scLRefused : FnScope ["_law_door", "_law_book", "_law_most", "e"] ["_law_door", "_law_book"] (defScope sLMostRefused) := ⟨rfl, rfl, rfl, by decide +kernel, rfl, by decide +kernel, by decide +kernel⟩
theorem calLRefused (T : TooTxt P K C fI cc cda) (hgC : mg "TooMany" = some (.ref C)) (c1 : CalR P w K mg base 5 "best_order" (spTooR K C)) (c2 : CalR P w K mg base 5 "worst_order" (spTooR K C)) (D : DefX K mg "_law_most_refused" sLMostRefused) : Cal P w K mg base 6 "_law_most_refused" (spLRefused K) [] := by
  obtain ⟨f1, fd1, ps1, F1, g1, k1, b1⟩ := c1.ex
  obtain ⟨f2, fd2, ps2, F2, g2, k2, b2⟩ := c2.ex
  refine mkCal D scLRefused (fun vs H Q E h => by obtain ⟨d, b, ps, rfl, _⟩ := h; rfl) (fun _ _ _ _ _ _ us hl => match us, hl with | [_, _], _ => rfl) (fun f cdv A outer s H vs Q E hr h => ?_)
  obtain ⟨d, b, ps, rfl, hd, hB, hl, k⟩ := h
  have xf : XfC K C := ⟨T.ga, T.gg, T.exC, T.hdC⟩
  have hC : ∀ a, (a = f1 ∨ a = f2) → ∃ (fd : FuncData) (ps : List Str), FnOk P w K mg base (L2.CX P w) 5 a fd ps (spTooR K C) ∧ PySem.W.keepIn K (.ref a) = true ∧ Binds K fd ps [] := by
    rintro a (rfl | rfl)
    · exact ⟨fd1, ps1, F1, k1, b1⟩
    · exact ⟨fd2, ps2, F2, k2, b2⟩
  refine ⟨_, pss_cons (ps_set (i := 2) scLRefused.nd rfl (Or.inl rfl) pe_non)
    (pss_cons (ps_try_as (i := 3) (tb := fun W => tDrop (tCallW (fun a => a = f1 ∨ a = f2) (spTooR K C) (WE W) (tOp (rIxL K) (tLst (tCons (tC (.ref f1)) (tCons (tC (.ref f2)) tNil))) (tVar 0)) (tCons (tVar 1) tNil)))
        (ts := fun a cls d => tAsg (tXf a cls d C "most" (tVar 3)) (gName 2)) (Wout := fun _ _ _ _ => False) rfl rfl scLRefused.nd rfl rfl ⟨rfl, by decide, Or.inl hgC⟩ takesNone
        (fun W pn xe tk _ => pss_one (ps_expr (by exact (pe_callW hC hr (fun σ => passAt tk σ) (pe_ix ix_list (pe_lst (pa_cons (pe_glob (by rfl) g1 rfl) (pa_cons (pe_glob (by rfl) g2 rfl) pa_nil))) (pv 0) (fun _ _ => rfl)) (pa_cons (pv 1) pa_nil)))))
        (fun a oe cls d pn hz hf => pss_one (ps_set (i := 2) scLRefused.nd rfl (Or.inl rfl) (by exact (pe_xf xf T.noN hz hf (pv 3))))))
    (pss_one (ps_ret (pv 2)))), ?_⟩
  refine ⟨by show 2 ≤ sizeLine; decide, fun L hL => ?_⟩
  have s1 : Same H (upd H L (.lst [rv f1, rv f2])) := sPut hL
  have rest : ∀ (dd : Addr), (upd H L (.lst [rv f1, rv f2])) dd = none → Same H (upd (upd H L (.lst [rv f1, rv f2])) dd (.xd [(("most" : Str), V.int 7)])) := fun dd h => sNew s1 (s1.free h)
  have hd2 : d = 0 ∨ d = 1 := by omega
  rcases hd2 with rfl | rfl
  · refine ⟨_, rfl, L, _, _, rv f1, rfl, rfl, SqL.of upd_same, rfl, f1, rfl, .inl rfl, _, rfl, b, ps, rfl, hB.same s1, hl, fun dd hdd => ?_⟩
    refine ⟨true, T.te, fun _ a0 _ => ?_, fun q => Bool.noConfusion q⟩
    exact ⟨_, rfl, rfl, rfl, dd, _, .int 7, rfl, upd_same, by rw [L2.lookup_put, if_pos rfl], _, rfl, k _ (rest dd hdd)⟩
  · refine ⟨_, rfl, L, _, _, rv f2, rfl, rfl, SqL.of upd_same, rfl, f2, rfl, .inr rfl, _, rfl, b, ps, rfl, hB.same s1, hl, fun dd hdd => ?_⟩
    refine ⟨true, T.te, fun _ a0 _ => ?_, fun q => Bool.noConfusion q⟩
    exact ⟨_, rfl, rfl, rfl, dd, _, .int 7, rfl, upd_same, by rw [L2.lookup_put, if_pos rfl], _, rfl, k _ (rest dd hdd)⟩
end
end K32
set_option Elab.async false
set_option linter.all false
set_option maxRecDepth 100000
set_option maxHeartbeats 4000000
namespace K32
open PySem PySem.Spec L2 C8
open PySem.W (dataLt)
theorem canAll : ∀ (o : List Nat), PyData.canLayAll0 (o.map fun n : Nat => PyData.int (n : Int)) = true
  | [] => by simp [PyData.canLayAll0]
  | x :: r => by simp [PyData.canLayAll0, PyData.canLay0, canAll r]
theorem shapedPD (c : Nat) (o : List Nat) : SeqAt.shaped (PD c o) = true := by
  have h1 := depIT o
  unfold SeqAt.shaped
  rw [Bool.and_eq_true, decide_eq_true_eq]
  refine ⟨?_, ?_⟩
  · simp [PD, IT, PyData.canLay0, PyData.canLayAll0, canAll]
  · simp only [PD, PyData.depth, PyData.depthAll]
    omega
/-- min of such orders -/
theorem min_orders {K : PySem.W.Frag} {H : Hp} {C : Addr} {cs : List Addr} {ms : List (List Nat)} {Q : VK} (hC : H C = some (.lst (cs.map rv))) (hc : A2 (NT K H) cs ms) (hne : ms ≠ [])
    (k : ∀ c o, NT K H c o → o ∈ ms → (∀ q ∈ ms, dataLt (IT q) (IT o) = false) → Q (.ref c) H) : rMinD K [.ref C] H Q := by
  cases ms with
  | nil => exact absurd rfl hne
  | cons m0 mr =>
    refine ⟨C, cs.map rv, IT m0, mr.map IT, rfl, SqL.of hC, dp_orders hc, alikeI (m0 :: mr), Nat.le_trans (depAI (m0 :: mr)) (by decide), fun i v hi hd => ?_⟩
    have hd' : ((m0 :: mr).map IT)[i]? = some (PySem.W.minD (IT m0) (mr.map IT)) := hd
    rw [List.getElem?_map] at hi hd'
    cases hz : cs[i]? with
    | none => rw [hz] at hi; cases hi
    | some c =>
      rw [hz] at hi
      cases hi
      cases hp : (m0 :: mr)[i]? with
      | none => rw [hp] at hd'; cases hd'
      | some p =>
        rw [hp] at hd'
        have e : IT p = PySem.W.minD (IT m0) (mr.map IT) := Option.some.inj hd'
        refine k c p (hc.2 i c p hz hp) (List.mem_of_getElem? hp) fun q hq => ?_
        rw [e]
        exact minD_le _ _ _ (List.mem_map.mpr ⟨q, hq, rfl⟩ : IT q ∈ (m0 :: mr).map IT)
/-- t[:k] -/
theorem slA_take {K : PySem.W.Frag} {H : Hp} {a : Addr} {xs : List V} {k : Nat} {Q : VK} (h : SqT K H a xs) (hk : k ≤ xs.length) (q : ∀ H' a', Same H H' → SqT K H' a' (xs.take k) → Q (.ref a') H') : rSlA K (.ref a) none (some (k : Int)) H Q := by
  have e1 : HT.sIx xs.length 0 none = 0 := HT.sIx_none _ _
  have e2 : HT.sIx xs.length xs.length (some (k : Int)) = k := by
    rw [HT.sIx_nat]
    omega
  refine ⟨a, xs, rfl, h, fun e => ?_, fun _ p hp => ?_⟩
  · rw [e2] at e
    refine q H a (Same.refl H) ?_
    rw [e.2, List.take_length]
    exact h
  · refine q _ p (sPut hp) (.inl (.inl ?_))
    rw [upd_same]
    unfold cutV
    rw [e1, e2]
    rfl
def ps7 : Par := [[], [0], [0], [1, 2], [3], [3], [4, 5]]
theorem ps7_valid : Valid ps7 := by
  intro k l h
  have hk : k < 7 := (List.getElem?_eq_some_iff.mp h).1
  have : k = 0 ∨ k = 1 ∨ k = 2 ∨ k = 3 ∨ k = 4 ∨ k = 5 ∨ k = 6 := by omega
  rcases this with rfl | rfl | rfl | rfl | rfl | rfl | rfl <;> (cases h; refine ⟨⟨?_, ?_⟩, ?_⟩ <;> simp)
theorem Valid.take {ps : Par} (h : Valid ps) (n : Nat) : Valid (ps.take n) := by
  intro k l hk
  by_cases hn : k < n
  · rw [List.getElem?_take_of_lt hn] at hk
    exact h k l hk
  · rw [List.getElem?_eq_none (by rw [List.length_take]; omega)] at hk
    cases hk
theorem Nts.take {K : PySem.W.Frag} {H : Hp} {as : List Addr} {ls : List (List Nat)} (h : Nts K H as ls) (n : Nat) : Nts K H (as.take n) (ls.take n) := by
  refine ⟨by rw [List.length_take, List.length_take, h.1], fun i a l x y => ?_⟩
  by_cases hn : i < n
  · rw [List.getElem?_take_of_lt hn] at x y
    exact h.2 i a l x y
  · rw [List.getElem?_eq_none (by rw [List.length_take]; omega)] at x
    cases x
theorem nts_new {K : PySem.W.Frag} {H : Hp} {as : List Addr} {ls : List (List Nat)} {t : Addr} {l : List Nat} {o : HO} (h : Nts K H as ls) (ht : H t = none) (ho : o = .tup (l.map iv)) : Nts K (upd H t o) (as ++ [t]) (ls ++ [l]) :=
  (h.upd (noT_n ht)).snoc (.inl (.inl (by rw [upd_same, ho])))
theorem PT.fr {K : PySem.W.Frag} {H H' : Hp} {p q t : Addr} {ps : Par} (h : PT K H t ps) (hp : PoolAt H p q) (fr : Fr1 [p, q] H H') : PT K H' t ps := h.imp fun _ _ x => Fr1.tup fr hp.noT x
end K32
set_option Elab.async false
set_option linter.all false
set_option maxRecDepth 100000
set_option maxHeartbeats 4000000
namespace K32
open PySem PySem.Spec L2 C8
open PySem.W (dataLt)
abbrev NL : List Str := ["_law_script", "_law_pool_here", "_law_parents_here", "_law_counts", "_law_order", "_law_fewest", "_law_most", "_law_book", "_law_best", "_law_worst", "_law_great", "_law_many"]
theorem scLaw : FnScope NL ["_law_script"] (defScope sThelaw) := ⟨rfl, rfl, rfl, by decide +kernel, rfl, by decide +kernel, by decide +kernel⟩
section
variable {P : Program} {w : World} {K : PySem.W.Frag} {mg : Str → Option Value} {base : Heap}
/-- the defs that the law calls -/
structure LawC (P : Program) (w : World) (K : PySem.W.Frag) (mg : Str → Option Value) (base : Heap) : Prop where
  pool : Cal P w K mg base 1 "_law_pool" (spLPool K) []
  draw : Cal P w K mg base 1 "_law_draw" spLDraw []
  parents : Cal P w K mg base 4 "_law_parents" (spLParents K) []
  orders : Cal P w K mg base 2 "_law_orders" (spLOrders K) []
  groups : Cal P w K mg base 2 "_law_groups_done" (spLGroups K) []
  moved : Cal P w K mg base 1 "_law_moved" (spLMoved K) []
  book : Mak P w K mg base 5 "Book" (cB K) (spBookInit K) []
  best : Cal P w K mg base 10 "best_order" (spBestOrder K) []
  worst : Cal P w K mg base 10 "worst_order" (spWorstOrder K) []
  isint : Cal P w K mg base 1 "_law_is_int" spLIsInt []
  placed : Cal P w K mg base 6 "placed" (spPlaced K) []
  reordered : Cal P w K mg base 8 "reordered" (spReordered K) []
  refused : Cal P w K mg base 6 "_law_most_refused" (spLRefused K) []
def spLaw (K : PySem.W.Frag) : Sp := fun vs H Q _ => ∃ (a : Addr) (ns : List Int), vs = [.ref a] ∧ SqL K H a (ns.map V.int) ∧ ns.length ≤ 1000 ∧ ∀ H', Q (.bl true) H'
theorem okLaw (T : Txt K mg) (L : LawC P w K mg base) {f : Addr} {fd : FuncData} (F : FunD K "law" "law" (defArgs sThelaw) (defBody sThelaw) (defScope sThelaw) [] [] f fd) : FnOk P w K mg base L2.CX0 11 f fd ["_law_script"] (spLaw K) := by
  refine F.ok scLaw (fun vs H Q E h => by obtain ⟨a, ns, rfl, _⟩ := h; rfl) fun cdv A outer s H vs Q E hr h => ?_
  obtain ⟨l, ns, rfl, hl, hlen, k⟩ := h
  suffices h : ∃ t, PSs (cxOf L2.CX0 P w K mg base NL "law" (defScope sThelaw) f cdv A outer s H E).nox (defBody sThelaw) t ∧ t { nx := fun _ H' => Q .non H', rt := Q } (start NL [.ref l]) H by
    obtain ⟨t, h1, h2⟩ := h
    exact ⟨t, h1.nox, h2⟩
  have hrd : Room 1 _ := hr.mono (by decide)
  refine ⟨_, pss_cons (ps_set (i := 1) scLaw.nd rfl (Or.inl rfl) (pe_c L.pool hr (by decide) (by rfl) (pa_cons (pv 0) pa_nil)))
    (pss_cons (ps_set (i := 2) scLaw.nd rfl (Or.inl rfl) (pe_c L.parents hr (by decide) (by rfl) (pa_cons (pv 1) (pa_cons (pe_ix ix_list (pe_lst (pa_cons pe_int (pa_cons pe_int (pa_cons pe_int (pa_cons pe_int (pa_cons pe_int pa_nil)))))) (pe_c L.draw hr (by decide) (by rfl) (pa_cons (pv 1) (pa_cons pe_int pa_nil))) (fun _ _ => rfl)) pa_nil))))
    (pss_cut (ps_if (pt_cmpR op_eq (pe_c L.draw hr (by decide) (by rfl) (pa_cons (pv 1) (pa_cons pe_int pa_nil))) pe_int (nomark _))
        (pss_one (ps_set (i := 2) scLaw.nd rfl (Or.inl rfl) (pe_c L.parents hr (by decide) (by rfl) (pa_cons (pv 1) (pa_cons pe_int pa_nil))))) pss_nil)
    (pss_cut (ps_if (pt_cmpR op_eq (pe_c L.draw hr (by decide) (by rfl) (pa_cons (pv 1) (pa_cons pe_int pa_nil))) pe_int (nomark _))
        (pss_one (ps_set (i := 2) scLaw.nd rfl (Or.inl rfl) (pe_slice sl_tupA (pe_tup (pa_cons (pe_tup pa_nil) (pa_cons (pe_tup (pa_cons pe_int pa_nil)) (pa_cons (pe_tup (pa_cons pe_int pa_nil)) (pa_cons (pe_tup (pa_cons pe_int (pa_cons pe_int pa_nil))) (pa_cons (pe_tup (pa_cons pe_int pa_nil)) (pa_cons (pe_tup (pa_cons pe_int pa_nil)) (pa_cons (pe_tup (pa_cons pe_int (pa_cons pe_int pa_nil))) pa_nil))))))))
          po_none (po_some (pe_op op_add pe_int (pe_c L.draw hr (by decide) (by rfl) (pa_cons (pv 1) (pa_cons pe_int pa_nil)))))))) pss_nil)
    (pss_cons (ps_set (i := 3) scLaw.nd rfl (Or.inl rfl) (pe_lst pa_nil))
    (pss_cons (ps_for PassesOwn.never rfl (pi_list (pe_c L.orders hr (by decide) (by rfl) (pa_cons (pv 2) pa_nil))) (pg_name (i := 4) scLaw.nd rfl (.inl rfl))
      (pss_one (ps_expr (pe_bm PySem.F.plainAttrs_list PySem.F.slot_list_append PySem.F.type_list_append mt_append (pv 3) (pa_cons (pe_tup (pa_cons
        (pe_lenSetT (by rfl) T.len (by rfl) T.set (pe_c L.groups hr (by decide) (by rfl) (pa_cons (pe_c L.moved hr (by decide) (by rfl) (pa_cons (pv 2) (pa_cons (pv 4) pa_nil))) pa_nil))) (pa_cons (pv 4) pa_nil))) pa_nil)))))
    (pss_cons (ps_set (i := 5) scLaw.nd rfl (Or.inr rfl) (pe_callB (cr_min rfl) (by rfl) T.min (by decide +kernel) (pa_cons
      (pe_lc (own := [("_law_many", 11), ("_law_order", 4)]) (g := gTup K 2 (gCons (gName 11) (gCons (gName 4) gNil))) (tt := tYes) rfl scLaw.nd (pi_list (pv 3)) (blkOk_by (own := [("_law_many", 11), ("_law_order", 4)]) (N := NL) (sc := defScope sThelaw) (by decide +kernel))
        (fun _ _ _ _ _ => pg_tup rfl (pgs_cons (pg_name (i := 11) scLaw.nd rfl (.inl rfl)) (pgs_cons (pg_name (i := 4) scLaw.nd rfl (.inl rfl)) pgs_nil))) (fun _ _ _ _ _ => pts_nil) (fun _ _ _ _ _ => pv 11)) pa_nil)))
    (pss_cons (ps_set (i := 6) scLaw.nd rfl (Or.inr rfl) (pe_callB (cr_max rfl) (by rfl) T.max (by decide +kernel) (pa_cons
      (pe_lc (own := [("_law_many", 11), ("_law_order", 4)]) (g := gTup K 2 (gCons (gName 11) (gCons (gName 4) gNil))) (tt := tYes) rfl scLaw.nd (pi_list (pv 3)) (blkOk_by (own := [("_law_many", 11), ("_law_order", 4)]) (N := NL) (sc := defScope sThelaw) (by decide +kernel))
        (fun _ _ _ _ _ => pg_tup rfl (pgs_cons (pg_name (i := 11) scLaw.nd rfl (.inl rfl)) (pgs_cons (pg_name (i := 4) scLaw.nd rfl (.inl rfl)) pgs_nil))) (fun _ _ _ _ _ => pts_nil) (fun _ _ _ _ _ => pv 11)) pa_nil)))
    (pss_cons (ps_set (i := 7) scLaw.nd rfl (Or.inl rfl) (pe_mk L.book hr (by decide) (by rfl) (pa_cons (pv 2) pa_nil)))
    (pss_cons (ps_par (i := 8) (j := 9) rfl scLaw.nd rfl rfl (by decide) rfl rfl (pa_cons (pe_c L.best hr (by decide) (by rfl) (pa_cons (pv 7) pa_nil)) (pa_cons (pe_c L.worst hr (by decide) (by rfl) (pa_cons (pv 7) pa_nil)) pa_nil)) (by rfl))
    (pss_cons (ps_if (pt_cmpR (op_neD hr.units) (pv 8) (pe_tup (pa_cons (pv 5) (pa_cons (pe_callB (cr_minD rfl hr.units) (by rfl) T.min (by decide +kernel) (pa_cons
      (pe_lc (own := [("_law_many", 11), ("_law_order", 4)]) (g := gTup K 2 (gCons (gName 11) (gCons (gName 4) gNil))) rfl scLaw.nd (pi_list (pv 3)) (blkOk_by (own := [("_law_many", 11), ("_law_order", 4)]) (N := NL) (sc := defScope sThelaw) (by decide +kernel))
        (fun _ _ _ _ _ => pg_tup rfl (pgs_cons (pg_name (i := 11) scLaw.nd rfl (.inl rfl)) (pgs_cons (pg_name (i := 4) scLaw.nd rfl (.inl rfl)) pgs_nil))) (fun _ _ _ _ _ => by exact pts_one (pt_cmpR op_eq (pv 11) (pv 5) (nomark _))) (fun _ _ _ _ _ => pv 4)) pa_nil)) pa_nil))) (nomark _)) pss_never pss_nil)
    (pss_cons (ps_if (pt_cmpR (op_neD hr.units) (pv 9) (pe_tup (pa_cons (pv 6) (pa_cons (pe_callB (cr_minD rfl hr.units) (by rfl) T.min (by decide +kernel) (pa_cons
      (pe_lc (own := [("_law_many", 11), ("_law_order", 4)]) (g := gTup K 2 (gCons (gName 11) (gCons (gName 4) gNil))) rfl scLaw.nd (pi_list (pv 3)) (blkOk_by (own := [("_law_many", 11), ("_law_order", 4)]) (N := NL) (sc := defScope sThelaw) (by decide +kernel))
        (fun _ _ _ _ _ => pg_tup rfl (pgs_cons (pg_name (i := 11) scLaw.nd rfl (.inl rfl)) (pgs_cons (pg_name (i := 4) scLaw.nd rfl (.inl rfl)) pgs_nil))) (fun _ _ _ _ _ => by exact pts_one (pt_cmpR op_eq (pv 11) (pv 6) (nomark _))) (fun _ _ _ _ _ => pv 4)) pa_nil)) pa_nil))) (nomark _)) pss_never pss_nil)
    (pss_cons (ps_if (PW.pt (pw_or (pt_not (pt_val (pe_callB call_isi (by rfl) T.isinstance (by decide +kernel) (pa_cons (pv 8) (pa_cons (pe_ty "tuple" (by rfl) T.tuple (by decide +kernel)) pa_nil)))))
      (pw_or1 (pt_not (pt_val (pe_c L.isint hr (by decide) (by rfl) (pa_cons (pe_ix ix_tup (pv 8) pe_int (fun _ _ => rfl)) pa_nil))))))) pss_never pss_nil)
    (pss_cons (ps_if (pt_cmpR op_ne (pe_lenSetT (by rfl) T.len (by rfl) T.set (pe_c L.placed hr (by decide) (by rfl) (pa_cons (pe_c L.reordered hr (by decide) (by rfl) (pa_cons (pv 7) (pa_cons (pe_ix ix_tup (pv 9) pe_int (fun _ _ => rfl)) pa_nil))) pa_nil))) (pv 6) (nomark _)) pss_never pss_nil)
    (pss_cons (ps_set (i := 10) scLaw.nd rfl (Or.inl rfl) (pe_mk L.book hr (by decide) (by rfl) (pa_cons (pe_c L.parents hr (by decide) (by rfl) (pa_cons (pv 1) (pa_cons (pe_op op_add pe_int (pe_c L.draw hr (by decide) (by rfl) (pa_cons (pv 1) (pa_cons pe_int pa_nil)))) pa_nil))) pa_nil)))
    (pss_cons (ps_if (PW.pt (pw_or (pt_cmpR op_ne (pe_c L.refused hr (by decide) (by rfl) (pa_cons pe_int (pa_cons (pv 10) pa_nil))) pe_int (nomark _))
      (pw_or1 (pt_cmpR op_ne (pe_c L.refused hr (by decide) (by rfl) (pa_cons pe_int (pa_cons (pv 10) pa_nil))) pe_int (nomark _))))) pss_never pss_nil)
    (pss_one (ps_ret (pe_and (pe_cmpR (op_eqD hr.units) (pe_c L.best hr (by decide) (by rfl) (pa_cons (pe_mk L.book hr (by decide) (by rfl) (pa_cons (pe_tup pa_nil) pa_nil)) pa_nil)) (pe_tup (pa_cons pe_int (pa_cons (pe_tup pa_nil) pa_nil))) (nomark _))
      (pe_one (pe_cmpR (op_eqD hr.units) (pe_c L.worst hr (by decide) (by rfl) (pa_cons (pe_mk L.book hr (by decide) (by rfl) (pa_cons (pe_tup (pa_cons (pe_tup pa_nil) pa_nil)) pa_nil)) pa_nil)) (pe_tup (pa_cons pe_int (pa_cons (pe_tup (pa_cons pe_int pa_nil)) pa_nil))) (nomark _))))))))))))))))))))), ?_⟩
  refine ⟨_, rfl, l, ns, rfl, hl, hlen, fun H1 p q s1 hP1 np nq => ?_⟩
  refine ⟨_, rfl, by show 5 ≤ sizeLine; decide, fun L5 hL5 => ?_⟩
  have nL5 := hP1.ned hL5
  refine ⟨_, rfl, p, q, 5, rfl, hP1.new nL5, by decide, by decide, fun H2 d fr2 hP2 hd => ?_⟩
  obtain ⟨n0, hn0, hn5⟩ : ∃ n, ([2, 3, 4, 4, 5] : List Nat)[d]? = some n ∧ n ≤ 5 := by
    have : d = 0 ∨ d = 1 ∨ d = 2 ∨ d = 3 ∨ d = 4 := by omega
    rcases this with rfl | rfl | rfl | rfl | rfl <;> exact ⟨_, rfl, by decide⟩
  have eL5 := fr2 _ _ (upd_same (H := H1) (a := L5) (o := .lst [V.int 2, V.int 3, V.int 4, V.int 4, V.int 5])) nL5
  refine ⟨L5, _, _, iv n0, rfl, rfl, SqL.of eL5, atI_nat (by show (([2, 3, 4, 4, 5] : List Nat).map iv)[d]? = some (iv n0); rw [List.getElem?_map, hn0]; rfl), ?_⟩
  refine ⟨p, q, n0, rfl, hP2, by omega, fun H3 t ps fr3 hP3 hPT3 hl3 hv3 => ?_⟩
  refine ⟨fun σ H' => ∃ (t : Addr) (ps : Par), σ = [some (.ref l), some (.ref p), some (.ref t), none, none, none, none, none, none, none, none, none] ∧ PoolAt H' p q ∧ PT K H' t ps ∧ Valid ps ∧ ps.length ≤ 7, ?_, ?_⟩
  · refine ⟨_, rfl, p, q, 16, rfl, hP3, by decide, by decide, fun H4 d4 fr4 hP4 hd4 => ⟨rfl, _, rfl, ite2 (fun _ => ?_) (fun _ => ?_)⟩⟩
    · exact ⟨_, rfl, p, q, 6, rfl, hP4, by decide, fun H5 t ps fr5 hP5 hPT hl hv => ⟨t, ps, rfl, hP5, hPT, hv, by omega⟩⟩
    · exact ⟨t, ps, rfl, hP4, hPT3.fr hP3 fr4, hv3, by omega⟩
  rintro σ H4 ⟨t, ps, rfl, hP4, hPT4, hv4, hl4⟩
  refine ⟨fun σ H' => ∃ (t : Addr) (ps : Par), σ = [some (.ref l), some (.ref p), some (.ref t), none, none, none, none, none, none, none, none, none] ∧ PoolAt H' p q ∧ PT K H' t ps ∧ Valid ps ∧ ps.length ≤ 7, ?_, ?_⟩
  · refine ⟨_, rfl, p, q, 3, rfl, hP4, by decide, by decide, fun H5 d4 fr4 hP5 hd4 => ⟨rfl, _, rfl, ite2 (fun _ => ?_) (fun _ => ⟨t, ps, rfl, hP5, hPT4.fr hP4 fr4, hv4, by omega⟩)⟩⟩
    have z1 : 1 ≤ sizeLine := by decide
    have z2 : 2 ≤ sizeLine := by decide
    refine ⟨Nat.zero_le _, fun t0 h0 => ⟨z1, fun t1 h1 => ⟨z1, fun t2 h2 => ⟨z2, fun t3 h3 => ⟨z1, fun t4 h4 => ⟨z1, fun t5 h5 => ⟨z2, fun t6 h6 => ⟨by show 7 ≤ sizeLine; decide, fun T7 hT7 => ?_⟩⟩⟩⟩⟩⟩⟩⟩
    have n0 := nts_new (K := K) (o := .tup []) (l := []) Nts.nil h0 rfl
    have n1 := nts_new (o := .tup [.int 0]) (l := [0]) n0 h1 rfl
    have n2 := nts_new (o := .tup [.int 0]) (l := [0]) n1 h2 rfl
    have n3 := nts_new (o := .tup [.int 1, .int 2]) (l := [1, 2]) n2 h3 rfl
    have n4 := nts_new (o := .tup [.int 3]) (l := [3]) n3 h4 rfl
    have n5 := nts_new (o := .tup [.int 3]) (l := [3]) n4 h5 rfl
    have n6 := nts_new (o := .tup [.int 4, .int 5]) (l := [4, 5]) n5 h6 rfl
    have a0 := sPut (o := .tup []) h0
    have a1 := sNew (o := .tup [.int 0]) a0 (a0.free h1)
    have a2 := sNew (o := .tup [.int 0]) a1 (a1.free h2)
    have a3 := sNew (o := .tup [.int 1, .int 2]) a2 (a2.free h3)
    have a4 := sNew (o := .tup [.int 3]) a3 (a3.free h4)
    have a5 := sNew (o := .tup [.int 3]) a4 (a4.free h5)
    have a6 := sNew (o := .tup [.int 4, .int 5]) a5 (a5.free h6)
    have n7 := n6.upd (o := .tup [rv t0, rv t1, rv t2, rv t3, rv t4, rv t5, rv t6]) (noT_n hT7)
    have a7 := sNew (o := .tup [rv t0, rv t1, rv t2, rv t3, rv t4, rv t5, rv t6]) a6 (a6.free hT7)
    have hP7 := hP5.same a7
    refine ⟨_, rfl, p, q, 4, rfl, hP7, by decide, by decide, fun H6 d6 fr6 hP6 hd6 => ⟨_, _, rfl, rfl, _, rfl, ?_⟩⟩
    have sq7 : SqT K H6 T7 (([t0, t1, t2, t3, t4, t5, t6] : List Addr).map rv) := Fr1.tup fr6 hP7.noT (.inl (.inl upd_same))
    have n8 : Nts K H6 [t0, t1, t2, t3, t4, t5, t6] ps7 := n7.imp fun _ _ x => Fr1.tup fr6 hP7.noT x
    refine slA_take (k := 4 + d6) sq7 (by show 4 + d6 ≤ 7; omega) fun H' a' sa hsa => ⟨a', ps7.take (4 + d6), rfl, hP6.same sa, ⟨([t0, t1, t2, t3, t4, t5, t6] : List Addr).take (4 + d6), ?_, (n8.take (4 + d6)).same sa⟩, ps7_valid.take _, by rw [List.length_take]; exact Nat.le_trans (Nat.min_le_right _ _) (by decide)⟩
    rw [List.map_take]
    exact hsa
  rintro σ H5 ⟨t, ps, rfl, hP5, hPT5, hv, hl7⟩
  refine ⟨Nat.zero_le _, fun C hC => ?_⟩
  have sC : Same H5 (upd H5 C (.lst [])) := sPut hC
  refine ⟨_, rfl, t, ps, rfl, hPT5.same sC, hv, hl7, fun H6 FO as s6 eFO hfz => ?_⟩
  refine ⟨FO, rfl, ⟨_, SqL.of eFO⟩, ?_⟩
  have hlen7 := Nat.le_trans (ordM_len (isA ps) ps.length ps.length) (pow7 hl7 hl7)
  have hcm : countsM ps = (ordM (isA ps) ps.length ps.length).map fun o => (ndist (slotsM (isA (movedM ps o)) ps.length), o) := rfl
  have hok : ∀ o ∈ ordM (isA ps) ps.length ps.length, OrdK (isA ps) ps.length ps.length o := fun o h => ordM_ok h
  have hcne := countsM_ne hv
  generalize ordM (isA ps) ps.length ps.length = os at hfz hlen7 hcm hok
  have nFC : FO ≠ C := fun e => by
    have h1 := s6 _ _ (upd_same (H := H5) (a := C) (o := .lst []))
    rw [← e, eFO] at h1
    have h2 : as.map rv = [] := by
      injection h1 with h1
      injection h1
    have h3 : as = [] := List.map_eq_nil_iff.mp h2
    have h4 := hfz.1
    rw [h3] at h4
    refine hcne ?_
    rw [hcm, List.eq_nil_of_length_eq_zero h4.symm]
    rfl
  refine for_list (xs := as.map rv) (fun i σ H' => Same H5 H' ∧ H' FO = some (.lst (as.map rv)) ∧ A2 (FzAt H') as os ∧ ∃ (cs : List Addr) (v4 : Option V), σ = [some (.ref l), some (.ref p), some (.ref t), some (.ref C), v4, none, none, none, none, none, none, none] ∧ H' C = some (.lst (cs.map rv)) ∧ A2 (PairAt K H') cs ((countsM ps).take i)) ?_ (fun i σ H' _ h => SqL.of h.2.1) ?_ ?_
  · exact ⟨sC.trans s6, eFO, hfz, [], none, rfl, s6 _ _ upd_same, A2.nil⟩
  · rintro i y σ H7 hi ⟨sm, eF7, fz7, cs, v4, rfl, eC7, pc7⟩
    rw [List.getElem?_map] at hi
    cases hz : as[i]? with
    | none => rw [hz] at hi; cases hi
    | some a =>
      rw [hz] at hi
      cases hi
      have hil : i < os.length := by rw [← fz7.1]; exact (List.getElem?_eq_some_iff.mp hz).1
      have hoo := List.getElem?_eq_getElem hil
      generalize os[i] = o at hoo
      have hto := fz7.2 i a o hz hoo
      have hor := hok o (List.mem_of_getElem? hoo)
      have hml : (movedM ps o).length = ps.length := by rw [movedM_length, hor.len]
      refine ⟨_, rfl, .inl ⟨rfl, _, SqL.of eC7⟩, _, rfl, _, rfl, t, a, ps, o, rfl, hPT5.same sm, hv, by omega, hto, hor, fun H8 t8 s8 hPT8 => ?_⟩
      refine ⟨t8, movedM ps o, rfl, hPT8, movedM_valid hv hor, by omega, fun H9 t9 s9 ht9 => ?_⟩
      have hsl := slotsM_length (isA (movedM ps o)) (movedM ps o).length
      rw [hml] at ht9 hsl
      refine ⟨t9, (slotsM (isA (movedM ps o)) ps.length).map (fun n : Nat => (n : Int)), rfl, by rw [← iv_map]; exact ht9, by rw [List.length_map, hsl]; omega, fun ks h1 h2 => ?_⟩
      rw [ndist_of h1 h2]
      have s79 := s8.trans s9
      refine ⟨_, rfl, by show 2 ≤ sizeLine; decide, fun c hc => ?_⟩
      have eC9 := s79 _ _ eC7
      have nCc : C ≠ c := ne_of_none eC9 hc
      have s10 : Same H9 (upd H9 c (.tup [iv (ndist (slotsM (isA (movedM ps o)) ps.length)), rv a])) := sPut hc
      have s710 := s79.trans s10
      have eC10 : (upd H9 c (.tup [iv (ndist (slotsM (isA (movedM ps o)) ps.length)), rv a])) C = some (.lst (cs.map rv)) := by rw [upd_ne nCc]; exact eC9
      have nt := noT_l eC10
      refine ⟨C, _, _, rfl, rfl, eC10, ?_, sNew (sm.trans s710) hC, by rw [upd_ne nFC]; exact s710 _ _ eF7, fz7.imp fun _ _ h => (h.same s710).upd nt, cs ++ [c], _, rfl, by rw [upd_same, List.map_append]; rfl, ?_⟩
      · rw [List.length_map, pc7.1, List.length_take, hcm, List.length_map]
        exact size900k (by omega)
      · rw [List.take_add_one, hcm, List.getElem?_map, hoo, ← hcm]
        refine A2.imp (A2.snoc (pc7.imp fun a m h => PairAt.same s710 h) ?_) fun a m h => PairAt.upd nt h
        exact ⟨a, upd_same, ((hto.same s710).nt)⟩
  rintro σ H7 ⟨s57, eF7, fz7, cs, v4, rfl, eC, hc⟩
  rw [List.length_map, fz7.1, ← List.length_map (f := fun o => (ndist (slotsM (isA (movedM ps o)) ps.length), o)), ← hcm, List.take_length] at hc
  have hcl : (countsM ps).length ≤ 823543 := by rw [hcm, List.length_map]; exact hlen7
  have hmem : ∀ m ∈ countsM ps, OrdK (isA ps) ps.length ps.length m.2 ∧ m.1 = ndist (slotsM (isA (movedM ps m.2)) ps.length) := fun m hm => by
    rw [hcm] at hm
    obtain ⟨o, ho, rfl⟩ := List.mem_map.mp hm
    exact ⟨hok o ho, rfl⟩
  have hP7 := hP5.same s57
  have hPT7 := hPT5.same s57
  have s77 : Same H7 H7 := Same.refl H7
  generalize hms : countsM ps = ms at hc hcne hcl hmem
  refine ⟨_, rfl, C, rfl, ⟨_, SqL.of (s77 _ _ eC)⟩, fun D1 hD1 => ?_⟩
  refine lc_list (xs := cs.map rv) (fun i H' => Same H7 H' ∧ H' D1 = some (.lst ((((ms.take i).map (·.1)).map fun n : Nat => (n : Int)).map V.int))) ⟨sPut hD1, upd_same⟩ (fun i H' _ h => SqL.of (h.1 _ _ (s77 _ _ eC))) ?_ ?_
  · rintro i y H' hi ⟨sm, e1⟩
    rw [List.getElem?_map] at hi
    cases hz : cs[i]? with
    | none => rw [hz] at hi; cases hi
    | some c =>
      rw [hz] at hi
      cases hi
      have hil : i < ms.length := by rw [← hc.1]; exact (List.getElem?_eq_some_iff.mp hz).1
      have hpp := List.getElem?_eq_getElem hil
      generalize ms[i] = p0 at hpp
      obtain ⟨a, h1, h2⟩ := hc.2 i c p0 hz hpp
      refine ⟨c, _, rfl, .inl (.inl (sm _ _ (s77 _ _ h1))), rfl, _, _, rfl, _, _, rfl, rfl, rfl, yes ⟨_, rfl, _, e1, ?_, sNew sm hD1, ?_⟩⟩
      · rw [List.length_map, List.length_map, List.length_map, List.length_take]
        exact size900k (by omega)
      · rw [upd_same, List.take_add_one, hpp, List.map_append, List.map_append, List.map_append]
        rfl
  rintro H8 ⟨s78, eD1⟩
  rw [List.length_map, hc.1, List.take_length] at eD1
  refine ⟨D1, _, rfl, SqL.of eD1, by rw [List.length_map, List.length_map]; exact List.length_pos_iff.mpr hcne, fun m1 hm1 hle1 => ?_⟩
  obtain ⟨few, hf1, rfl⟩ := List.mem_map.mp hm1
  have hfew : ∀ m ∈ ms, few ≤ m.1 := fun m hm => Int.ofNat_le.mp (hle1 _ (List.mem_map.mpr ⟨m.1, List.mem_map.mpr ⟨m, hm, rfl⟩, rfl⟩))
  obtain ⟨pf, hpf, rfl⟩ := List.mem_map.mp hf1
  refine ⟨_, rfl, C, rfl, ⟨_, SqL.of (s78 _ _ eC)⟩, fun D2 hD2 => ?_⟩
  refine lc_list (xs := cs.map rv) (fun i H' => Same H8 H' ∧ H' D2 = some (.lst ((((ms.take i).map (·.1)).map fun n : Nat => (n : Int)).map V.int))) ⟨sPut hD2, upd_same⟩ (fun i H' _ h => SqL.of (h.1 _ _ (s78 _ _ eC))) ?_ ?_
  · rintro i y H' hi ⟨sm, e1⟩
    rw [List.getElem?_map] at hi
    cases hz : cs[i]? with
    | none => rw [hz] at hi; cases hi
    | some c =>
      rw [hz] at hi
      cases hi
      have hil : i < ms.length := by rw [← hc.1]; exact (List.getElem?_eq_some_iff.mp hz).1
      have hpp := List.getElem?_eq_getElem hil
      generalize ms[i] = p0 at hpp
      obtain ⟨a, h1, h2⟩ := hc.2 i c p0 hz hpp
      refine ⟨c, _, rfl, .inl (.inl (sm _ _ (s78 _ _ h1))), rfl, _, _, rfl, _, _, rfl, rfl, rfl, yes ⟨_, rfl, _, e1, ?_, sNew sm hD2, ?_⟩⟩
      · rw [List.length_map, List.length_map, List.length_map, List.length_take]
        exact size900k (by omega)
      · rw [upd_same, List.take_add_one, hpp, List.map_append, List.map_append, List.map_append]
        rfl
  rintro H9 ⟨s89, eD2⟩
  rw [List.length_map, hc.1, List.take_length] at eD2
  refine ⟨D2, _, rfl, SqL.of eD2, by rw [List.length_map, List.length_map]; exact List.length_pos_iff.mpr hcne, fun m2 hm2 hle2 => ?_⟩
  obtain ⟨mst, hg1, hg2, rfl⟩ := max_of hm2 hle2
  obtain ⟨pg, hpg, rfl⟩ := List.mem_map.mp hg1
  have hmost : ∀ m ∈ ms, m.1 ≤ pg.1 := fun m hm => hg2 _ (List.mem_map.mpr ⟨m, hm, rfl⟩)
  have s79 := s78.trans s89
  refine ⟨_, rfl, fun b dx nb ndx neb => ⟨b, dx, t, ps, rfl, upd_same, ?_, hv, by omega, fun H10 fr10 bk => ⟨rfl, ?_⟩⟩⟩
  · exact hPT7.same (sNew (sNew s79 (s79.free ndx)) (s79.free nb))
  have s710 : Same H7 H10 := sTr (sNew (sNew s79 (s79.free ndx)) (s79.free nb)) fr10 (s79.free nb)
  refine ⟨_, rfl, b, ps, rfl, bk, hv, hl7, fun H11 c1 p1 s11 pa1 mb1 lb1 => ⟨_, rfl, b, ps, rfl, bk.same s11, hv, hl7, fun H12 c2 p2 s12 pa2 mb2 lb2 lb3 => ⟨_, _, rfl, ?_⟩⟩⟩
  rw [hms] at mb1 lb1 mb2 lb2 lb3
  have s712 := s710.trans (s11.trans s12)
  have pa1' := pa1.same s12
  have bk12 := bk.same (s11.trans s12)
  refine ⟨_, rfl, _, rfl, ?_⟩
  refine ⟨_, rfl, C, rfl, ⟨_, SqL.of (s712 _ _ eC)⟩, fun D3 hD3 => ?_⟩
  refine lc_list (xs := cs.map rv) (fun i H' => Same H12 H' ∧ ∃ as3 : List Addr, H' D3 = some (.lst (as3.map rv)) ∧ A2 (NT K H') as3 (((ms.take i).filter fun q => decide (q.1 = pf.1)).map (·.2))) ⟨sPut hD3, [], upd_same, A2.nil⟩ (fun i H' _ h => SqL.of (h.1 _ _ (s712 _ _ eC))) ?_ ?_
  · rintro i y H' hi ⟨sm, as3, e1, e2⟩
    rw [List.getElem?_map] at hi
    cases hz : cs[i]? with
    | none => rw [hz] at hi; cases hi
    | some c =>
      rw [hz] at hi
      cases hi
      have hil : i < ms.length := by rw [← hc.1]; exact (List.getElem?_eq_some_iff.mp hz).1
      have hpp := List.getElem?_eq_getElem hil
      generalize ms[i] = p0 at hpp
      obtain ⟨a, h1, h2⟩ := hc.2 i c p0 hz hpp
      refine ⟨c, _, rfl, .inl (.inl (sm _ _ (s712 _ _ h1))), rfl, _, _, rfl, _, _, rfl, rfl, rfl, _, rfl, _, rfl, rfl, _, rfl, ?_⟩
      rw [List.take_add_one, hpp, List.filter_append, List.map_append]
      refine ite2 (fun hu => ?_) (fun hu => ?_)
      · have hq : p0.1 = pf.1 := Int.ofNat_inj.mp (V.int.inj (of_decide_eq_true hu))
        have e : (some p0).toList.filter (fun q => decide (q.1 = pf.1)) = [p0] := by simp [hq]
        rw [e]
        refine ⟨_, rfl, _, e1, ?_, sNew sm hD3, as3 ++ [a], by rw [upd_same, List.map_append]; rfl, ?_⟩
        · rw [List.length_map, e2.1, List.length_map]
          exact size900k (Nat.le_trans (List.length_filter_le _ _) (by rw [List.length_take]; omega))
        · exact (e2.snoc ((h2.same s712).same sm)).imp fun _ _ h => NT.upd h (noT_l e1)
      · have hq : ¬ p0.1 = pf.1 := fun h => by
          rw [h] at hu
          rw [decide_eq_true rfl] at hu
          exact hu rfl
        have e : (some p0).toList.filter (fun q => decide (q.1 = pf.1)) = [] := by simp [hq]
        rw [e, List.map_nil, List.append_nil]
        exact ⟨sm, as3, e1, e2⟩
  rintro H13 ⟨s1213, as3, eD3, pc3⟩
  rw [List.length_map, hc.1, List.take_length] at pc3
  refine min_orders eD3 pc3 (fun e => ?_) fun cO oO hOt hOm hOle => ?_
  · have : pf.2 ∈ ((ms.filter fun q => decide (q.1 = pf.1)).map (·.2)) := List.mem_map.mpr ⟨pf, List.mem_filter.mpr ⟨hpf, by simp⟩, rfl⟩
    rw [e] at this
    cases this
  refine ⟨by show 2 ≤ sizeLine; decide, fun T14 hT14 => ?_⟩
  have s1214 : Same H12 (upd H13 T14 (.tup [iv pf.1, rv cO])) := sNew s1213 (s1213.free hT14)
  have hOt14 : NT K (upd H13 T14 (.tup [iv pf.1, rv cO])) cO oO := hOt.upd (noT_n hT14)
  obtain ⟨mO, hmO, rfl⟩ := List.mem_map.mp hOm
  obtain ⟨hmO1, hmO2⟩ := List.mem_filter.mp hmO
  have hmO3 : mO.1 = pf.1 := of_decide_eq_true hmO2
  obtain ⟨eb1, eb2⟩ := best_uniq (cs := ms) (c0 := p1.1) (o0 := p1.2) (c1 := pf.1) (o1 := mO.2) mb1 lb1 hfew (by rw [← hmO3]; exact hmO1) (fun r hr he => hOle _ (List.mem_map.mpr ⟨r, List.mem_filter.mpr ⟨hr, by simp [he]⟩, rfl⟩))
  refine ⟨PD p1.1 p1.2, PD pf.1 mO.2, dp_PD (pa1'.same s1214), dp_PD (p := (pf.1, mO.2)) ⟨cO, upd_same, hOt14⟩, shapedPD _ _, shapedPD _ _, false, ?_, iteF ?_⟩
  · rw [eb1, eb2, eqvPD]
    rfl
  generalize upd H13 T14 (.tup [iv pf.1, rv cO]) = H14 at s1214 ⊢
  have s714 := s712.trans s1214
  refine ⟨_, rfl, _, rfl, ?_⟩
  refine ⟨_, rfl, C, rfl, ⟨_, SqL.of (s714 _ _ eC)⟩, fun D4 hD4 => ?_⟩
  refine lc_list (xs := cs.map rv) (fun i H' => Same H14 H' ∧ ∃ as3 : List Addr, H' D4 = some (.lst (as3.map rv)) ∧ A2 (NT K H') as3 (((ms.take i).filter fun q => decide (q.1 = pg.1)).map (·.2))) ⟨sPut hD4, [], upd_same, A2.nil⟩ (fun i H' _ h => SqL.of (h.1 _ _ (s714 _ _ eC))) ?_ ?_
  · rintro i y H' hi ⟨sm, as3, e1, e2⟩
    rw [List.getElem?_map] at hi
    cases hz : cs[i]? with
    | none => rw [hz] at hi; cases hi
    | some c =>
      rw [hz] at hi
      cases hi
      have hil : i < ms.length := by rw [← hc.1]; exact (List.getElem?_eq_some_iff.mp hz).1
      have hpp := List.getElem?_eq_getElem hil
      generalize ms[i] = p0 at hpp
      obtain ⟨a, h1, h2⟩ := hc.2 i c p0 hz hpp
      refine ⟨c, _, rfl, .inl (.inl (sm _ _ (s714 _ _ h1))), rfl, _, _, rfl, _, _, rfl, rfl, rfl, _, rfl, _, rfl, rfl, _, rfl, ?_⟩
      rw [List.take_add_one, hpp, List.filter_append, List.map_append]
      refine ite2 (fun hu => ?_) (fun hu => ?_)
      · have hq : p0.1 = pg.1 := Int.ofNat_inj.mp (V.int.inj (of_decide_eq_true hu))
        have e : (some p0).toList.filter (fun q => decide (q.1 = pg.1)) = [p0] := by simp [hq]
        rw [e]
        refine ⟨_, rfl, _, e1, ?_, sNew sm hD4, as3 ++ [a], by rw [upd_same, List.map_append]; rfl, ?_⟩
        · rw [List.length_map, e2.1, List.length_map]
          exact size900k (Nat.le_trans (List.length_filter_le _ _) (by rw [List.length_take]; omega))
        · exact (e2.snoc ((h2.same s714).same sm)).imp fun _ _ h => NT.upd h (noT_l e1)
      · have hq : ¬ p0.1 = pg.1 := fun h => by
          rw [h] at hu
          rw [decide_eq_true rfl] at hu
          exact hu rfl
        have e : (some p0).toList.filter (fun q => decide (q.1 = pg.1)) = [] := by simp [hq]
        rw [e, List.map_nil, List.append_nil]
        exact ⟨sm, as3, e1, e2⟩
  rintro H15 ⟨s1415, as4, eD4, pc4⟩
  rw [List.length_map, hc.1, List.take_length] at pc4
  refine min_orders eD4 pc4 (fun e => ?_) fun cW oW hWt hWm hWle => ?_
  · have : pg.2 ∈ ((ms.filter fun q => decide (q.1 = pg.1)).map (·.2)) := List.mem_map.mpr ⟨pg, List.mem_filter.mpr ⟨hpg, by simp⟩, rfl⟩
    rw [e] at this
    cases this
  refine ⟨by show 2 ≤ sizeLine; decide, fun T16 hT16 => ?_⟩
  have s1416 : Same H14 (upd H15 T16 (.tup [iv pg.1, rv cW])) := sNew s1415 (s1415.free hT16)
  have hWt16 : NT K (upd H15 T16 (.tup [iv pg.1, rv cW])) cW oW := hWt.upd (noT_n hT16)
  obtain ⟨mW, hmW, rfl⟩ := List.mem_map.mp hWm
  obtain ⟨hmW1, hmW2⟩ := List.mem_filter.mp hmW
  have hmW3 : mW.1 = pg.1 := of_decide_eq_true hmW2
  have e21 : p2.1 = pg.1 := Nat.le_antisymm (hmost _ mb2) (lb2 _ hpg)
  have e22 : p2.2 = mW.2 := worst_uniq (cs := ms) (c := p2.1) mb2 lb3 (by rw [e21, ← hmW3]; exact hmW1) (fun r hr he => hWle _ (List.mem_map.mpr ⟨r, List.mem_filter.mpr ⟨hr, by rw [he, e21]; simp⟩, rfl⟩))
  have s1216 := s1214.trans s1416
  refine ⟨PD p2.1 p2.2, PD pg.1 mW.2, dp_PD (pa2.same s1216), dp_PD (p := (pg.1, mW.2)) ⟨cW, upd_same, hWt16⟩, shapedPD _ _, shapedPD _ _, false, ?_, iteF ?_⟩
  · rw [e21, e22, eqvPD]
    rfl
  generalize upd H15 T16 (.tup [iv pg.1, rv cW]) = H16 at s1416 s1216 ⊢
  obtain ⟨a1, ea1, na1⟩ := pa1'.same s1216
  obtain ⟨a2, ea2, na2⟩ := pa2.same s1216
  have bk16 := bk12.same s1216
  refine ⟨_, rfl, _, _, _, _, true, rfl, .ty "tuple", tyT (.inl (.inl ea1)), kIsTup, true, rfl, iteF ?_⟩
  refine ⟨_, rfl, c1, _, _, iv p1.1, rfl, rfl, .inl (.inl ea1), rfl, _, rfl, true, rfl, iteF ?_⟩
  obtain ⟨ok2, cnt2⟩ := hmem p2 mb2
  have hml2 : (movedM ps p2.2).length = ps.length := by rw [movedM_length, ok2.len]
  refine ⟨_, rfl, _, rfl, c2, _, _, rv a2, rfl, rfl, .inl (.inl ea2), rfl, b, a2, ps, p2.2, rfl, bk16, hv, by omega, na2, ok2, fun H17 b17 s17 hb17 => ?_⟩
  refine ⟨b17, movedM ps p2.2, rfl, hb17, by omega, fun H18 t18 s18 ht18 => ?_⟩
  have hsl2 := slotsM_length (isA (movedM ps p2.2)) (movedM ps p2.2).length
  rw [hml2] at ht18 hsl2
  refine ⟨t18, (slotsM (isA (movedM ps p2.2)) ps.length).map (fun n : Nat => (n : Int)), rfl, by rw [← iv_map]; exact ht18, by rw [List.length_map, hsl2]; omega, fun ks h1 h2 => ?_⟩
  rw [ndist_of h1 h2, ← cnt2, e21]
  refine ⟨_, rfl, rfl, false, by rw [decide_eq_true rfl]; rfl, iteF ?_⟩
  have hP18 := hP7.same (s712.trans (s1216.trans (s17.trans s18)))
  refine ⟨_, rfl, _, rfl, p, q, 9, rfl, hP18, by decide, by decide, fun H19 d9 fr19 hP19 hd9 => ⟨_, _, rfl, rfl, p, q, 8 + d9, rfl, hP19, by omega, fun H20 tg psg fr20 hP20 hPT20 hlg hvg => ?_⟩⟩
  refine fun bg dxg nbg ndxg nebg => ⟨bg, dxg, tg, psg, rfl, upd_same, hPT20.same (sNew (sPut ndxg) nbg), hvg, by omega, fun H21 fr21 bk21 => ⟨rfl, ?_⟩⟩
  refine ⟨_, rfl, 0, bg, psg, rfl, by decide, bk21, by omega, fun H22 s22 => ⟨rfl, false, rfl, iteF ?_⟩⟩
  refine ⟨_, rfl, 1, bg, psg, rfl, by decide, bk21.same s22, by omega, fun H23 s23 => ⟨rfl, false, rfl, iteF ?_⟩⟩
  have val0 : Valid [] := fun k l h => by simp at h
  have val1 : Valid [[]] := fun k l h => by
    have hk : k < 1 := (List.getElem?_eq_some_iff.mp h).1
    have : k = 0 := by omega
    subst this
    cases h
    exact ⟨lot_nil 0, by decide⟩
  refine ⟨Nat.zero_le _, fun te hte be dxe nbe ndxe nebe => ?_⟩
  have be1 : be ≠ te := fun e => by rw [e, upd_same] at nbe; cases nbe
  have de1 : dxe ≠ te := fun e => by rw [e, upd_same] at ndxe; cases ndxe
  refine ⟨be, dxe, te, [], rfl, upd_same, ⟨[], .inl (.inl (by rw [upd_ne (Ne.symm be1), upd_ne (Ne.symm de1), upd_same]; rfl)), Nts.nil⟩, val0, by decide, fun H24 fr24 bk24 => ⟨rfl, ?_⟩⟩
  refine ⟨be, [], rfl, bk24, val0, by decide, fun H25 c3 p3 s25 pa3 m3 le3 => ?_⟩
  have e3 : p3 = (0, []) := by
    have h : countsM [] = [(0, [])] := rfl
    rw [h] at m3
    exact List.mem_singleton.mp m3
  refine ⟨Nat.zero_le _, fun tz htz => ⟨by show 2 ≤ sizeLine; decide, fun TZ hTZ => ?_⟩⟩
  have sz1 : Same H25 (upd H25 tz (.tup [])) := sPut htz
  have sz2 : Same H25 (upd (upd H25 tz (.tup [])) TZ (.tup [.int 0, rv tz])) := sNew sz1 (sz1.free hTZ)
  have ntz : tz ≠ TZ := ne_of_none upd_same hTZ
  refine ⟨PD p3.1 p3.2, PD 0 [], dp_PD (pa3.same sz2), dp_PD (p := (0, [])) ⟨tz, upd_same, .inl (.inl (by rw [upd_ne ntz, upd_same]; rfl))⟩, shapedPD _ _, shapedPD _ _, true, by rw [e3, eqvPD], iteT ?_⟩
  refine ⟨Nat.zero_le _, fun tf htf => ⟨by show 1 ≤ sizeLine; decide, fun Tf hTf bf dxf nbf ndxf nebf => ?_⟩⟩
  have nf1 : tf ≠ Tf := ne_of_none upd_same hTf
  have bf1 : Tf ≠ bf := ne_of_none upd_same nbf
  have df1 : Tf ≠ dxf := ne_of_none upd_same ndxf
  have sf1 : NT K (upd (upd (upd (upd (upd (upd H25 tz (.tup [])) TZ (.tup [.int 0, rv tz])) tf (.tup [])) Tf (.tup [rv tf])) dxf (.own bf)) bf (.ins (cB K) dxf [])) tf [] := by
    have z0 : NT K (upd (upd (upd (upd H25 tz (.tup [])) TZ (.tup [.int 0, rv tz])) tf (.tup [])) Tf (.tup [rv tf])) tf [] := .inl (.inl (by rw [upd_ne nf1, upd_same]; rfl))
    exact (z0.upd (noT_n ndxf)).upd (noT_n (by rw [upd_ne (Ne.symm nebf)]; exact nbf))
  refine ⟨bf, dxf, Tf, [[]], rfl, upd_same, ⟨[tf], .inl (.inl (by rw [upd_ne bf1, upd_ne df1, upd_same]; rfl)), Nts.snoc (as := []) (ls := []) Nts.nil sf1⟩, val1, by decide, fun H27 fr27 bk27 => ⟨rfl, ?_⟩⟩
  refine ⟨bf, [[]], rfl, bk27, val1, by decide, fun H28 c4 p4 s28 pa4 m4 le4 le5 => ?_⟩
  have e4 : p4 = (1, [0]) := by
    have h : countsM [[]] = [(1, [0])] := rfl
    rw [h] at m4
    exact List.mem_singleton.mp m4
  refine ⟨by show 1 ≤ sizeLine; decide, fun to hto => ⟨by show 2 ≤ sizeLine; decide, fun TO hTO => ?_⟩⟩
  have so1 : Same H28 (upd H28 to (.tup [.int 0])) := sPut hto
  have so2 : Same H28 (upd (upd H28 to (.tup [.int 0])) TO (.tup [.int 1, rv to])) := sNew so1 (so1.free hTO)
  have nto : to ≠ TO := ne_of_none upd_same hTO
  refine ⟨PD p4.1 p4.2, PD 1 [0], dp_PD (pa4.same so2), dp_PD (p := (1, [0])) ⟨to, upd_same, .inl (.inl (by rw [upd_ne nto, upd_same]; rfl))⟩, shapedPD _ _, shapedPD _ _, ?_⟩
  rw [e4, eqvPD]
  exact k _
end
end K32
set_option Elab.async false
set_option linter.all false
set_option maxRecDepth 100000
set_option maxHeartbeats 0
namespace K32
open PySem PySem.Spec PyProof.Rows L2
/-! ### what the head tells -/
def fa0 : List He.Fa := [.glo "is_integer", .glo "is_within", .glo "is_lot", .glo "are_all", .glo "check_most", .glo "are_parents", .glo "book_of", .glo "many_of", .glo "is_one", .glo "reordered", .glo "entries_of", .glo "gone_through", .glo "placed", .glo "all_orders", .glo "may_come", .glo "counts_of"]
def fa1 : List He.Fa := [.glo "best_order", .glo "worst_order", .glo "_law_pool", .glo "_law_draw", .glo "_law_mixed", .glo "_law_is_int", .glo "_law_lot", .glo "_law_parents", .glo "_law_above", .glo "_law_orders", .glo "_law_groups_done", .glo "_law_moved", .glo "_law_most_refused", .glo "law", .glo "Book", .glo "Groups"]
def fa2 : List He.Fa := [.glo "TooMany", .free "len", .free "isinstance", .free "int", .free "bool", .free "tuple", .free "all", .free "set", .free "range", .free "enumerate", .free "sorted", .free "min", .free "max", .free "sum", .free "abs", .free "list"]
def fa3 : List He.Fa := [.free "super", .cls "Book", .cls "Groups", .noat "Book" "parents", .noat "Book" "bits", .noat "Groups" "lots", .noat "Groups" "held", .meth "Book" "fill", .meth "Groups" "fitting", .meth "Groups" "taken", .meth "Groups" "put", .mkr "Book", .mkr "Groups", .int "MOST_PARENTS" 6, .int "MOST_KINDS" 400, .int "MOST_ORDERED" 7]
def fa : List He.Fa := fa0 ++ fa1 ++ fa2 ++ fa3
abbrev PW : Program := PySem.Challenge.pw_latekinds_k32_whole_best_and_worst_order
def tooC (K : PySem.W.Frag) : Addr := He.ga K "TooMany"
def tooI (K : PySem.W.Frag) : Addr := He.ma K (tooC K) "__init__"
/-- the function's text; its closure, its code apart -/
abbrev TooV : Type := Option (Str × Str × Arguments × FuncBody × Scope × Addr × Addr)
def tooFn (K : PySem.W.Frag) : TooV := match K.lookup (tooI K) with
  | some ⟨_, _, .func fd, _⟩ => some (fd.name, fd.qualname, fd.params, fd.body, fd.scope, fd.globals, fd.builtins)
  | _ => none
def tooVal : TooV := some ("__init__", "TooMany.__init__", defArgs sTooInit, .stmts (defBody sTooInit), defScope sTooInit, mainGlobals, builtinsNs)
/-- the code's address, the cell's -/
def tooAt (K : PySem.W.Frag) : Option (Addr × Addr) := match K.lookup (tooI K) with
  | some ⟨_, _, .func fd, _⟩ => (match fd.closure, fd.code, fd.defaults with
    | [(n, cc)], .ref cda, .none => if n = ("__class__" : Str) then some (cda, cc) else none
    | _, _, _ => none)
  | _ => none
def fileV : Option Value → Bool
  | some (.str file _) => ((PW.main.file : Str) == file)
  | _ => false
def fileB (K : PySem.W.Frag) (cda : Addr) : Bool := match K.lookup cda with
  | some ⟨_, _, .fields vs, _⟩ => fileV vs[2]?
  | _ => false
def cellB (K : PySem.W.Frag) (C cc : Addr) : Bool := match K.lookup cc with
  | some ⟨_, _, .cell (some (.ref D)), _⟩ => decide (D = C)
  | _ => false
def oneB (K : PySem.W.Frag) (C : Addr) : Bool := (PySem.W.clsIn K C).any fun cd => PySem.HandSPX.refsVE cd.mro && cd.hasDict
def tooB (K : PySem.W.Frag) : Bool :=
  PySem.W.excInitIn K (tooC K) He.veBase "ValueError.__new__" && (oneB K (tooC K) && (He.eqO (PySem.W.ks_superIn K (tooC K) (tooC K) "__init__") (some (some (.builtin "ValueError.__init__"))) &&
  (He.eqO (PySem.W.findIn K (.ref (tooC K)) "__setattr__") (some (some (.builtin "object.__setattr__"))) && (He.eqO (PySem.W.findIn K (.ref (tooC K)) "__getattribute__") (some (some (.builtin "BaseException.__getattribute__"))) &&
  (He.eqO (PySem.W.findIn K (.ref (tooC K)) "__getattr__") (some none) && (He.eqO (PySem.W.findIn K (.ref (tooC K)) "most") (some none) && (He.eqO (PySem.W.findIn K (.ref (tooC K)) "__init__") (some (some (.ref (tooI K)))) &&
  (PySem.W.isFn K (.ref (tooI K)) && (PySem.W.keepIn K (.ref (tooC K)) && (decide (PySem.W.subIn K (.ref (tooC K)) (.type "BaseException") = some true) && (decide (PySem.W.subIn K (.ref (tooC K)) (.type "ValueError") = some true) &&
  (decide (PySem.W.mroIn K (tooC K) (.ref (tooC K)) = some true) && (decide (PySem.W.typeIn K (.ref (tooC K)) = some (.type "type")) && (PySem.W.hasDictIn K (tooC K) && (decide (PySem.W.exmOne K (.ref (tooC K)) (.ref (tooC K)) = some true) &&
  (He.eqO (PySem.W.nsIn K cStatics "thirdparty.any") (some none) && (match tooAt K with
    | some (cda, cc) => PySem.W.codeIn K (.ref cda) "TooMany.__init__" && (fileB K cda && cellB K (tooC K) cc)
    | none => false)))))))))))))))))
def asK (g : Addr → Option Obj) : List Addr := He.asD g 5 ++ [cStatics]
def KK (g : Addr → Option Obj) : PySem.W.Frag := He.frT g (asK g)
abbrev AlK : Type := He.AlD × (Bool × TooV)
section
variable (fa : List He.Fa) (fn : List He.DefD) (ex : PySem.W.Frag → Bool) (tf : PySem.W.Frag → TooV) (tv : TooV)
def obG (g : Addr → Option Obj) : AlK := (He.obsD fa fn (KK g), ex (KK g), tf (KK g))
def hkG : PySem.W.Hook where
  α := AlK
  obs := fun s => obG fa fn ex tf s.heap.get?
  val := fun _ => (He.valD fn, true, tv)
  says := fun _ h => ∃ K : PySem.W.Frag, K.In h ∧ He.SaysD fa fn K ∧ ex K = true ∧ tf K = tv
  of := fun _ _ e => ⟨_, He.frT_in, congrArg (fun z : AlK => z.1) e, congrArg (fun z : AlK => z.2.1) e, congrArg (fun z : AlK => z.2.2) e⟩
  keeps := fun _ _ _ ⟨K, hK, c⟩ k => ⟨K, PySem.W.Frag.In.keeps hK k, c⟩
theorem obG_eq {g : Addr → Option Obj} {s : Shared} (h : ∀ a, g a = s.heap.get? a) : obG fa fn ex tf g = (hkG fa fn ex tf tv).obs s := by
  have e : g = s.heap.get? := funext h
  rw [e] <;> rfl
end
abbrev hkK : PySem.W.Hook := hkG fa (fn ++ fn2) tooB tooFn tooVal
def ob (s : PySem.W.SharedT) : AlK := obG fa (fn ++ fn2) tooB tooFn (HandSHeadRun.getT s)
theorem ob_eq (s : PySem.W.SharedT) : ob s = hkK.obs s.abs := obG_eq fa (fn ++ fn2) tooB tooFn tooVal (HandSHeadRun.getT_eq s)
abbrev R : PySem.W.OpenRow := PySem.W.OpenLaw.row PySem.Challenge.rw_latekinds_k32_whole_best_and_worst_order
theorem run (w : World) : HandSHeadRun.RunEq R (PySem.W.view R.prog [44]) hkK ob 3000 (loose1 ++ loose2) w := by
  intro os
  kernel_rfl
end K32
set_option Elab.async false
set_option linter.all false
set_option maxRecDepth 100000
set_option maxHeartbeats 4000000
namespace K32
open PySem PySem.Spec PyProof.Rows L2
theorem too_cls {K : PySem.W.Frag} {C : Addr} (h1 : PySem.W.excInitIn K C He.veBase "ValueError.__new__" = true) (h2 : oneB K C = true) :
    ∃ nm q N bs bm sn sub ab col dd k0 k1 k2 k3 k5, K.lookup C = some (excClassObj nm q C N bs bm true sn sub ab col dd k0 k1 k2 k3 k5 "ValueError.__new__") ∧ PySem.HandSPX.refsVE bm = true := by
  unfold PySem.W.excInitIn at h1
  split at h1
  · rename_i dd cd sl ho
    split at h1
    · rename_i C' bm k0 k1 k2 k3 n k5 hm hs
      simp only [Bool.and_eq_true, beq_iff_eq, Bool.not_eq_true'] at h1
      obtain ⟨⟨⟨rfl, rfl⟩, hdel⟩, ht⟩ := h1
      have hcl : PySem.W.clsIn K C' = some cd := by unfold PySem.W.clsIn; rw [ho] <;> rfl
      unfold oneB at h2
      rw [hcl] at h2
      obtain ⟨h3, h4⟩ := He.ba (show (PySem.HandSPX.refsVE cd.mro && cd.hasDict) = true from h2)
      obtain ⟨nm, bs, mro, ns, qn, hd, sn, sub, ab, col, del⟩ := cd
      dsimp only at hm hdel h3 h4
      subst hm hdel h4
      have hsl : sl = #[k0, k1, k2, k3, some (.builtin "ValueError.__new__"), k5] := by
        obtain ⟨l⟩ := sl
        simp only at hs
        rw [hs]
      subst hsl
      exact ⟨nm, qn, ns, bs, bm, sn, sub, ab, col, dd, k0, k1, k2, k3, k5, ho, h3⟩
    · cases h1
  · cases h1
theorem file_of {K : PySem.W.Frag} {cda : Addr} (h : fileB K cda = true) : ∃ (ccl : Value) (cdd : Option Addr) (vs : Array Value) (ccs : Array (Option Value)) (file : Str) (tf : Tok), K.lookup cda = some ⟨ccl, cdd, .fields vs, ccs⟩ ∧ vs[2]? = some (.str file tf) ∧ ((PW.main.file : Str) == file) = true := by
  unfold fileB at h
  split at h
  · rename_i a b vs d ho
    unfold fileV at h
    split at h
    · rename_i file tf hv
      exact ⟨a, b, vs, d, file, tf, ho, hv, h⟩
    · cases h
  · cases h
theorem cell_of {K : PySem.W.Frag} {C cc : Addr} (h : cellB K C cc = true) : ∃ (cl : Value) (cld : Option Addr) (csl : Array (Option Value)), K.lookup cc = some ⟨cl, cld, .cell (some (.ref C)), csl⟩ := by
  unfold cellB at h
  split at h
  · rename_i a b D d ho
    have e : D = C := of_decide_eq_true h
    rw [e] at ho
    exact ⟨a, b, d, ho⟩
  · cases h
theorem too_fn {K : PySem.W.Frag} {cda cc : Addr} (e : tooFn K = tooVal) (a : tooAt K = some (cda, cc)) : ∃ (oc : Value) (od : Option Addr) (kV doc pm : Value) (an : Option Addr) (ct : Value) (osl : Array (Option Value)),
    K.lookup (tooI K) = some ⟨oc, od, .func (PySem.W.ksFn "__init__" "TooMany.__init__" (defArgs sTooInit) (defBody sTooInit) (defScope sTooInit) .none kV doc pm an (.ref cda) ct cc), osl⟩ := by
  unfold tooFn at e
  unfold tooAt at a
  cases q : K.lookup (tooI K) with
  | none =>
    rw [q] at a
    cases a
  | some o =>
    obtain ⟨oc, od, dt, osl⟩ := o
    rw [q] at e a
    cases dt with
    | func fd =>
      obtain ⟨n1, n2, n3, n4, n5, n6, n7, n8, n9, n10, n11, n12, n13, n14, n15⟩ := fd
      have e2 : (some (n1, n2, n3, n4, n5, n6, n15) : TooV) = (some ("__init__", "TooMany.__init__", defArgs sTooInit, FuncBody.stmts (defBody sTooInit), defScope sTooInit, mainGlobals, builtinsNs) : TooV) := e
      simp only [Option.some.injEq, Prod.mk.injEq] at e2
      obtain ⟨g1, g2, g3, g4, g5, g6, g7⟩ := e2
      dsimp only at a
      split at a
      · rename_i n cc' cda' _ _ _
        split at a
        · rename_i hn
          have z := Option.some.inj a
          injection z with z1 z2
          subst z1 z2 hn g1 g2 g3 g4 g5 g6 g7
          exact ⟨oc, od, n9, n10, n11, n12, n14, osl, rfl⟩
        · cases a
      · cases a
    | _ => cases a
/-! ### TooMany's text from the head's Bool -/
theorem too_of {K : PySem.W.Frag} (h : tooB K = true) (e : tooFn K = tooVal) : ∃ cc cda, TooTxt PW K (tooC K) (tooI K) cc cda := by
  unfold tooB at h
  obtain ⟨h1, h⟩ := He.ba h
  obtain ⟨h2, h⟩ := He.ba h
  obtain ⟨h3, h⟩ := He.ba h
  obtain ⟨h4, h⟩ := He.ba h
  obtain ⟨h5, h⟩ := He.ba h
  obtain ⟨h6, h⟩ := He.ba h
  obtain ⟨h7, h⟩ := He.ba h
  obtain ⟨h8, h⟩ := He.ba h
  obtain ⟨h9, h⟩ := He.ba h
  obtain ⟨h10, h⟩ := He.ba h
  obtain ⟨h11, h⟩ := He.ba h
  obtain ⟨h12, h⟩ := He.ba h
  obtain ⟨h13, h⟩ := He.ba h
  obtain ⟨h14, h⟩ := He.ba h
  obtain ⟨h15, h⟩ := He.ba h
  obtain ⟨h16, h⟩ := He.ba h
  obtain ⟨h17, h18⟩ := He.ba h
  cases ha : tooAt K with
  | none => rw [ha] at h18; cases h18
  | some p =>
    obtain ⟨cda, cc⟩ := p
    rw [ha] at h18
    obtain ⟨h19, h20⟩ := He.ba h18
    obtain ⟨h21, h22⟩ := He.ba h20
    refine ⟨cc, cda, ?_⟩
    exact {
      cls := too_cls h1 h2
      sup := He.eqO_ok h3
      sa := He.eqO_ok h4
      ga := He.eqO_ok h5
      gg := He.eqO_ok h6
      noN := He.eqO_ok h7
      iC := He.eqO_ok h8
      tC := by
        unfold PySem.W.isFn at h9
        exact eq_of_beq h9
      kC := h10
      exC := of_decide_eq_true h11
      veC := of_decide_eq_true h12
      self := of_decide_eq_true h13
      tyC := of_decide_eq_true h14
      hdC := h15
      te := of_decide_eq_true h16
      stat := He.eqO_ok h17
      fn := too_fn e ha
      code := h19
      file := file_of h21
      top := by kernel_rfl
      cell := cell_of h22 }
open C8
section
variable {K : PySem.W.Frag} {mg : Str → Option Value}
theorem defX {d : He.DefD} {x : Str} {st : Stmt} (h : ∃ fd, FunD K d.name d.qual d.params d.body d.scope (d.dvs K) (d.kws K) (He.fAd K d.at_) fd) (hd : d = ⟨(x, none), x, x, defArgs st, defBody st, defScope st, [], []⟩) (g : mg x = some (.ref (He.ga K x))) : DefX K mg x st := by
  subst hd
  obtain ⟨fd, F⟩ := h
  exact ⟨_, fd, F, g⟩
theorem metX {d : He.DefD} {x m q : Str} {st : Stmt} (h : ∃ fd, FunD K d.name d.qual d.params d.body d.scope (d.dvs K) (d.kws K) (He.fAd K d.at_) fd) (hd : d = ⟨(x, some m), m, q, defArgs st, defBody st, defScope st, [], []⟩) (g : Meth K (He.ga K x) m (He.ma K (He.ga K x) m)) (c : Cls K (He.ga K x)) : MetX K (He.ga K x) m q st := by
  subst hd
  obtain ⟨fd, F⟩ := h
  exact ⟨_, fd, F, g, c⟩
theorem makX {d : He.DefD} {x q : Str} {st : Stmt} (h : ∃ fd, FunD K d.name d.qual d.params d.body d.scope (d.dvs K) (d.kws K) (He.fAd K d.at_) fd) (hd : d = ⟨(x, some "__init__"), "__init__", q, defArgs st, defBody st, defScope st, [], []⟩) (g : Mk K (He.ga K x) (He.ma K (He.ga K x) "__init__")) (hm : mg x = some (.ref (He.ga K x))) : MakX K mg x q st := by
  subst hd
  obtain ⟨fd, F⟩ := h
  exact ⟨_, fd, F, g, hm⟩
end
theorem facts {w : World} {K : PySem.W.Frag} {h : Heap} {mg : Str → Option Value} {f : Addr} (X : K.In h) (G : h.Ns mainGlobals mg) (hfa : mg ("law" : Str) = some (.ref f)) (c : He.SaysD fa (fn ++ fn2) K) (tb : tooB K = true) (te : tooFn K = tooVal) :
    ∃ fd : FuncData, (∀ (s : Shared) (v : Value), BindsTo s fd ⟨[v], []⟩ [("_law_script", v)]) ∧ ∀ base : Heap, K.In base → base.Ns mainGlobals mg → FnOk PW w K mg base L2.CX0 11 f fd ["_law_script"] (spLaw K) := by
  have dIsIntegerX : DefX K mg "is_integer" sIsInteger := defX (d := dIsInteger) (c.def_ 0 (d := dIsInteger) rfl) rfl (He.glo_ok X G (c.fact 0 (f := .glo "is_integer") rfl))
  have dIsWithinX : DefX K mg "is_within" sIsWithin := defX (d := dIsWithin) (c.def_ 1 (d := dIsWithin) rfl) rfl (He.glo_ok X G (c.fact 1 (f := .glo "is_within") rfl))
  have dIsLotX : DefX K mg "is_lot" sIsLot := defX (d := dIsLot) (c.def_ 2 (d := dIsLot) rfl) rfl (He.glo_ok X G (c.fact 2 (f := .glo "is_lot") rfl))
  have dAreAllX : DefX K mg "are_all" sAreAll := defX (d := dAreAll) (c.def_ 3 (d := dAreAll) rfl) rfl (He.glo_ok X G (c.fact 3 (f := .glo "are_all") rfl))
  have dCheckMostX : DefX K mg "check_most" sCheckMost := defX (d := dCheckMost) (c.def_ 4 (d := dCheckMost) rfl) rfl (He.glo_ok X G (c.fact 4 (f := .glo "check_most") rfl))
  have dAreParentsX : DefX K mg "are_parents" sAreParents := defX (d := dAreParents) (c.def_ 5 (d := dAreParents) rfl) rfl (He.glo_ok X G (c.fact 5 (f := .glo "are_parents") rfl))
  have dBookOfX : DefX K mg "book_of" sBookOf := defX (d := dBookOf) (c.def_ 6 (d := dBookOf) rfl) rfl (He.glo_ok X G (c.fact 6 (f := .glo "book_of") rfl))
  have dManyOfX : DefX K mg "many_of" sManyOf := defX (d := dManyOf) (c.def_ 7 (d := dManyOf) rfl) rfl (He.glo_ok X G (c.fact 7 (f := .glo "many_of") rfl))
  have dIsOneX : DefX K mg "is_one" sIsOne := defX (d := dIsOne) (c.def_ 8 (d := dIsOne) rfl) rfl (He.glo_ok X G (c.fact 8 (f := .glo "is_one") rfl))
  have dReorderedX : DefX K mg "reordered" sReordered := defX (d := dReordered) (c.def_ 9 (d := dReordered) rfl) rfl (He.glo_ok X G (c.fact 9 (f := .glo "reordered") rfl))
  have dEntriesOfX : DefX K mg "entries_of" sEntriesOf := defX (d := dEntriesOf) (c.def_ 10 (d := dEntriesOf) rfl) rfl (He.glo_ok X G (c.fact 10 (f := .glo "entries_of") rfl))
  have dGoneThroughX : DefX K mg "gone_through" sGoneThrough := defX (d := dGoneThrough) (c.def_ 11 (d := dGoneThrough) rfl) rfl (He.glo_ok X G (c.fact 11 (f := .glo "gone_through") rfl))
  have dPlacedX : DefX K mg "placed" sPlaced := defX (d := dPlaced) (c.def_ 12 (d := dPlaced) rfl) rfl (He.glo_ok X G (c.fact 12 (f := .glo "placed") rfl))
  have dAllOrdersX : DefX K mg "all_orders" sAllOrders := defX (d := dAllOrders) (c.def_ 13 (d := dAllOrders) rfl) rfl (He.glo_ok X G (c.fact 13 (f := .glo "all_orders") rfl))
  have dMayComeX : DefX K mg "may_come" sMayCome := defX (d := dMayCome) (c.def_ 14 (d := dMayCome) rfl) rfl (He.glo_ok X G (c.fact 14 (f := .glo "may_come") rfl))
  have dCountsOfX : DefX K mg "counts_of" sCountsOf := defX (d := dCountsOf) (c.def_ 15 (d := dCountsOf) rfl) rfl (He.glo_ok X G (c.fact 15 (f := .glo "counts_of") rfl))
  have dBestOrderX : DefX K mg "best_order" sBestOrder := defX (d := dBestOrder) (c.def_ 16 (d := dBestOrder) rfl) rfl (He.glo_ok X G (c.fact 16 (f := .glo "best_order") rfl))
  have dWorstOrderX : DefX K mg "worst_order" sWorstOrder := defX (d := dWorstOrder) (c.def_ 17 (d := dWorstOrder) rfl) rfl (He.glo_ok X G (c.fact 17 (f := .glo "worst_order") rfl))
  have dLPoolX : DefX K mg "_law_pool" sLPool := defX (d := dLPool) (c.def_ 18 (d := dLPool) rfl) rfl (He.glo_ok X G (c.fact 18 (f := .glo "_law_pool") rfl))
  have dLDrawX : DefX K mg "_law_draw" sLDraw := defX (d := dLDraw) (c.def_ 19 (d := dLDraw) rfl) rfl (He.glo_ok X G (c.fact 19 (f := .glo "_law_draw") rfl))
  have dLMixedX : DefX K mg "_law_mixed" sLMixed := defX (d := dLMixed) (c.def_ 20 (d := dLMixed) rfl) rfl (He.glo_ok X G (c.fact 20 (f := .glo "_law_mixed") rfl))
  have dLIsIntX : DefX K mg "_law_is_int" sLIsInt := defX (d := dLIsInt) (c.def_ 21 (d := dLIsInt) rfl) rfl (He.glo_ok X G (c.fact 21 (f := .glo "_law_is_int") rfl))
  have dLLotX : DefX K mg "_law_lot" sLLot := defX (d := dLLot) (c.def_ 22 (d := dLLot) rfl) rfl (He.glo_ok X G (c.fact 22 (f := .glo "_law_lot") rfl))
  have dLParentsX : DefX K mg "_law_parents" sLParents := defX (d := dLParents) (c.def_ 23 (d := dLParents) rfl) rfl (He.glo_ok X G (c.fact 23 (f := .glo "_law_parents") rfl))
  have dLAboveX : DefX K mg "_law_above" sLAbove := defX (d := dLAbove) (c.def_ 24 (d := dLAbove) rfl) rfl (He.glo_ok X G (c.fact 24 (f := .glo "_law_above") rfl))
  have dLOrdersX : DefX K mg "_law_orders" sLOrders := defX (d := dLOrders) (c.def_ 25 (d := dLOrders) rfl) rfl (He.glo_ok X G (c.fact 25 (f := .glo "_law_orders") rfl))
  have dLGroupsDoneX : DefX K mg "_law_groups_done" sLGroupsDone := defX (d := dLGroupsDone) (c.def_ 26 (d := dLGroupsDone) rfl) rfl (He.glo_ok X G (c.fact 26 (f := .glo "_law_groups_done") rfl))
  have dLMovedX : DefX K mg "_law_moved" sLMoved := defX (d := dLMoved) (c.def_ 27 (d := dLMoved) rfl) rfl (He.glo_ok X G (c.fact 27 (f := .glo "_law_moved") rfl))
  have dLMostRefusedX : DefX K mg "_law_most_refused" sLMostRefused := defX (d := dLMostRefused) (c.def_ 28 (d := dLMostRefused) rfl) rfl (He.glo_ok X G (c.fact 28 (f := .glo "_law_most_refused") rfl))
  have dThelawX : DefX K mg "law" sThelaw := defX (d := dThelaw) (c.def_ 29 (d := dThelaw) rfl) rfl (He.glo_ok X G (c.fact 29 (f := .glo "law") rfl))
  have dBookFillX : MetX K (He.ga K "Book") "fill" "Book.fill" sBookFill := metX (d := dBookFill) (c.def_ 31 (d := dBookFill) rfl) rfl (He.meth_ok (c.fact 55 (f := .meth "Book" "fill") rfl)) (He.cls_ok (c.fact 49 (f := .cls "Book") rfl))
  have dGroupsFittingX : MetX K (He.ga K "Groups") "fitting" "Groups.fitting" sGroupsFitting := metX (d := dGroupsFitting) (c.def_ 33 (d := dGroupsFitting) rfl) rfl (He.meth_ok (c.fact 56 (f := .meth "Groups" "fitting") rfl)) (He.cls_ok (c.fact 50 (f := .cls "Groups") rfl))
  have dGroupsTakenX : MetX K (He.ga K "Groups") "taken" "Groups.taken" sGroupsTaken := metX (d := dGroupsTaken) (c.def_ 34 (d := dGroupsTaken) rfl) rfl (He.meth_ok (c.fact 57 (f := .meth "Groups" "taken") rfl)) (He.cls_ok (c.fact 50 (f := .cls "Groups") rfl))
  have dGroupsPutX : MetX K (He.ga K "Groups") "put" "Groups.put" sGroupsPut := metX (d := dGroupsPut) (c.def_ 35 (d := dGroupsPut) rfl) rfl (He.meth_ok (c.fact 58 (f := .meth "Groups" "put") rfl)) (He.cls_ok (c.fact 50 (f := .cls "Groups") rfl))
  have dBookInitX : MakX K mg "Book" "Book.__init__" sBookInit := makX (d := dBookInit) (c.def_ 30 (d := dBookInit) rfl) rfl (He.mkr_ok (c.fact 59 (f := .mkr "Book") rfl)) (He.glo_ok X G (c.fact 30 (f := .glo "Book") rfl))
  have dGroupsInitX : MakX K mg "Groups" "Groups.__init__" sGroupsInit := makX (d := dGroupsInit) (c.def_ 32 (d := dGroupsInit) rfl) rfl (He.mkr_ok (c.fact 60 (f := .mkr "Groups") rfl)) (He.glo_ok X G (c.fact 31 (f := .glo "Groups") rfl))
  have T : Txt K mg := {
    «len» := He.free_ok X G (c.fact 33 (f := .free "len") rfl)
    «isinstance» := He.free_ok X G (c.fact 34 (f := .free "isinstance") rfl)
    «int» := He.free_ok X G (c.fact 35 (f := .free "int") rfl)
    «bool» := He.free_ok X G (c.fact 36 (f := .free "bool") rfl)
    «tuple» := He.free_ok X G (c.fact 37 (f := .free "tuple") rfl)
    «all» := He.free_ok X G (c.fact 38 (f := .free "all") rfl)
    «set» := He.free_ok X G (c.fact 39 (f := .free "set") rfl)
    «range» := He.free_ok X G (c.fact 40 (f := .free "range") rfl)
    «enumerate» := He.free_ok X G (c.fact 41 (f := .free "enumerate") rfl)
    «sorted» := He.free_ok X G (c.fact 42 (f := .free "sorted") rfl)
    «min» := He.free_ok X G (c.fact 43 (f := .free "min") rfl)
    «max» := He.free_ok X G (c.fact 44 (f := .free "max") rfl)
    «sum» := He.free_ok X G (c.fact 45 (f := .free "sum") rfl)
    «abs» := He.free_ok X G (c.fact 46 (f := .free "abs") rfl)
    «list» := He.free_ok X G (c.fact 47 (f := .free "list") rfl)
    book := He.glo_ok X G (c.fact 30 (f := .glo "Book") rfl)
    clB := He.cls_ok (c.fact 49 (f := .cls "Book") rfl)
    bPar := He.noat_ok (c.fact 51 (f := .noat "Book" "parents") rfl)
    bBit := He.noat_ok (c.fact 52 (f := .noat "Book" "bits") rfl)
    groups := He.glo_ok X G (c.fact 31 (f := .glo "Groups") rfl)
    clG := He.cls_ok (c.fact 50 (f := .cls "Groups") rfl)
    gLot := He.noat_ok (c.fact 53 (f := .noat "Groups" "lots") rfl)
    gHel := He.noat_ok (c.fact 54 (f := .noat "Groups" "held") rfl)
    mostP := He.int_ok X G (c.fact 61 (f := .int "MOST_PARENTS" 6) rfl)
    mostK := He.int_ok X G (c.fact 62 (f := .int "MOST_KINDS" 400) rfl)
    mostO := He.int_ok X G (c.fact 63 (f := .int "MOST_ORDERED" 7) rfl) }
  obtain ⟨cc, cda, TT⟩ := too_of tb te
  have gC : mg "TooMany" = some (.ref (tooC K)) := He.glo_ok X G (c.fact 32 (f := .glo "TooMany") rfl)
  have gS : mg "super" = none := He.free_ok X G (c.fact 48 (f := .free "super") rfl)
  obtain ⟨fd, F⟩ := c.def_ 29 (d := dThelaw) rfl
  have e := hfa.symm.trans (He.glo_ok X G (c.fact 29 (f := .glo "law") rfl))
  cases e
  have b := FunD.bindsA (ps := ["_law_script"]) F fun _ _ _ _ _ _ us hl => match us, hl with | [_], _ => rfl
  refine ⟨fd, fun s v => b s [v] rfl, fun base _ _ => ?_⟩
  have cII : Cal PW w K mg base 1 "is_integer" spIsInteger [] := calIsInteger T dIsIntegerX
  have cIW := calIsWithin T cII dIsWithinX
  have cIL := calIsLot T cIW dIsLotX
  have cAA := calAreAll T cIW dAreAllX
  have cAP := calAreParents T cIL dAreParentsX
  have mFill : Met PW w K mg base 1 (cB K) "fill" (spFill K) [] := metFill T dBookFillX
  have kBook := makBook T cAP mFill dBookInitX
  have cBO := calBookOf T kBook mFill dBookOfX
  have cMO : Cal PW w K mg base 1 "many_of" (spManyOf K) [] := calManyOf T dManyOfX
  have cIO : Cal PW w K mg base 1 "is_one" (spIsOne K) [] := calIsOne T dIsOneX
  have cRe := calReordered T cMO cAA cBO dReorderedX
  have mFit := metFitting T cIO dGroupsFittingX
  have mTak := metTaken T mFit dGroupsTakenX
  have mPut := metPut T mTak dGroupsPutX
  have kGr : Mak PW w K mg base 1 "Groups" (cG K) (spGroupsInit K) [] := makGroups T dGroupsInitX
  have cEO := calEntriesOf T cIO dEntriesOfX
  have cGT := calGoneThrough T kGr cMO mPut cEO dGoneThroughX
  have cPl := calPlaced T cGT dPlacedX
  have cMC := calMayCome T cIO dMayComeX
  have cAO := calAllOrders T cMO cMC dAllOrdersX
  have cCM : Cal PW w K mg base 1 "check_most" spCheckMost [] := calCheckMost T dCheckMostX
  have cCO := calCountsOf T cCM cMO cAO cPl cRe dCountsOfX
  have cBest := calBestOrder T cCO dBestOrderX
  have cWorst := calWorstOrder T cCO dWorstOrderX
  have rCM : CalR PW w K mg base 3 "check_most" (spCheckR (tooC K)) := calCheckR TT gC gS dCheckMostX
  have rCO := calCountsR T rCM cMO dCountsOfX
  have rB := calBestR T rCO dBestOrderX
  have rW := calWorstR T rCO dWorstOrderX
  have cRf := calLRefused TT gC rB rW dLMostRefusedX
  have cPool : Cal PW w K mg base 1 "_law_pool" (spLPool K) [] := calLPool T dLPoolX
  have cDraw : Cal PW w K mg base 1 "_law_draw" spLDraw [] := calLDraw T dLDrawX
  have cMix := calLMixed T cDraw dLMixedX
  have cLot := calLLot T cDraw cMix dLLotX
  have cPar := calLParents T cDraw cLot dLParentsX
  have cAb : Cal PW w K mg base 1 "_law_above" (spLAbove K) [] := calLAbove T dLAboveX
  have cOrd := calLOrders T cAb dLOrdersX
  have cGrp := calLGroups T cAb dLGroupsDoneX
  have cMov : Cal PW w K mg base 1 "_law_moved" (spLMoved K) [] := calLMoved T dLMovedX
  have cInt : Cal PW w K mg base 1 "_law_is_int" spLIsInt [] := calLIsInt T dLIsIntX
  exact okLaw T ⟨cPool, cDraw, cPar, cOrd, cGrp, cMov, kBook, cBest, cWorst, cInt, cPl, cRe, cRf⟩ F
end K32
set_option Elab.async false
set_option linter.all false
set_option maxRecDepth 100000
set_option maxHeartbeats 0
open PySem PySem.W PySem.Calls PyProof.Rows
theorem PySem.Challenge.cw_latekinds_k32_whole_best_and_worst_order_holds : PySem.Challenge.rw_latekinds_k32_whole_best_and_worst_order.Holds := by
  w_on; o_law
  refine HandSHeadRun.head_any (r := K32.R) (q := view K32.R.prog [44]) (H := K32.hkK) (ob := K32.ob) (M := 3000) (loose := K32.loose1 ++ K32.loose2) (d := HandSHeadRun.topDef K32.R.prog 44) (kwd := []) K32.ob_eq
    (by kernel_rfl) (fun s => by kernel_rfl) K32.run (by kernel_rfl) (by kernel_rfl) (by kernel_rfl) (by rfl) (by first | assumption | decide +kernel) (by decide +kernel) ⟨rfl, rfl, rfl, rfl, rfl, by decide +kernel⟩ ?hw ?hc
  case hw => w_witness2
  case hc =>
    refine L2.walk_ofE (l := PySem.Challenge.rw_latekinds_k32_whole_best_and_worst_order) (n := 63) (k := 11) (x := "_law_script") (CX := L2.CX0) rfl (by decide) (by kernel_rfl) ⟨rfl, by decide, by decide⟩ ?F (fun _ _ _ _ z => z)
    intro w mg fL h Y G g0
    obtain ⟨K, KX, c, tb, te⟩ := Y
    have g1 : mg ("law" : PySem.Str) = some (.ref fL) := by
      have e : (HandSHeadRun.topDef K32.R.prog 44).name = ("law" : PySem.Str) := by kernel_rfl
      rw [← e]
      exact g0
    obtain ⟨fd, hb, hF⟩ := K32.facts (w := w) KX G g1 c tb te
    exact ⟨K, fd, K32.spLaw K, KX, hb, fun H a ns hl _ hS => ⟨a, ns, rfl, hS, Nat.le_trans hl (by decide), fun _ => rfl⟩, hF⟩
