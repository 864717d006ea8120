import PyProof.Rows.All
import Wide.All
import OpenK.AllK
import Wide.FinOn
import HandS.List
import HandS.TupAny
import KE.GoesMore
import PyProof.EnumMake
import HandS.Iter
import HandS.Strs
import HandS.ForMost
import HandS.Exc
import HandS.TryOnly
import HandS.ExcOwn
import HandS.Defaults
import HandS.WordsExc
import HandS.EndBits
import HandS.Flow
import HandS.Wide
import HandS.Conv
import HandS.IsInst
import PyProof.ReprRoads
import PyProof.StrOps2
import HandS.Text
import HandS.Sort
import PyProof.CollectIter
import PyProof.WalksMore
import KE.KUnpack
import HandS.More
import HandS.RaiseMore
import HandS.StrMore
import HandS.CallLocal
import HandS.HeadHook3
import HandS.IntHex
import KE.KIntText
import PyProof.ReprLen
import PyProof.StrLawsRepr
import PyProof.FitsInt
import PySem.Challenge.RW_watchedrun_k68_programs_read
set_option Elab.async false
set_option maxRecDepth 100000
set_option linter.unusedVariables false
/-! ZT: tuples laid with their object, which has no dict of its own; t.count(x). -/
namespace Z
open PySem PySem.Spec PyProof.Rows L2
/-- a tuple with its object -/
def FT (u : HO) (xs : List V) : Prop := ∃ o : Obj, u = .frz o (.tup xs) ∧ o.cls = .type "tuple" ∧ o.dict = none
def newT (its : Array Value) : Obj := { cls := .type "tuple", data := .seq its }
section
variable {X : Cx} {pins : List (Addr × Obj)} {σ : L2.St} {H : Hp} {s : Shared}
theorem ft_new {its : List Value} {xs : List V} : FT (.frz (newT its.toArray) (.tup xs)) xs := ⟨_, rfl, rfl, rfl⟩
theorem laidT {h' : Heap} {tk : Nat} {its : List Value} {xs : List V} (I : Inv X pins σ H s) (k : ∀ b o, s.heap.get? b = some o → h'.get? b = some o) (n : s.heap.objs.size ≤ h'.objs.size) (r : Vals xs its) (l : xs.length ≤ sizeLine) :
    Inv X pins σ (upd H h'.objs.size (.frz (newT its.toArray) (.tup xs))) { s with heap := h'.push { cls := .type "tuple", data := .seq its.toArray }, toks := tk } :=
  I.laid (o := .frz (newT its.toArray) (.tup xs)) (fun b o e => Heap.get?_push_of_some _ (k b o e)) n ⟨Heap.get?_push_size _ rfl, l, its, r, IsTup.new _ _⟩
end
section
variable {X : Cx} {es : List Expr} {t : TA} {pos : Pos}
def tTupF (t : TA) : TE := fun σ H Q => t σ H fun xs H1 => xs.length ≤ sizeLine ∧ ∀ p u, H1 p = none → FT u xs → Q (.ref p) (upd H1 p u)
theorem pe_tupF {x1} (h : PA X es t) : PE X (.Tuple es x1 pos) (tTupF t) := by
  refine ⟨fun pins s σ H Q I hq => ?_⟩
  refine wpAny_Tuple_spliced (thn (h.run pos pins s σ H _ I hq) fun us s1 ⟨xs, H1, I1, r, z, q⟩ => ⟨by rw [← r.length]; exact z, ?_⟩)
  exact ⟨.ref s1.heap.objs.size, _, laidT (tk := s1.toks) I1 (fun _ _ e => e) (Nat.le_refl _) r z, rfl, q _ _ (I1.hok.fresh (Nat.le_refl _)) ft_new⟩
/-- t + u -/
def rCatF (K : PySem.W.Frag) : R2 := fun x y H Q => ∃ a b xs ys, x = .ref a ∧ y = .ref b ∧ SqT K H a xs ∧ SqT K H b ys ∧ xs.length + ys.length ≤ sizeLine ∧
  (xs = [] → Q (.ref b) H) ∧ (xs ≠ [] → ys = [] → Q (.ref a) H) ∧ (xs ≠ [] → ys ≠ [] → ∀ p u, H p = none → FT u (xs ++ ys) → Q (.ref p) (upd H p u))
theorem op_catF : OpR X (binaryOp .Add) (rCatF X.K) := by
  intro pins s σ H x y v u Q I rx ry h
  obtain ⟨a, b, xs, ys, rfl, rfl, ha, hb, hz, q0, q1, q2⟩ := h
  cases rx
  cases ry
  obtain ⟨its, r1, p1, _⟩ := I.tuple ha
  obtain ⟨its2, r2, p2, _⟩ := I.tuple hb
  by_cases hx : xs = []
  · subst hx
    cases r1
    exact cat_tup0 p1 p2 ⟨.ref b, H, I, rfl, q0 rfl⟩
  · refine HT.cat_tup p1 p2 (fun z => hx (r1.nil_iff.mp z)) (fun z => ⟨.ref a, H, I, rfl, q1 hx (r2.nil_iff.mp z)⟩) (fun z => ?_) (by rw [← r1.length, ← r2.length]; exact hz)
    exact ⟨.ref s.heap.objs.size, _, laidT (tk := s.toks) I (fun _ _ e => e) (Nat.le_refl _) (r1.append r2) (by rw [List.length_append]; exact hz), rfl, q2 hx (fun w => z (r2.nil_iff.mpr w)) _ _ (I.hok.fresh (Nat.le_refl _)) ft_new⟩
/-- t[lo:hi] -/
def rSlF (K : PySem.W.Frag) : V → Option Int → Option Int → Hp → VK → Prop := fun x lo hi H Q => ∃ a xs, x = .ref a ∧ SqT K H a xs ∧
  (HT.sIx xs.length 0 lo = 0 ∧ HT.sIx xs.length xs.length hi = xs.length → Q (.ref a) H) ∧ (¬ (HT.sIx xs.length 0 lo = 0 ∧ HT.sIx xs.length xs.length hi = xs.length) → ∀ p u, H p = none → FT u (cutV xs lo hi) → Q (.ref p) (upd H p u))
theorem sl_tupF : SlR X (rSlF X.K) := by
  intro pins s σ H x v vl vu lo hi sl Q I rx hs pl pu h
  obtain ⟨a, xs, rfl, hx, q1, q2⟩ := h
  cases rx
  obtain ⟨its, r, ht, hz⟩ := I.tuple hx
  have hlen : its.toArray.size = xs.length := by rw [List.size_toArray]; exact r.length.symm
  refine ⟨"tuple", _, PyProof.Rows.slot_tuple_getitem.lookup, ht.typeIs, ?_⟩
  by_cases hw : HT.sIx xs.length 0 lo = 0 ∧ HT.sIx xs.length xs.length hi = xs.length
  · exact getItem_tuple_whole ht hs pl pu (by rw [hlen]; exact hw) ⟨.ref a, H, I, rfl, q1 hw⟩
  · refine HT.getItem_tuple_cut ht hs pl pu (by rw [hlen]; exact hw) ?_ (by rw [hlen]; exact hz)
    rw [hlen]
    exact ⟨.ref s.heap.objs.size, _, laidT (tk := s.toks) I (fun _ _ e => e) (Nat.le_refl _) ((r.drop (HT.sIx xs.length 0 lo)).take (HT.sIx xs.length xs.length hi - HT.sIx xs.length 0 lo)) (Nat.le_trans (cutV_length xs lo hi) hz), rfl, q2 hw _ _ (I.hok.fresh (Nat.le_refl _)) ft_new⟩
/-- tuple(x) -/
theorem call_tupleF : CallR X (.type "tuple") (fun xs H Q => ∃ p ys, xs = [.ref p] ∧ ((SqL X.K H p ys ∧ ∀ l u, H l = none → FT u ys → Q (.ref l) (upd H l u)) ∨ (SqT X.K H p ys ∧ Q (.ref p) H))) := by
  intro pins s σ H xs us Q I r h
  obtain ⟨p, ys, rfl, h⟩ := h
  obtain ⟨u, rfl, rx⟩ := vals1 r
  cases rx
  rcases h with ⟨hq, q⟩ | ⟨hq, q⟩
  · obtain ⟨its, r', pl, hz⟩ := I.list hq
    have hlen := r'.length
    refine call_tuple_list pl.isList (fun h' kp => ?_) (by simp only [List.size_toArray] <;> omega)
    have I1 : Inv X pins σ H { s with heap := h' } := I.kept (t' := s.toks) kp
    exact ⟨.ref h'.objs.size, _, laidT (s := { s with heap := h' }) (tk := s.toks) I1 (fun _ _ e => e) (Nat.le_refl _) r' hz, rfl, q _ _ (I1.hok.fresh (Nat.le_refl _)) ft_new⟩
  · obtain ⟨its, r', pl, hz⟩ := I.tuple hq
    exact call_tuple_same pl ⟨.ref p, H, I, rfl, q⟩
/-! ### t.count(x) -/
/-- a tuple that is known to have no dict of its own -/
def NoD (K : PySem.W.Frag) (H : Hp) (a : Addr) (xs : List V) : Prop := (∃ u, H a = some u ∧ FT u xs) ∨
  ∃ (o : Obj) (its : Array Value) (n : Nat), K.lookup a = some o ∧ o.cls = .type "tuple" ∧ o.dict = none ∧ o.data = .seq its n ∧ its.size ≤ sizeLine ∧ Vals xs its.toList
theorem NoD.sq {K : PySem.W.Frag} {a : Addr} {xs : List V} {H : Hp} (h : NoD K H a xs) : SqT K H a xs := by
  rcases h with ⟨u, e, o, rfl, _, _⟩ | ⟨o, its, n, a, b, c, d, e, f⟩
  · exact .inl (.inr ⟨o, e⟩)
  · exact .inr ⟨o, its, n, a, b, d, e, f⟩
theorem NoD.there {X : Cx} {pins : List (Addr × Obj)} {σ : L2.St} {H : Hp} {s : Shared} {a : Addr} {xs : List V} (h : NoD X.K H a xs) (I : Inv X pins σ H s) : ∃ o, s.heap.get? a = some o ∧ o.cls = .type "tuple" ∧ o.dict = none := by
  rcases h with ⟨u, e, o, rfl, c, d⟩ | ⟨o, its, n, a, b, c, _⟩
  · exact ⟨o, (show s.heap.get? a = some o ∧ _ from I.hok a _ e).1, c, d⟩
  · exact ⟨o, I.kIn _ o a, b, c⟩
variable {o e : Expr} {to te : TE} {apos cpos : Pos}
def tCnt (K : PySem.W.Frag) (to : TE) (ta : TA) : TE := fun σ H Q => to σ H fun x H1 => ∃ a xs, x = .ref a ∧ NoD K H1 a xs ∧ ta σ H1 fun ys H2 => ∃ y, ys = [y] ∧ SqT K H2 a xs ∧ flatV y = true ∧ xs.all flatV = true ∧ Q (.int ((xs.countP fun z => eqV z y : Nat) : Int)) H2
theorem countP_eqU {x : V} : ∀ {xs : List V} {us : List Value}, Vals xs us → xs.all flatV = true → us.countP (eqU x) = xs.countP fun y => eqV y x
  | _, _, .nil, _ => rfl
  | y :: xs, u :: us, .cons r t, f => by
    rw [List.all_cons, Bool.and_eq_true] at f
    rw [List.countP_cons, List.countP_cons, eqU_of r f.1, countP_eqU t f.2]
theorem pe_cnt {ta : TA} (ho : PE X o to) (ha : PA X [e] ta)
    (hbase : attributeBase o "count" X.env (eval o X.env) = eval o X.env := by rfl)
    (hfew : ((backTo cpos (starEach [e] X.env)).all (fun x => !x.1) && (backToKw cpos (keywordEach [] X.env)).all (fun x => x.1.isSome)
      && decide (([e] : List Expr).length + ([] : List Keyword).length + (if ([] : List Keyword).isEmpty then 0 else 1) < 30)) = true := by rfl)
    (hline : (apos.endLine == cpos.line) = true := by rfl) (hs : starEach [e] X.env = (false, eval e X.env) :: starEach [] X.env := by rfl) (hplain : (backTo cpos (starEach [] X.env)).any (·.1) = false := by rfl) :
    PE X (.Call (.Attribute o "count" apos) [e] [] cpos) (tCnt X.K to ta) := by
  refine ⟨fun pins s σ H Q I h => ?_⟩
  refine wpAny_Call_method_late hbase hfew hline rfl (thn (ho.run pins s σ H _ I h) fun v s1 ⟨x, H1, I1, r1, q1⟩ => ?_)
  obtain ⟨a, xs, rfl, nd, q1⟩ := q1
  cases r1
  obtain ⟨ob, e1, e2, e3⟩ := nd.there I1
  refine ⟨"tuple", "tuple.count", PySem.F.plainAttrs_tuple, PySem.F.slot_tuple_count, PySem.F.type_tuple_count, ⟨ob, e1, e2⟩, fun b eb => ?_, ?_⟩
  · cases eb; exact ⟨ob, e1, e3⟩
  have hA := ha.run cpos pins s1 σ H1 _ I1 q1
  rw [hs] at hA ⊢
  refine Calls.callWith_builtin (by show (false || (backTo cpos (starEach [] X.env)).any (·.1)) = false; rw [hplain] <;> rfl) (Calls.evalArgs_plain ?_)
  refine thn hA fun us s2 ⟨vs, H2, I2, r2, y, ey, sq, fy, fs, q2⟩ => ?_
  subst ey
  obtain ⟨w, rfl, rw'⟩ := vals1 r2
  obtain ⟨its, r', pl, hz⟩ := I2.tuple sq
  obtain ⟨⟨cls, dd, dt, sl⟩, ho', hc, n, hd⟩ := pl
  simp only at hc hd
  subst hc
  subst hd
  refine call_meets PySem.F.slot_tuple_count ⟨_, ho', rfl⟩ PySem.F.entry_tuple_count (PySem.F.args_tuple_count_2 _ _) (SeqAt.tuple_countAt a its.toArray n dd sl w (eqU y))
    ⟨ho', fun z hz => mem_eqAt rw' fy r' fs z (by simpa using hz), ⟨.int _, H2, I2.tok _, ⟨s2.toks, ?_⟩, q2⟩⟩
  show Value.int ((its.toArray.toList.countP (eqU y) : Nat) : Int) s2.toks = _
  rw [show its.toArray.toList = its from rfl, countP_eqU r' fs]
end
end Z
set_option Elab.async false
set_option maxRecDepth 100000
set_option linter.unusedVariables false
/-! ZE: enumerate(t) of a tuple. -/
namespace ZE
open PySem PySem.Spec PyProof.Rows
open AutoSeq1 (wpAny_loadPart')
abbrev tIt (l : Addr) : Obj := { cls := .type "tuple_iterator", data := .fields #[.ref l, .int 0 0] }
abbrev enO (it : Addr) : Obj := { cls := .type "enumerate", data := .fields #[.none, .bool false, .ref it, rawInt 0, .none, .none] }
theorem made (l : Addr) (items : Array Value) (n : Nat) (dd : Option Addr) (sl : Array (Option Value)) :
    Meets (Builtin.«enumerate.__new__» ⟨[.type "enumerate", .ref l], []⟩) (fun _ R s => s.heap.get? l = some { cls := .type "tuple", dict := dd, data := .seq items n, slots := sl } ∧
      R (.ok (.ret (.ref (s.heap.push (tIt l)).objs.size))) { s with heap := (s.heap.push (tIt l)).push (enO s.heap.objs.size) }) :=
  .of_wp fun prog w A R s h => by
    obtain ⟨hp, g, d, tk, os⟩ := s
    obtain ⟨hl, q⟩ := h
    have f := sub_enumerate
    have hT : Heap.IsTuple (Shared.heap ⟨hp, g, d, tk, os⟩) l items := ⟨_, hl, rfl, n, rfl⟩
    wp_walk using wpAny_loadPart' hl
    refine wpAny_stack_any fun st => wpAny_pure ?_
    split
    · rename_i c _ _ _ _ _
      cases (c == Value.type "enumerate") <;>
      · wp_walk using wpAny_loadPart' hl, wpAny_pyIter_tuple hT
        exact ⟨_, rfl, q⟩
    · wp_walk using wpAny_loadPart' hl, wpAny_pyIter_tuple hT
      exact ⟨_, rfl, q⟩
section
variable {prog : Program} {w : World} {A : Around} {E : Value → Shared → Prop} {s : Shared}
theorem call {l : Addr} {items : Array Value} {Q : Value → Shared → Prop} (ht : s.heap.IsTuple l items)
    (h : ∀ h', IsEnum h' (s.heap.objs.size + 1) s.heap.objs.size 0 .none → h'.IsTupleIter s.heap.objs.size l 0 → (∀ b o, s.heap.get? b = some o → h'.get? b = some o) → Q (.ref (s.heap.objs.size + 1)) { s with heap := h' }) :
    wpAny (model prog w) A (PySem.call (.type "enumerate") [.ref l]) Q E s := by
  obtain ⟨⟨c, dd, dt, sl⟩, ho, hc, n, hd⟩ := ht
  simp only at hc hd
  subst hc hd
  refine callType_new F.called_enumerate (by decide) (F.typeCall_enumerate_1 _) (F.newCall_enumerate_1 _) (fun obj => F.args_object_init_2 obj _) F.entry_enumerate_new (made l items n dd sl) ⟨ho, ?_⟩
  have z : (s.heap.push (tIt l)).objs.size = s.heap.objs.size + 1 := Heap.size_push ..
  show _ ∧ _
  rw [z]
  have he : IsEnum ((s.heap.push (tIt l)).push (enO s.heap.objs.size)) (s.heap.objs.size + 1) s.heap.objs.size 0 .none := by
    have q := Heap.get?_push_size (s.heap.push (tIt l)) (o := enO s.heap.objs.size) rfl
    rw [z] at q
    exact q
  exact ⟨⟨_, he, rfl⟩, h _ he ⟨_, Heap.get?_push_of_some _ (Heap.get?_push_size _ rfl), rfl, rfl⟩ fun b o x => Heap.get?_push_of_some _ (Heap.get?_push_of_some _ x)⟩
end
end ZE
namespace Z
open PySem PySem.Spec PyProof.Rows L2
/-- the tuple at a, each item in a new pair -/
def IteT (K : PySem.W.Frag) (a : Addr) : It :=
  ⟨fun i H => ∃ (xs : List V) (x : V), SqT K H a xs ∧ xs[i]? = some x, fun i H v H' => ∃ T u x, v = .ref T ∧ H T = none ∧ H' = upd H T u ∧ FT u [.int (i : Nat), x] ∧ ∀ xs, SqT K H a xs → xs[i]? = some x, fun i H => ∃ xs : List V, SqT K H a xs ∧ xs.length ≤ i⟩
theorem turn_enumT {P : Program} {w : World} {K : PySem.W.Frag} {elts : List Expr} {kk : Nat} {tpos : Pos} (a e it : Addr) (hai : a ≠ it) (hae : a ≠ e) :
    Turn P w K (.Tuple elts kk tpos) (IteT K a) [e, it] e (fun i h => (∃ old, IsEnum h e it ((i : Nat) : Int) old) ∧ h.IsTupleIter it a i ∧ e ≠ it) where
  mem := by simp
  obj := fun i h st b hb => by
    obtain ⟨⟨old, he⟩, ⟨o, ho, hc, hd⟩, _⟩ := st
    rcases List.mem_cons.mp hb with z | hb
    · rw [z]; exact ⟨_, he, fun v q => nomatch q⟩
    · rw [List.mem_singleton.mp hb]; exact ⟨o, ho, fun v q => by rw [hd] at q; cases q⟩
  keep := fun i h h' st k => by
    obtain ⟨⟨old, he⟩, hi, hne⟩ := st
    exact ⟨⟨old, k e (by simp) _ he⟩, hi.at fun o q => k it (by simp) o q, hne⟩
  item := by
    intro X hP hw hK hc i pins s σ H E I hf st hg
    subst hP hw hK
    obtain ⟨⟨old, he⟩, hit, hne⟩ := st
    obtain ⟨xs, x, hq, hx⟩ := hg
    obtain ⟨its, rv, p, hz⟩ := I.tuple hq
    have pt : s.heap.IsTuple a its.toArray := p
    obtain ⟨u, hu, ru⟩ := rv.get hx
    have hel : e < s.heap.objs.size := Heap.lt_size he
    have hil : it < s.heap.objs.size := by obtain ⟨_, q, _⟩ := hit; exact Heap.lt_size q
    have lt : i < its.toArray.size := by
      have := (List.getElem?_eq_some_iff.mp hu).1
      simpa using this
    refine PySem.wpAny_pyNext_enum_itemD (PySem.Draws.tuple (A := X.A.in1) (I.ok.hd hc) it a hai its.toArray) he ⟨hit, pt⟩ lt hne (by simp; exact ⟨hne, fun z => hae z.symm⟩) fun y h' tk hy ho hit' hT hsz hk => ?_
    have ey : y = u := by
      have : its.toArray[i]? = some u := by simpa using hu
      rw [this] at hy
      exact (Option.some.inj hy).symm
    subst ey
    refine ⟨_, rfl, wpAny_letOwnedTupleGo_enum (s := { s with heap := h', toks := tk + 1 }) ho fun h'' he' sb => ?_⟩
    have hT2 : h''.get? s.heap.objs.size = some { cls := .type "tuple", data := .seq #[.int i tk, y] } := (sb.2 _ (Nat.ne_of_gt hel)).trans hT
    have new : ObjOk X.prog X.w (upd H s.heap.objs.size (.frz (newT #[.int i tk, y]) (.tup [.int (i : Nat), x]))) h'' s.heap.objs.size (.frz (newT #[.int i tk, y]) (.tup [.int (i : Nat), x])) :=
      ⟨hT2, by show 2 ≤ sizeLine; decide, [.int i tk, y], .cons ⟨_, rfl⟩ (.cons ru .nil), ⟨_, hT2, rfl, _, rfl⟩⟩
    have I1 : Inv X pins σ (upd H s.heap.objs.size (.frz (newT #[.int i tk, y]) (.tup [.int (i : Nat), x]))) { s with heap := h'', toks := tk + 1 } :=
      I.turnedNew (ch := [e, it]) (fun b ob hb q => (sb.2 b (fun z => hb (by simp [z]))).trans (hk b ob (fun z => hb (by simp [z])) (fun z => hb (by simp [z])) q)) hf (Nat.le_refl _) new
    refine ⟨.ref s.heap.objs.size, _, I1, rfl, ⟨_, _, x, rfl, I.hok.fresh (Nat.le_refl _), rfl, ⟨_, rfl, rfl, rfl⟩, fun ys hy => by rw [I.tuple_inj hy hq]; exact hx⟩, ⟨⟨y, ?_⟩, hit'.1.at fun o q => (sb.2 it (Ne.symm hne)).trans q, hne⟩, fun b hb => ?_⟩
    · have e1 : ((i + 1 : Nat) : Int) = (i : Int) + 1 := by omega
      rw [e1]; exact he'
    · have hb' : b < s.heap.objs.size := by
        rcases List.mem_cons.mp hb with z | hb
        · rw [z]; exact hel
        · rw [List.mem_singleton.mp hb]; exact hil
      rw [upd_ne (Nat.ne_of_lt hb')]
      exact (hf b hb).1
  done := by
    intro X hP hw hK hc i pins s σ H E I hf st hg
    subst hP hw hK
    obtain ⟨⟨old, he⟩, hit, hne⟩ := st
    obtain ⟨xs, hq, hx⟩ := hg
    obtain ⟨its, rv, p, hz⟩ := I.tuple hq
    have pt : s.heap.IsTuple a its.toArray := p
    obtain ⟨f0, f1, f2, f3, f4, f5⟩ := hf it (by simp)
    have hl := rv.length
    have hnone : its.toArray[i]? = none := by simp; omega
    have hT : s.TypeIs (.ref e) "enumerate" := ⟨_, he, rfl⟩
    unfold pyNext
    refine wpAny_bind (wpAny_attempt (wpAny_callSpecial?_slot (name := Str.ofString "__next__") hT F.slot_enumerate_next
      (wpAny_call_entry F.slot_enumerate_next hT F.entry_enumerate_next ?_ (F.args_enumerate_next_1 _))))
    refine wpAny_bind (m := field (.ref e) 2) (wpAny_field he rfl (x := .ref it) rfl ?_)
    refine wpAny_bind (wpAny_nextOf_tuple_end (I.ok.hd hc) hit pt hnone fun h' z he' hx' => ?_)
    obtain ⟨o, ho, hcc⟩ := hx'
    refine wpAny_bind (wpAny_isInstance (T := "StopIteration") (b := true) ⟨o, ho, hcc⟩ isSubtype_stop ?_)
    exact wpAny_pure ⟨rfl, I.turned (t' := s.toks) (fun b o hb q => he' b o hb q) f0 f1 f3 f4 f5⟩
  self := fun A i s Q E st h => by
    obtain ⟨⟨_, he⟩, _⟩ := st
    exact wpAny_pyIter_enum he h
def iEnumT (K : PySem.W.Frag) (ta : TA) : TI := fun σ H R => ta σ H fun vs H1 => ∃ a xs, vs = [.ref a] ∧ SqT K H1 a xs ∧ R (IteT K a) H1
theorem pi_enumT {X : Cx} {e : Expr} {ta : TA} {p pos tpos : Pos} {elts : List Expr} {kk : Nat} (hg : Gl X "enumerate") (hm : X.mg "enumerate" = none) (ha : PA X [e] ta) (hs : starEach [e] X.env = [(false, eval e X.env)] := by rfl) :
    PI X (.Tuple elts kk tpos) (.Call (.Name "enumerate" p) [e] [] pos) (iEnumT X.K ta) := by
  refine ⟨fun pins s σ H R I h => ?_⟩
  refine Call_ (ld_blt I hg hm boot_enumerate (PyProof.Rows.callWith_type1 (thn (ha.run pos pins s σ H _ I h) fun us s1 ⟨vs, H1, I1, r1, q1⟩ => ?_) hs rfl))
  obtain ⟨a, xs, ex, hq, q⟩ := q1
  subst ex
  cases r1 with
  | cons r rr =>
    cases rr
    cases r
    obtain ⟨its, rv, p', hz⟩ := I1.tuple hq
    have pt : s1.heap.IsTuple a its.toArray := p'
    have al : a < s1.heap.objs.size := by obtain ⟨_, q, _⟩ := pt; exact Heap.lt_size q
    refine ZE.call pt fun h' he hit hk => wpAny_pyIter_enum he ?_
    have I2 : Inv X pins σ H1 { s1 with heap := h' } := I1.kept (t' := s1.toks) hk
    refine ⟨s1.heap.objs.size + 1, [s1.heap.objs.size + 1, s1.heap.objs.size], _, _, H1, rfl, I2, turn_enumT a (s1.heap.objs.size + 1) s1.heap.objs.size (Nat.ne_of_lt al) (Nat.ne_of_lt (Nat.lt_succ_of_lt al)), ⟨⟨.none, he⟩, hit, Nat.succ_ne_self _⟩, fun b hb => ?_, q⟩
    have hle : s1.heap.objs.size ≤ b := by
      rcases List.mem_cons.mp hb with z | hb
      · rw [z]; exact Nat.le_add_right _ _
      · rw [List.mem_singleton.mp hb]; exact Nat.le_refl _
    exact I1.fpOk hle (I1.hok.fresh hle)
/-- the list at a, each item in a new pair -/
def IteL (K : PySem.W.Frag) (a : Addr) : It :=
  ⟨fun i H => ∃ (xs : List V) (x : V), SqL K H a xs ∧ xs[i]? = some x, fun i H v H' => ∃ T u x, v = .ref T ∧ H T = none ∧ H' = upd H T u ∧ FT u [.int (i : Nat), x] ∧ ∀ xs, SqL K H a xs → xs[i]? = some x, fun i H => ∃ xs : List V, SqL K H a xs ∧ xs.length ≤ i⟩
theorem turn_enumL {P : Program} {w : World} {K : PySem.W.Frag} {elts : List Expr} {kk : Nat} {tpos : Pos} (a e it : Addr) (hai : a ≠ it) (hae : a ≠ e) :
    Turn P w K (.Tuple elts kk tpos) (IteL K a) [e, it] e (fun i h => (∃ old, IsEnum h e it ((i : Nat) : Int) old) ∧ h.IsListIter it a i ∧ e ≠ it) where
  mem := by simp
  obj := fun i h st b hb => by
    obtain ⟨⟨old, he⟩, ⟨o, ho, hc, hd⟩, _⟩ := st
    rcases List.mem_cons.mp hb with z | hb
    · rw [z]; exact ⟨_, he, fun v q => nomatch q⟩
    · rw [List.mem_singleton.mp hb]; exact ⟨o, ho, fun v q => by rw [hd] at q; cases q⟩
  keep := fun i h h' st k => by
    obtain ⟨⟨old, he⟩, hi, hne⟩ := st
    exact ⟨⟨old, k e (by simp) _ he⟩, hi.at fun o q => k it (by simp) o q, hne⟩
  item := by
    intro X hP hw hK hc i pins s σ H E I hf st hg
    subst hP hw hK
    obtain ⟨⟨old, he⟩, hit, hne⟩ := st
    obtain ⟨xs, x, hq, hx⟩ := hg
    obtain ⟨its, rv, p, hz⟩ := I.list hq
    have pt : s.heap.IsList a its.toArray := p.isList
    obtain ⟨u, hu, ru⟩ := rv.get hx
    have hel : e < s.heap.objs.size := Heap.lt_size he
    have hil : it < s.heap.objs.size := by obtain ⟨_, q, _⟩ := hit; exact Heap.lt_size q
    have lt : i < its.toArray.size := by
      have := (List.getElem?_eq_some_iff.mp hu).1
      simpa using this
    refine PySem.wpAny_pyNext_enum_itemD (PySem.Draws.list (A := X.A.in1) (I.ok.hd hc) it a hai its.toArray) he ⟨hit, pt⟩ lt hne (by simp; exact ⟨hne, fun z => hae z.symm⟩) fun y h' tk hy ho hit' hT hsz hk => ?_
    have ey : y = u := by
      have : its.toArray[i]? = some u := by simpa using hu
      rw [this] at hy
      exact (Option.some.inj hy).symm
    subst ey
    refine ⟨_, rfl, wpAny_letOwnedTupleGo_enum (s := { s with heap := h', toks := tk + 1 }) ho fun h'' he' sb => ?_⟩
    have hT2 : h''.get? s.heap.objs.size = some { cls := .type "tuple", data := .seq #[.int i tk, y] } := (sb.2 _ (Nat.ne_of_gt hel)).trans hT
    have new : ObjOk X.prog X.w (upd H s.heap.objs.size (.frz (newT #[.int i tk, y]) (.tup [.int (i : Nat), x]))) h'' s.heap.objs.size (.frz (newT #[.int i tk, y]) (.tup [.int (i : Nat), x])) :=
      ⟨hT2, by show 2 ≤ sizeLine; decide, [.int i tk, y], .cons ⟨_, rfl⟩ (.cons ru .nil), ⟨_, hT2, rfl, _, rfl⟩⟩
    have I1 : Inv X pins σ (upd H s.heap.objs.size (.frz (newT #[.int i tk, y]) (.tup [.int (i : Nat), x]))) { s with heap := h'', toks := tk + 1 } :=
      I.turnedNew (ch := [e, it]) (fun b ob hb q => (sb.2 b (fun z => hb (by simp [z]))).trans (hk b ob (fun z => hb (by simp [z])) (fun z => hb (by simp [z])) q)) hf (Nat.le_refl _) new
    refine ⟨.ref s.heap.objs.size, _, I1, rfl, ⟨_, _, x, rfl, I.hok.fresh (Nat.le_refl _), rfl, ⟨_, rfl, rfl, rfl⟩, fun ys hy => by rw [I.list_inj hy hq]; exact hx⟩, ⟨⟨y, ?_⟩, hit'.1.at fun o q => (sb.2 it (Ne.symm hne)).trans q, hne⟩, fun b hb => ?_⟩
    · have e1 : ((i + 1 : Nat) : Int) = (i : Int) + 1 := by omega
      rw [e1]; exact he'
    · have hb' : b < s.heap.objs.size := by
        rcases List.mem_cons.mp hb with z | hb
        · rw [z]; exact hel
        · rw [List.mem_singleton.mp hb]; exact hil
      rw [upd_ne (Nat.ne_of_lt hb')]
      exact (hf b hb).1
  done := by
    intro X hP hw hK hc i pins s σ H E I hf st hg
    subst hP hw hK
    obtain ⟨⟨old, he⟩, hit, hne⟩ := st
    obtain ⟨xs, hq, hx⟩ := hg
    obtain ⟨its, rv, p, hz⟩ := I.list hq
    have pt : s.heap.IsList a its.toArray := p.isList
    obtain ⟨f0, f1, f2, f3, f4, f5⟩ := hf it (by simp)
    have hl := rv.length
    have hnone : its.toArray[i]? = none := by simp; omega
    have hT : s.TypeIs (.ref e) "enumerate" := ⟨_, he, rfl⟩
    unfold pyNext
    refine wpAny_bind (wpAny_attempt (wpAny_callSpecial?_slot (name := Str.ofString "__next__") hT F.slot_enumerate_next
      (wpAny_call_entry F.slot_enumerate_next hT F.entry_enumerate_next ?_ (F.args_enumerate_next_1 _))))
    refine wpAny_bind (m := field (.ref e) 2) (wpAny_field he rfl (x := .ref it) rfl ?_)
    refine wpAny_bind (wpAny_nextOf_list_end (I.ok.hd hc) hit pt hnone fun h' z he' hx' => ?_)
    obtain ⟨o, ho, hcc⟩ := hx'
    refine wpAny_bind (wpAny_isInstance (T := "StopIteration") (b := true) ⟨o, ho, hcc⟩ isSubtype_stop ?_)
    exact wpAny_pure ⟨rfl, I.turned (t' := s.toks) (fun b o hb q => he' b o hb q) f0 f1 f3 f4 f5⟩
  self := fun A i s Q E st h => by
    obtain ⟨⟨_, he⟩, _⟩ := st
    exact wpAny_pyIter_enum he h
def iEnumL (K : PySem.W.Frag) (ta : TA) : TI := fun σ H R => ta σ H fun vs H1 => ∃ a xs, vs = [.ref a] ∧ SqL K H1 a xs ∧ R (IteL K a) H1
theorem pi_enumL {X : Cx} {e : Expr} {ta : TA} {p pos tpos : Pos} {elts : List Expr} {kk : Nat} (hg : Gl X "enumerate") (hm : X.mg "enumerate" = none) (ha : PA X [e] ta) (hs : starEach [e] X.env = [(false, eval e X.env)] := by rfl) :
    PI X (.Tuple elts kk tpos) (.Call (.Name "enumerate" p) [e] [] pos) (iEnumL X.K ta) := by
  refine ⟨fun pins s σ H R I h => ?_⟩
  refine Call_ (ld_blt I hg hm boot_enumerate (PyProof.Rows.callWith_type1 (thn (ha.run pos pins s σ H _ I h) fun us s1 ⟨vs, H1, I1, r1, q1⟩ => ?_) hs rfl))
  obtain ⟨a, xs, ex, hq, q⟩ := q1
  subst ex
  cases r1 with
  | cons r rr =>
    cases rr
    cases r
    obtain ⟨its, rv, p', hz⟩ := I1.list hq
    have pt : s1.heap.IsList a its.toArray := p'.isList
    have al : a < s1.heap.objs.size := by obtain ⟨_, q, _⟩ := pt; exact Heap.lt_size q
    refine call_enumerate_list pt fun h' he hit hsz hk => wpAny_pyIter_enum he ?_
    have I2 : Inv X pins σ H1 { s1 with heap := h' } := I1.kept (t' := s1.toks) hk
    refine ⟨s1.heap.objs.size + 1, [s1.heap.objs.size + 1, s1.heap.objs.size], _, _, H1, rfl, I2, turn_enumL a (s1.heap.objs.size + 1) s1.heap.objs.size (Nat.ne_of_lt al) (Nat.ne_of_lt (Nat.lt_succ_of_lt al)), ⟨⟨.none, he⟩, hit, Nat.succ_ne_self _⟩, fun b hb => ?_, q⟩
    have hle : s1.heap.objs.size ≤ b := by
      rcases List.mem_cons.mp hb with z | hb
      · rw [z]; exact Nat.le_add_right _ _
      · rw [List.mem_singleton.mp hb]; exact Nat.le_refl _
    exact I1.fpOk hle (I1.hok.fresh hle)
end Z
set_option Elab.async false
set_option maxRecDepth 100000
set_option linter.unusedVariables false
/-! ZS: len(set(t)) of a tuple of any number of texts. -/
namespace ZS
open PySem PySem.Spec PyProof.Rows
/-- how many different ones -/
def dcR : List Str → Nat
  | [] => 0
  | x :: r => if x ∈ r then dcR r else dcR r + 1
theorem dcR_le : ∀ r : List Str, dcR r ≤ r.length
  | [] => Nat.le_refl _
  | x :: r => by
    unfold dcR
    have := dcR_le r
    rw [List.length_cons]
    split <;> omega
theorem dcR_eq : ∀ r : List Str, dcR r = r.length ↔ r.Nodup
  | [] => by simp [dcR]
  | x :: r => by
    unfold dcR
    have := dcR_le r
    rw [List.length_cons, List.nodup_cons]
    split
    · rename_i h
      constructor
      · intro e; omega
      · intro e; exact absurd h e.1
    · rename_i h
      rw [← dcR_eq r]
      constructor
      · intro e; exact ⟨h, by omega⟩
      · intro e; omega
def dcnt (xs : List Str) : Nat := dcR xs.reverse
theorem dcnt_eq (xs : List Str) : dcnt xs = xs.length ↔ xs.Nodup := by
  unfold dcnt
  have h := dcR_eq xs.reverse
  rw [List.length_reverse] at h
  rw [h]
  exact ⟨fun h => (List.pairwise_reverse.mp h).imp fun h => Ne.symm h, fun h => List.pairwise_reverse.mpr (h.imp fun h => Ne.symm h)⟩
theorem dcnt_le (xs : List Str) : dcnt xs ≤ xs.length := by
  have h := dcR_le xs.reverse
  rw [List.length_reverse] at h
  exact h
section
variable {P : Program} {w : World} {A : Around} {R : Result → Shared → Prop} {I : Addr} {fp wr : List Addr} {G : Array GenState → Array GenState → Prop} {n : Nat} {Pv : Nat → Value → Prop} {St : Nat → Shared → Prop}
theorem many (W : WalksS P w A.in1 I fp wr G n Pv St) (S : Addr) (hSf : S ∉ fp) (xs : List Str) (hn : n = xs.length) (hb : xs.length + 1 < scanBound) (hval : ∀ i v, Pv i v → ∃ x t, xs[i]? = some x ∧ v = .str x t) :
    ∀ (k i : Nat) (s : Shared), n - i = k → i ≤ n → St i s → s.heap.SetOf (strKind P w) S (fun j => decide (j ∈ xs.take i)) (dcnt (xs.take i)) →
      (∀ s', Moved (S :: wr) G s s' → s'.heap.SetOf (strKind P w) S (fun j => decide (j ∈ xs)) (dcnt xs) → R (.ok (.ret .none)) s') →
      codeAny (model P w) A (.builtin "set.update.loop" ⟨[.ref S, .ref I], []⟩) R s := by
  have out : S ∉ wr := fun h => hSf (W.sub _ h)
  have up : ∀ b ∈ wr, b ∈ S :: wr := fun b hb => List.mem_cons_of_mem _ hb
  intro k
  induction k with
  | zero =>
    intro i s _ hi st hS hR
    obtain rfl : i = n := by omega
    refine codeAny_builtin PyProof.Rows.F.entry_set_update_loop ?_
    rw [Around.under_plainId PyProof.Rows.F.plain_set_update_loop _]
    refine wpAny_bind (m := pyNext (.ref I)) (W.done s _ _ st fun s' hm => ?_)
    have e : xs.take i = xs := List.take_of_length_le (by omega)
    rw [e] at hS
    refine wpAny_pure (a := PySem.Fin.done (.ret Value.none)) (hR s' (hm.mono up) ?_)
    obtain ⟨o, es, ep, t, ho, rest⟩ := hS
    exact ⟨o, es, ep, t, hm.heap S _ out ho, rest⟩
  | succ k ih =>
    intro i s hk hi st hS hR
    have lt : i < n := by omega
    refine codeAny_builtin PyProof.Rows.F.entry_set_update_loop ?_
    rw [Around.under_plainId PyProof.Rows.F.plain_set_update_loop _]
    refine wpAny_bind (m := pyNext (.ref I)) (W.item i s _ _ lt st fun v s1 hP st1 hm => ?_)
    obtain ⟨x, t, hx, rfl⟩ := hval i v hP
    have hS1 : s1.heap.SetOf (strKind P w) S (fun j => decide (j ∈ xs.take i)) (dcnt (xs.take i)) := by
      obtain ⟨o, es, ep, tb, ho, rest⟩ := hS
      exact ⟨o, es, ep, tb, hm.heap S _ out ho, rest⟩
    have room : dcnt (xs.take i) + 1 < scanBound := by
      have := dcnt_le (xs.take i)
      have : (xs.take i).length ≤ xs.length := by rw [List.length_take]; omega
      omega
    refine wpAny_bind (m := holding [Value.str x t] (setAdd S (.str x t))) (wpAny_holding ?_)
    unfold setAdd
    refine wpAny_holding (wpAny_bind ((strKind P w).pyHash (k := x) (strKind_is _ _ _ _) ?_))
    refine wpAny_setAddHashed_of (knd := strKind P w) (s := { s1 with toks := s1.toks + 1 }) (strKind_is _ _ _ _) rfl hS1 room fun h2 sb hS2 => ?_
    have hS3 : h2.SetOf (strKind P w) S (fun j => decide (j ∈ xs.take (i + 1))) (dcnt (xs.take (i + 1))) := by
      refine SetOf_congr hS2 (fun j => ?_) ?_
      · rw [List.take_add_one, hx]; simp [List.mem_append]
      · rw [List.take_add_one, hx]
        show _ = dcR ((xs.take i) ++ [x]).reverse
        rw [List.reverse_append]
        show _ = dcR (x :: (xs.take i).reverse)
        unfold dcR
        simp only [List.mem_reverse, decide_eq_true_eq]
        rfl
    refine wpAny_pure ⟨plainId_quiet PyProof.Rows.F.plain_set_update_loop _, ih (i + 1) _ (by omega) lt (W.frame _ s1 _ _ st1 (Nat.le_succ _) fun b hb o e => ?_) hS3 fun s3 hm3 hS4 => ?_⟩
    · rw [sb.2 b (fun h : b = S => hSf (by rw [← h]; exact hb))]; exact e
    · refine hR s3 (Moved.trans W.gtrans ((hm.mono up).then_heap (Nat.le_succ _) fun b o hb e => ?_) hm3) hS4
      rw [sb.2 b (fun h : b = S => hb (by rw [h]; exact List.mem_cons_self))]; exact e
end
section
variable {P : Program} {w : World} {A : Around} {E : Value → Shared → Prop} {s : Shared}
set_option maxHeartbeats 3200000 in
theorem set_tup {l : Addr} {items : Array Value} {xs : List Str} {Q : Value → Shared → Prop} (hh : A.handled = none) (hl : s.heap.IsTuple l items) (hi : StrsAre items.toList xs) (hb : xs.length + 1 < scanBound)
    (h : ∀ (h' : Heap) (tk : Nat), h'.SetOf (strKind P w) s.heap.objs.size (fun j => decide (j ∈ xs)) (dcnt xs) → (∀ b o, b < s.heap.objs.size → s.heap.get? b = some o → h'.get? b = some o) → Q (.ref s.heap.objs.size) { s with heap := h', toks := tk }) :
    wpAny (model P w) A (call (.type "set") [.ref l]) Q E s := by
  obtain ⟨c, tl, hmro⟩ := PySem.F.called_set.mro
  have f1 := PySem.F.called_set.made
  have f2 := PySem.F.called_set.sub
  have f3 := PySem.F.called_set.notType
  have f4 := PySem.F.called_set.canCreate
  have f5 := PySem.F.typeCall_set_1 (.ref l)
  have hsz : items.size = xs.length := by rw [← StrsAre.len_eq hi, Array.length_toList]
  have hval : ∀ (i : Nat) (v : Value), items[i]? = some v → ∃ x t, xs[i]? = some x ∧ v = .str x t := fun i v hv => by
    obtain ⟨t, e⟩ := SS.strs_at hi i v (by rw [Array.getElem?_toList]; exact hv)
    have lt : i < xs.length := by rw [← hsz]; exact (Array.getElem?_eq_some_iff.mp hv).1
    refine ⟨xs[i], t, List.getElem?_eq_getElem lt, ?_⟩
    rw [e, List.getD_eq_getElem?_getD, List.getElem?_eq_getElem lt] <;> rfl
  refine wpAny_call (codeAny_of_tree ?_)
  refine wpAny_pure (a := _) ⟨Code.quiet_builtin _ (by decide +kernel), codeAny_builtin PySem.F.entry_type_call ?_⟩
  rw [Around.under_plain (weight_type_call_type "set" [.ref l] []) rfl]
  repeat (any_goals (first | assumption | wp_step))
  refine codeAny_mono (code_set_new_1 (.ref l) (E := E) (Q₁ := fun v s₁ => ∃ led : Bool, v = .ref s.heap.objs.size ∧ s₁ = { s with heap := s.heap.push { cls := .type "set", dict := none, data := .set #[] 0 (.fresh 0 0 led) } }) fun led => ⟨led, rfl, rfl⟩) fun r s₁ hr => ?_
  match r, hr with
  | .error e, hr => exact hr
  | .ok .next, hr => exact hr.elim
  | .ok .brk, hr => exact hr.elim
  | .ok .cont, hr => exact hr.elim
  | .ok (.ret v), hr =>
  obtain ⟨led, rfl, rfl⟩ := hr
  have hS : (s.heap.push { cls := .type "set", dict := none, data := .set #[] 0 (.fresh 0 0 led) }).get? s.heap.objs.size = some { cls := .type "set", dict := none, data := .set #[] 0 (.fresh 0 0 led) } := Heap.get?_push_size _ rfl
  have hT : Shared.TypeIs { s with heap := s.heap.push { cls := .type "set", dict := none, data := .set #[] 0 (.fresh 0 0 led) } } (.ref s.heap.objs.size) "set" := ⟨_, hS, rfl⟩
  have f6 := PySem.F.called_set.init.lookup
  have f7 := PySem.F.called_set.init.bind (.ref s.heap.objs.size)
  repeat (any_goals (first | assumption | wp_step))
  refine codeAny_mono (codeAny_call_builtin (R := wants (fun r s₂ => r = .none ∧ ∃ h' tk, s₂ = { s with heap := h', toks := tk } ∧ h'.SetOf (strKind P w) s.heap.objs.size (fun j => decide (j ∈ xs)) (dcnt xs) ∧
    (∀ b o, b < s.heap.objs.size → s.heap.get? b = some o → h'.get? b = some o)) E) PySem.F.called_set.init.plain PySem.F.entry_set_init (check_set_init_1 hT ?_)) fun r₂ s₂ hr₂ => ?_
  · have hl1 : (s.heap.push { cls := .type "set", dict := none, data := .set #[] 0 (.fresh 0 0 led) }).IsTuple l items := hl.push _
    obtain ⟨⟨oc, od, dt, sl⟩, ho, h1, nl, h2⟩ := id hl1
    have hlS : l < s.heap.objs.size := by obtain ⟨_, e, _⟩ := hl; exact Heap.lt_size e
    simp only at h1 h2
    subst h1; subst h2
    have g1 := PySem.F.sub_tuple_set
    have g2 := PySem.F.sub_tuple_frozenset
    have g3 : (Value.type "tuple" == Value.type "dict") = false := by decide
    unfold Builtin.«set.__init__» noKeywords Builtin.Frozenset.updateFrom
    generalize hPI : pyIter = PI
    wp_walk
    subst hPI
    refine wpAny_pyIter_tuple (s := { s with heap := s.heap.push { cls := .type "set", dict := none, data := .set #[] 0 (.fresh 0 0 led) } }) hl1 ?_
    refine wpAny_bind (wpAny_runValue ?_)
    have z1 : (s.heap.push { cls := .type "set", dict := none, data := .set #[] 0 (.fresh 0 0 led) }).objs.size = s.heap.objs.size + 1 := Heap.size_push ..
    have ne1 : l ≠ (s.heap.push { cls := .type "set", dict := none, data := .set #[] 0 (.fresh 0 0 led) }).objs.size := by rw [z1]; exact Nat.ne_of_lt (Nat.lt_succ_of_lt hlS)
    have ne2 : s.heap.objs.size ∉ [(s.heap.push { cls := .type "set", dict := none, data := .set #[] 0 (.fresh 0 0 led) }).objs.size, l] := by
      rw [z1]
      simp only [List.mem_cons, List.not_mem_nil, or_false, not_or]
      exact ⟨Nat.ne_of_lt (Nat.lt_succ_self _), Nat.ne_of_gt hlS⟩
    have hh3 : A.in1.in1.in1.handled = none := by simp [hh]
    refine many ((Walks.tuple hh3 _ l ne1 items).toS) s.heap.objs.size ne2 xs hsz hb hval (items.size - 0) 0 _ (by omega) (Nat.zero_le _) ⟨⟨_, Heap.get?_push_size _ rfl, rfl, rfl⟩, hl1.push _⟩ ?_ ?_
    · have hget : ((s.heap.push { cls := .type "set", dict := none, data := .set #[] 0 (.fresh 0 0 led) }).push { cls := .type "tuple_iterator", data := .fields #[.ref l, .int 0 0] }).get? s.heap.objs.size = some { cls := .type "set", dict := none, data := .set #[] 0 (.fresh 0 0 led) } := Heap.get?_push_of_some _ hS
      exact SetOf_congr ((setObjOf_fresh (knd := strKind P w) led).setOf hget (by decide)) (fun _ => by simp) rfl
    · rintro ⟨h', g', d', tk', os'⟩ hm hS'
      obtain rfl : g' = s.gens := hm.gens
      obtain rfl : d' = s.drawn := hm.drawn
      obtain rfl : os' = s.os := hm.os
      refine wpAny_pure ?_
      refine wpAny_pure ⟨rfl, h', tk', rfl, hS', fun b o hb e => ?_⟩
      refine hm.heap b o ?_ (Heap.get?_push_of_some _ (Heap.get?_push_of_some _ e))
      rw [z1]
      simp only [List.mem_cons, List.not_mem_nil, or_false, not_or]
      exact ⟨Nat.ne_of_lt hb, Nat.ne_of_lt (Nat.lt_succ_of_lt hb)⟩
  · match r₂, hr₂ with
    | .error e, hr => exact hr
    | .ok .next, hr => exact hr.elim
    | .ok .brk, hr => exact hr.elim
    | .ok .cont, hr => exact hr.elim
    | .ok (.ret v), hr =>
      obtain ⟨rfl, h', tk, rfl, hS', hk'⟩ := hr
      repeat (any_goals (first | assumption | wp_step))
      exact h _ _ hS' hk'
end
end ZS
namespace Z
open PySem PySem.Spec PyProof.Rows L2
/-- len(set(t)), t a tuple of texts -/
def tLenSets (K : PySem.W.Frag) (ta : TE) : TE := fun σ H Q => ta σ H fun x H1 => ∃ l, ∃ xs : List Str, x = .ref l ∧ SqT K H1 l (xs.map V.str) ∧ xs.length + 1 < scanBound ∧ Q (.int (ZS.dcnt xs : Nat)) H1
theorem pe_lenSets {X : Cx} {a : Expr} {ta : TE} {p p2 q pos : Pos} (hc : X.calm = true) (hg : Gl X "len") (hm : X.mg "len" = none) (hg2 : Gl X "set") (hm2 : X.mg "set" = none) (ha : PE X a ta)
    (na : starEach [a] X.env = (false, eval a X.env) :: starEach [] X.env := by rfl) : PE X (.Call (.Name "len" p) [.Call (.Name "set" p2) [a] [] q] [] pos) (tLenSets X.K ta) := by
  refine ⟨fun pins s σ H Q I h => ?_⟩
  refine Call_ (ld_blt I hg hm boot_len ?_)
  refine PyProof.Rows.callWith_builtin1 (PyProof.Rows.args_cons ?_ rfl) rfl rfl
  refine Call_ (ld_blt I hg2 hm2 boot_set ?_)
  refine PyProof.Rows.callWith_type1 (PyProof.Rows.args_cons (thn (ha.run pins s σ H _ I h) fun v s1 ⟨x, H1, I1, r1, q1⟩ => PyProof.Rows.args_nil ?_) na) na rfl
  obtain ⟨l, xs, rfl, hq, hb, q1⟩ := q1
  cases r1
  obtain ⟨its, r, pl, hz⟩ := I1.tuple hq
  refine ZS.set_tup (I1.ok.hd hc) pl (by simpa using strsAre_of r) hb fun h' tk hS hk => ?_
  refine PyProof.Rows.args_nil ?_
  obtain ⟨o, es, ep, t, ho, hex, hd, _, _, _, hf, hn⟩ := hS
  have I2 : Inv X pins σ H1 { s1 with heap := h', toks := tk } := I1.kept fun b o e => hk b o (Heap.lt_size e) e
  have hle := ZS.dcnt_le xs
  unfold scanBound at hb
  refine call_len_set ho hex hd hf (by rw [hn]; omega) ⟨.int (ZS.dcnt xs : Nat), H1, I2.tok _, ⟨_, by rw [hn]⟩, q1⟩
end Z
set_option Elab.async false
set_option maxRecDepth 100000
/-! Z0: own values and heaps, how they stand in the layer's heap, the readings made of own programs. -/
namespace Z
open PySem PySem.Spec PyProof.Rows L2

/-- own values: tuples and lists that stay as they are stand inline; ref: an own object -/
inductive Val where
  | non | bl (b : Bool) | int (i : Int) | str (x : Str)
  | tup (xs : List Val) | lst (xs : List Val)
  | ref (n : Nat) | glo (a : Addr) | ty (n : String) | scr (ns : List Int)
/-- own objects -/
inductive Ob where
  | lst (xs : List Val)
  | dic (kvs : List (Key × Val))
  | ins (C : Addr) (fs : List (Str × Val))
abbrev HH := List Ob
structure Ex where
  cls : Value
  fs : List (Str × Val)
inductive Out (β : Type) where
  | bad
  | ok (a : β) (h : HH)
  | ex (e : Ex) (h : HH)
abbrev M (β : Type) := HH → Out β
abbrev En := List (Option Val)
abbrev SE := En → M Val
def obind {β γ : Type} (o : Out β) (f : β → M γ) : Out γ := match o with
  | .bad => .bad
  | .ok a h => f a h
  | .ex e h => .ex e h
def bind {β γ : Type} (m : M β) (f : β → M γ) : M γ := fun h => obind (m h) f
def ret {β : Type} (a : β) : M β := fun h => .ok a h
def fail {β : Type} : M β := fun _ => .bad
theorem obind_ok {β γ : Type} (a : β) (h : HH) (f : β → M γ) : obind (.ok a h) f = f a h := rfl
theorem obind_bad {β γ : Type} (f : β → M γ) : obind .bad f = .bad := rfl
theorem obind_ex {β γ : Type} (e : Ex) (h : HH) (f : β → M γ) : obind (.ex e h) f = .ex e h := rfl

/-! ### how they stand -/
/-- the thing at a stays as it is: al the own objects' addresses, B those that are being made -/
def At (al B : List Addr) (H : Hp) (a : Addr) (u : HO) : Prop := (H a = some u ∨ ∃ o, H a = some (.frz o u)) ∧ a ∉ al ∧ a ∉ B
def At1 (al B : List Addr) (H : Hp) (a : Addr) (u : HO) : Prop := H a = some u ∧ a ∉ al ∧ a ∉ B
def KL (K : PySem.W.Frag) (a : Addr) (xs : List V) : Prop :=
  ∃ (o : Obj) (its : Array Value) (n : Nat), K.lookup a = some o ∧ o.cls = .type "list" ∧ o.dict = none ∧ o.data = .seq its n ∧ its.size ≤ sizeLine ∧ Vals xs its.toList
def AtT (al B : List Addr) (H : Hp) (a : Addr) (xs : List V) : Prop := ∃ u, At1 al B H a u ∧ FT u xs
def KT (K : PySem.W.Frag) (a : Addr) (xs : List V) : Prop :=
  ∃ (o : Obj) (its : Array Value) (n : Nat), K.lookup a = some o ∧ o.cls = .type "tuple" ∧ o.dict = none ∧ o.data = .seq its n ∧ its.size ≤ sizeLine ∧ Vals xs its.toList
mutual
inductive Rep (K : PySem.W.Frag) (al B : List Addr) (H : Hp) : Val → V → Prop
  | non : Rep K al B H .non .non
  | bl (b : Bool) : Rep K al B H (.bl b) (.bl b)
  | int (i : Int) : Rep K al B H (.int i) (.int i)
  | str (x : Str) : Rep K al B H (.str x) (.str x)
  | tup {a : Addr} {xs : List Val} {vs : List V} : (AtT al B H a vs ∨ KT K a vs) → xs.length ≤ sizeLine → Reps K al B H xs vs → Rep K al B H (.tup xs) (.ref a)
  | lst {a : Addr} {xs : List Val} {vs : List V} : At1 al B H a (.lst vs) → xs.length ≤ sizeLine → Reps K al B H xs vs → Rep K al B H (.lst xs) (.ref a)
  | ref {n : Nat} {a : Addr} : al[n]? = some a → Rep K al B H (.ref n) (.ref a)
  | glo (a : Addr) : Rep K al B H (.glo a) (.ref a)
  | ty (n : String) : Rep K al B H (.ty n) (.ty n)
  | scr {a : Addr} {ns : List Int} : (At al B H a (.lst (ns.map V.int)) ∨ KL K a (ns.map V.int)) → ns.length ≤ sizeLine → Rep K al B H (.scr ns) (.ref a)
inductive Reps (K : PySem.W.Frag) (al B : List Addr) (H : Hp) : List Val → List V → Prop
  | nil : Reps K al B H [] []
  | cons {x : Val} {xs : List Val} {v : V} {vs : List V} : Rep K al B H x v → Reps K al B H xs vs → Reps K al B H (x :: xs) (v :: vs)
end
/-- an own object -/
inductive ObR (K : PySem.W.Frag) (al B : List Addr) (H : Hp) : Ob → Addr → Prop
  | lst {a : Addr} {xs : List Val} {vs : List V} : H a = some (.lst vs) → xs.length ≤ sizeLine → Reps K al B H xs vs → ObR K al B H (.lst xs) a
  | dic {a : Addr} {kvs : List (Key × Val)} {kws : List (Key × V)} : H a = some (.dK kws) → kvs.map (·.1) = kws.map (·.1) → Reps K al B H (kvs.map (·.2)) (kws.map (·.2)) → ObR K al B H (.dic kvs) a
  | ins {a C dx : Addr} {fs : List (Str × Val)} {gs : List (Str × V)} : H a = some (.ins C dx gs) → fs.map (·.1) = gs.map (·.1) → Reps K al B H (fs.map (·.2)) (gs.map (·.2)) → ObR K al B H (.ins C fs) a
structure HR (K : PySem.W.Frag) (al B : List Addr) (H : Hp) (h : HH) : Prop where
  nd : al.Nodup
  len : al.length = h.length
  ob : ∀ (n : Nat) (a : Addr) (o : Ob), al[n]? = some a → h[n]? = some o → ObR K al B H o a
  live : ∀ a ∈ B, H a ≠ none
  apart : ∀ a ∈ B, a ∉ al
/-- a step: what isn't own stays, own ones may be added -/
structure Stp (al : List Addr) (H : Hp) (al' : List Addr) (H' : Hp) : Prop where
  more : ∃ be, al' = al ++ be ∧ ∀ b ∈ be, H b = none
  keep : ∀ a o, H a = some o → a ∉ al → H' a = some o
  up : ∀ a, H a ≠ none → H' a ≠ none
theorem Stp.refl (al : List Addr) (H : Hp) : Stp al H al H := ⟨⟨[], by simp, by simp⟩, fun _ _ e _ => e, fun _ e => e⟩
theorem Stp.notin {al al' : List Addr} {H H' : Hp} (s : Stp al H al' H') {a : Addr} (h : H a ≠ none) (n : a ∉ al) : a ∉ al' := by
  obtain ⟨be, e, f⟩ := s.more
  intro q
  rw [e] at q
  rcases List.mem_append.mp q with q | q
  · exact n q
  · exact h (f a q)
theorem Stp.trans {al al1 al2 : List Addr} {H H1 H2 : Hp} (s : Stp al H al1 H1) (t : Stp al1 H1 al2 H2) : Stp al H al2 H2 := by
  obtain ⟨be, e, f⟩ := s.more
  obtain ⟨ga, e2, g⟩ := t.more
  refine ⟨⟨be ++ ga, by rw [e2, e, List.append_assoc], fun b hb => ?_⟩, fun a o q n => ?_, fun a q => t.up a (s.up a q)⟩
  · rcases List.mem_append.mp hb with q | q
    · exact f b q
    · have := g b q
      cases z : H b with
      | none => rfl
      | some o => exact absurd this (s.up b (by rw [z]; simp))
  · exact t.keep a o (s.keep a o q n) (s.notin (by rw [q]; simp) n)
/-- a step in which those that are being made may change -/
structure StpB (B al : List Addr) (H : Hp) (al' : List Addr) (H' : Hp) : Prop where
  more : ∃ be, al' = al ++ be ∧ ∀ b ∈ be, H b = none
  keep : ∀ a o, H a = some o → a ∉ al → a ∉ B → H' a = some o
  up : ∀ a, H a ≠ none → H' a ≠ none
theorem Stp.toB {B al al' : List Addr} {H H' : Hp} (s : Stp al H al' H') : StpB B al H al' H' := ⟨s.more, fun a o e n _ => s.keep a o e n, s.up⟩
theorem StpB.notin {B al al' : List Addr} {H H' : Hp} (s : StpB B al H al' H') {a : Addr} (h : H a ≠ none) (n : a ∉ al) : a ∉ al' := by
  obtain ⟨be, e, f⟩ := s.more
  intro q
  rw [e] at q
  rcases List.mem_append.mp q with q | q
  · exact n q
  · exact h (f a q)
theorem StpB.trans {B al al1 al2 : List Addr} {H H1 H2 : Hp} (s : StpB B al H al1 H1) (t : StpB B al1 H1 al2 H2) : StpB B al H al2 H2 := by
  obtain ⟨be, e, f⟩ := s.more
  obtain ⟨ga, e2, g⟩ := t.more
  refine ⟨⟨be ++ ga, by rw [e2, e, List.append_assoc], fun b hb => ?_⟩, fun a o q n m => ?_, fun a q => t.up a (s.up a q)⟩
  · rcases List.mem_append.mp hb with q | q
    · exact f b q
    · have := g b q
      cases z : H b with
      | none => rfl
      | some o => exact absurd this (s.up b (by rw [z]; simp))
  · exact t.keep a o (s.keep a o q n m) (s.notin (by rw [q]; simp) n) m
theorem StpB.turn {B al al' : List Addr} {H H' : Hp} (s : StpB B al H al' H') {D : Addr} {u : HO} (n : D ∈ B) : StpB B al H al' (upd H' D u) :=
  ⟨s.more, fun a o e m b => by rw [upd_ne (a := D) (b := a) (fun z => b (by rw [z]; exact n))]; exact s.keep a o e m b, fun a q => by
    by_cases z : a = D
    · subst z; rw [upd_same]; simp
    · rw [upd_ne z]; exact s.up a q⟩
theorem At.stepW {al al' B : List Addr} {H H' : Hp} {a : Addr} {u : HO} (s : StpB B al H al' H') (x : At al B H a u) : (H' a = some u ∨ ∃ o, H' a = some (.frz o u)) ∧ a ∉ al' := by
  obtain ⟨q, n, m⟩ := x
  rcases q with q | ⟨o, q⟩
  · exact ⟨.inl (s.keep a _ q n m), s.notin (by rw [q]; simp) n⟩
  · exact ⟨.inr ⟨o, s.keep a _ q n m⟩, s.notin (by rw [q]; simp) n⟩
theorem At1.stepW {al al' B : List Addr} {H H' : Hp} {a : Addr} {u : HO} (s : StpB B al H al' H') (x : At1 al B H a u) : H' a = some u ∧ a ∉ al' := ⟨s.keep a _ x.1 x.2.1 x.2.2, s.notin (by rw [x.1]; simp) x.2.1⟩
theorem StpB.get {B al al' : List Addr} {H H' : Hp} (s : StpB B al H al' H') {n : Nat} {a : Addr} (h : al[n]? = some a) : al'[n]? = some a := by
  obtain ⟨be, e, _⟩ := s.more
  obtain ⟨q, r⟩ := List.getElem?_eq_some_iff.mp h
  rw [e, List.getElem?_append_left q]
  exact h
theorem At.step {al al' B : List Addr} {H H' : Hp} {a : Addr} {u : HO} (s : Stp al H al' H') (x : At al B H a u) : At al' B H' a u := by
  obtain ⟨q, n, m⟩ := x
  rcases q with q | ⟨o, q⟩
  · exact ⟨.inl (s.keep a _ q n), s.notin (by rw [q]; simp) n, m⟩
  · exact ⟨.inr ⟨o, s.keep a _ q n⟩, s.notin (by rw [q]; simp) n, m⟩
theorem At1.step {al al' B : List Addr} {H H' : Hp} {a : Addr} {u : HO} (s : Stp al H al' H') (x : At1 al B H a u) : At1 al' B H' a u := ⟨s.keep a _ x.1 x.2.1, s.notin (by rw [x.1]; simp) x.2.1, x.2.2⟩
theorem AtT.step {al al' B : List Addr} {H H' : Hp} {a : Addr} {u : List V} (s : Stp al H al' H') (x : AtT al B H a u) : AtT al' B H' a u := by
  obtain ⟨w, q, f⟩ := x
  exact ⟨w, q.step s, f⟩
theorem At1.at {al B : List Addr} {H : Hp} {a : Addr} {u : HO} (x : At1 al B H a u) : At al B H a u := ⟨.inl x.1, x.2⟩
theorem Stp.get {al al' : List Addr} {H H' : Hp} (s : Stp al H al' H') {n : Nat} {a : Addr} (h : al[n]? = some a) : al'[n]? = some a := by
  obtain ⟨be, e, _⟩ := s.more
  obtain ⟨q, r⟩ := List.getElem?_eq_some_iff.mp h
  rw [e, List.getElem?_append_left q]
  exact h
section
variable {K : PySem.W.Frag} {al al' B : List Addr} {H H' : Hp}
mutual
theorem Rep.step (s : Stp al H al' H') : ∀ {w : Val} {v : V}, Rep K al B H w v → Rep K al' B H' w v
  | _, _, .non => .non
  | _, _, .bl b => .bl b
  | _, _, .int i => .int i
  | _, _, .str x => .str x
  | _, _, .tup a l r => .tup (a.imp (AtT.step s) id) l (Reps.step s r)
  | _, _, .lst a l r => .lst (a.step s) l (Reps.step s r)
  | _, _, .ref e => .ref (s.get e)
  | _, _, .glo a => .glo a
  | _, _, .ty n => .ty n
  | _, _, .scr a l => .scr (a.imp (At.step s) id) l
theorem Reps.step (s : Stp al H al' H') : ∀ {w : List Val} {v : List V}, Reps K al B H w v → Reps K al' B H' w v
  | _, _, .nil => .nil
  | _, _, .cons a r => .cons (Rep.step s a) (Reps.step s r)
end
theorem Reps.length : ∀ {xs : List Val} {vs : List V}, Reps K al B H xs vs → xs.length = vs.length
  | _, _, .nil => rfl
  | _, _, .cons _ r => congrArg (· + 1) r.length
theorem Reps.append : ∀ {xs ys : List Val} {vs ws : List V}, Reps K al B H xs vs → Reps K al B H ys ws → Reps K al B H (xs ++ ys) (vs ++ ws)
  | _, _, _, _, .nil, s => s
  | _, _, _, _, .cons a r, s => .cons a (r.append s)
theorem Reps.get : ∀ {xs : List Val} {vs : List V} {i : Nat} {w : Val}, Reps K al B H xs vs → xs[i]? = some w → ∃ v, vs[i]? = some v ∧ Rep K al B H w v
  | _, _, _, _, .nil, e => by simp at e
  | _, _, 0, _, .cons a r, e => by simp at e; subst e; exact ⟨_, rfl, a⟩
  | _, _, i + 1, w, .cons a r, e => by
    obtain ⟨v, p, q⟩ := r.get (i := i) (w := w) (by simpa using e)
    exact ⟨v, by simpa using p, q⟩
theorem Reps.getV : ∀ {xs : List Val} {vs : List V} {i : Nat} {v : V}, Reps K al B H xs vs → vs[i]? = some v → ∃ w, xs[i]? = some w ∧ Rep K al B H w v
  | _, _, _, _, .nil, e => by simp at e
  | _, _, 0, _, .cons a r, e => by simp at e; subst e; exact ⟨_, rfl, a⟩
  | _, _, i + 1, w, .cons a r, e => by
    obtain ⟨v, p, q⟩ := r.getV (i := i) (v := w) (by simpa using e)
    exact ⟨v, by simpa using p, q⟩
theorem Reps.take : ∀ {xs : List Val} {vs : List V} (n : Nat), Reps K al B H xs vs → Reps K al B H (xs.take n) (vs.take n)
  | _, _, 0, _ => by simp; exact .nil
  | _, _, _ + 1, .nil => .nil
  | _, _, n + 1, .cons a r => .cons a (r.take n)
theorem Reps.drop : ∀ {xs : List Val} {vs : List V} (n : Nat), Reps K al B H xs vs → Reps K al B H (xs.drop n) (vs.drop n)
  | _, _, 0, r => by simpa using r
  | _, _, _ + 1, .nil => .nil
  | _, _, n + 1, .cons a r => by simpa using r.drop n
theorem Reps.set {w : Val} {v : V} (q : Rep K al B H w v) : ∀ {xs : List Val} {vs : List V} (i : Nat), Reps K al B H xs vs → Reps K al B H (xs.set i w) (vs.set i v)
  | _, _, _, .nil => .nil
  | _, _, 0, .cons _ t => .cons q t
  | _, _, i + 1, .cons a t => .cons a (t.set q i)
theorem Reps.eraseIdx : ∀ {xs : List Val} {vs : List V} (i : Nat), Reps K al B H xs vs → Reps K al B H (xs.eraseIdx i) (vs.eraseIdx i)
  | _, _, _, .nil => .nil
  | _, _, 0, .cons _ t => t
  | _, _, i + 1, .cons a t => .cons a (t.eraseIdx i)
theorem Reps.reverse : ∀ {xs : List Val} {vs : List V}, Reps K al B H xs vs → Reps K al B H xs.reverse vs.reverse
  | _, _, .nil => .nil
  | _, _, .cons a t => by
    rw [List.reverse_cons, List.reverse_cons]
    exact t.reverse.append (.cons a .nil)
end
theorem KL.sq {K : PySem.W.Frag} {H : Hp} {a : Addr} {xs : List V} (h : KL K a xs) : SqL K H a xs := .inr h
theorem noD_of {K : PySem.W.Frag} {al B : List Addr} {H : Hp} {a : Addr} {xs : List V} (h : AtT al B H a xs ∨ KT K a xs) : NoD K H a xs := by
  rcases h with ⟨u, q, f⟩ | h
  · exact .inl ⟨u, q.1, f⟩
  · exact .inr h
theorem sqT_of {K : PySem.W.Frag} {al B : List Addr} {H : Hp} {a : Addr} {xs : List V} (h : AtT al B H a xs ∨ KT K a xs) : SqT K H a xs := (noD_of h).sq
theorem sqL_of {K : PySem.W.Frag} {al B : List Addr} {H : Hp} {a : Addr} {xs : List V} (h : At al B H a (.lst xs) ∨ KL K a xs) : SqL K H a xs := by
  rcases h with ⟨h, _⟩ | h
  · exact .inl h
  · exact .inr h
theorem ObR.live {K : PySem.W.Frag} {al B : List Addr} {H : Hp} {o : Ob} {a : Addr} (x : ObR K al B H o a) : H a ≠ none := by
  cases x with
  | lst h _ _ => rw [h]; simp
  | dic h _ _ => rw [h]; simp
  | ins h _ _ => rw [h]; simp
theorem HR.alive {K : PySem.W.Frag} {al B : List Addr} {H : Hp} {h : HH} (x : HR K al B H h) {a : Addr} (q : a ∈ al) : H a ≠ none := by
  obtain ⟨n, hn, rfl⟩ := List.getElem_of_mem q
  have l : n < h.length := by rw [← x.len]; exact hn
  exact (x.ob n _ h[n] (List.getElem?_eq_getElem hn) (List.getElem?_eq_getElem l)).live
theorem HR.fresh {K : PySem.W.Frag} {al B : List Addr} {H : Hp} {h : HH} (x : HR K al B H h) {p : Addr} (q : H p = none) : p ∉ al ∧ p ∉ B := ⟨fun z => x.alive z q, fun z => x.live p z q⟩
theorem ObR.mono {K : PySem.W.Frag} {al B al' : List Addr} {H H' : Hp} {o : Ob} {a : Addr} (x : ObR K al B H o a) (s : Stp al H al' H') (e : H' a = H a) : ObR K al' B H' o a := by
  cases x with
  | lst h l r => exact .lst (e.trans h) l (r.step s)
  | dic h k r => exact .dic (e.trans h) k (r.step s)
  | ins h k r => exact .ins (e.trans h) k (r.step s)
/-- a thing that stays is laid -/
theorem Stp.lay {al : List Addr} {H : Hp} {p : Addr} {o : HO} (n : H p = none) : Stp al H al (upd H p o) :=
  ⟨⟨[], by simp, by simp⟩, fun a u e _ => by rw [upd_ne (ne_of_none e n)]; exact e, fun a q => by
    by_cases z : a = p
    · subst z; rw [upd_same]; simp
    · rw [upd_ne z]; exact q⟩
theorem HR.lay {K : PySem.W.Frag} {al B : List Addr} {H : Hp} {h : HH} (x : HR K al B H h) {p : Addr} {o : HO} (n : H p = none) : HR K al B (upd H p o) h :=
  ⟨x.nd, x.len, fun i a u e1 e2 => (x.ob i a u e1 e2).mono (Stp.lay n) (upd_ne fun z => (x.fresh n).1 (z ▸ List.mem_of_getElem? e1)), fun a ha => (Stp.lay (al := al) n).up a (x.live a ha), x.apart⟩
theorem At.lay {K : PySem.W.Frag} {al B : List Addr} {H : Hp} {h : HH} (x : HR K al B H h) {p : Addr} {o : HO} (n : H p = none) : At al B (upd H p o) p o :=
  ⟨.inl upd_same, (x.fresh n).1, (x.fresh n).2⟩
theorem AtT.lay {K : PySem.W.Frag} {al B : List Addr} {H : Hp} {h : HH} {u : HO} {xs : List V} (x : HR K al B H h) {p : Addr} (n : H p = none) (f : FT u xs) : AtT al B (upd H p u) p xs :=
  ⟨u, ⟨upd_same, (x.fresh n).1, (x.fresh n).2⟩, f⟩
theorem At1.lay {K : PySem.W.Frag} {al B : List Addr} {H : Hp} {h : HH} (x : HR K al B H h) {p : Addr} {o : HO} (n : H p = none) : At1 al B (upd H p o) p o :=
  ⟨upd_same, (x.fresh n).1, (x.fresh n).2⟩
/-- an own object is laid -/
theorem Stp.new {al : List Addr} {H : Hp} {p : Addr} {o : HO} (n : H p = none) : Stp al H (al ++ [p]) (upd H p o) :=
  ⟨⟨[p], rfl, by simpa using n⟩, (Stp.lay n).keep, (Stp.lay (al := al) n).up⟩
theorem HR.new {K : PySem.W.Frag} {al B : List Addr} {H : Hp} {h : HH} (x : HR K al B H h) {p : Addr} {u : HO} {o : Ob} (n : H p = none) (r : ObR K (al ++ [p]) B (upd H p u) o p) : HR K (al ++ [p]) B (upd H p u) (h ++ [o]) := by
  refine ⟨?_, by simp [x.len], fun i a v e1 e2 => ?_, fun a ha => (Stp.lay (al := al) n).up a (x.live a ha), fun a ha q => ?_⟩
  · rw [List.nodup_append]
    refine ⟨x.nd, by simp, fun a ha b hb => ?_⟩
    simp at hb
    subst hb
    exact fun z => (x.fresh n).1 (z ▸ ha)
  · by_cases z : i < al.length
    · rw [List.getElem?_append_left z] at e1
      rw [List.getElem?_append_left (by rw [← x.len]; exact z)] at e2
      exact (x.ob i a v e1 e2).mono (Stp.new n) (upd_ne fun z => (x.fresh n).1 (z ▸ List.mem_of_getElem? e1))
    · have l := (List.getElem?_eq_some_iff.mp e1).1
      have : i = al.length := by simp at l; omega
      subst this
      rw [List.getElem?_concat_length] at e1
      rw [x.len, List.getElem?_concat_length] at e2
      cases e1; cases e2
      exact r
  · rcases List.mem_append.mp q with q | q
    · exact x.apart a ha q
    · simp at q; subst q; exact x.live a ha n
theorem nodupIx {al : List Addr} (nd : al.Nodup) : ∀ {i j : Nat} {a : Addr}, al[i]? = some a → al[j]? = some a → i = j := by
  intro i j a h1 h2
  obtain ⟨p, q⟩ := List.getElem?_eq_some_iff.mp h1
  exact (List.getElem?_inj p nd).mp (h1.trans h2.symm)
/-- an own object is written -/
theorem Stp.put {al : List Addr} {H : Hp} {p : Addr} {o : HO} (n : p ∈ al) : Stp al H al (upd H p o) :=
  ⟨⟨[], by simp, by simp⟩, fun a u e m => by rw [upd_ne (a := p) (b := a) (fun z => m (by rw [z]; exact n))]; exact e, fun a q => by
    by_cases z : a = p
    · subst z; rw [upd_same]; simp
    · rw [upd_ne z]; exact q⟩
theorem HR.put {K : PySem.W.Frag} {al B : List Addr} {H : Hp} {h : HH} (x : HR K al B H h) {n : Nat} {p : Addr} {u : HO} {o : Ob} (e : al[n]? = some p) (r : ObR K al B (upd H p u) o p) : HR K al B (upd H p u) (h.set n o) := by
  have hp : p ∈ al := List.mem_of_getElem? e
  have s : Stp al H al (upd H p u) := Stp.put hp
  refine ⟨x.nd, by simp [x.len], fun i a v e1 e2 => ?_, fun a ha => s.up a (x.live a ha), x.apart⟩
  by_cases z : i = n
  · subst z
    rw [e] at e1; cases e1
    have l : i < h.length := by have := (List.getElem?_eq_some_iff.mp e2).1; simpa using this
    rw [List.getElem?_set_self l] at e2
    cases e2
    exact r
  · rw [List.getElem?_set_ne (fun q => z q.symm)] at e2
    refine (x.ob i a v e1 e2).mono s (upd_ne fun q => ?_)
    subst q
    exact z (nodupIx x.nd e1 e)
/-! ### states -/
structure Sim (K : PySem.W.Frag) (al B : List Addr) (ro : En) (h : HH) (sg : L2.St) (H : Hp) : Prop where
  hr : HR K al B H h
  len : ro.length = sg.length
  env : ∀ (i : Nat) (w : Val), ro[i]? = some (some w) → ∃ v, sg[i]? = some (some v) ∧ Rep K al B H w v
theorem Sim.step {K : PySem.W.Frag} {al al' B : List Addr} {ro : En} {h h' : HH} {sg : L2.St} {H H' : Hp} (x : Sim K al B ro h sg H) (s : Stp al H al' H') (hr : HR K al' B H' h') : Sim K al' B ro h' sg H' :=
  ⟨hr, x.len, fun i w e => by obtain ⟨v, p, q⟩ := x.env i w e; exact ⟨v, p, q.step s⟩⟩
/-- a raised exception -/
def ExR (K : PySem.W.Frag) (al B : List Addr) (H : Hp) (e : Ex) (cls : Value) (d : Option Addr) : Prop :=
  cls = e.cls ∧ (e.fs ≠ [] → ∃ dd gs, d = some dd ∧ H dd = some (.xd gs) ∧ dd ∉ al ∧ dd ∉ B ∧ e.fs.map (·.1) = gs.map (·.1) ∧ Reps K al B H (e.fs.map (·.2)) (gs.map (·.2)))
/-- what must follow an own run -/
def Po {β γ : Type} (K : PySem.W.Frag) (B : List Addr) (rb : List Addr → Hp → β → γ → Prop) (sg : L2.St) (al : List Addr) (H : Hp) (o : Out β) (W : WX) (Q : γ → Hp → Prop) : Prop :=
  match o with
  | .bad => False
  | .ok w h' => ∀ al' H' v, Stp al H al' H' → HR K al' B H' h' → rb al' H' w v → Q v H'
  | .ex e h' => ∀ al' H' cls d, Stp al H al' H' → HR K al' B H' h' → ExR K al' B H' e cls d → W cls d sg H'
section
variable {β γ δ ε : Type} {K : PySem.W.Frag} {B : List Addr} {rb : List Addr → Hp → β → γ → Prop} {rc : List Addr → Hp → δ → ε → Prop} {sg : L2.St} {al al' : List Addr} {H H' : Hp} {o : Out β} {W : WX} {Q Q' : γ → Hp → Prop}
theorem Po.mono (p : Po K B rb sg al H o W Q) (h : ∀ v H', Q v H' → Q' v H') : Po K B rb sg al H o W Q' := by
  cases o with
  | bad => exact p
  | ok w h' => exact fun a b c d e f => h _ _ (p a b c d e f)
  | ex e h' => exact p
theorem Po.step (p : Po K B rb sg al H o W Q) (s : Stp al H al' H') : Po K B rb sg al' H' o W Q := by
  cases o with
  | bad => exact p
  | ok w h' => exact fun a b c d e f => p a b c (s.trans d) e f
  | ex e h' => exact fun a b c d e f => p a b c d (s.trans e) f
theorem Po.bind {f : β → M δ} {R : ε → Hp → Prop} (p : Po K B rc sg al H (obind o f) W R) :
    Po K B rb sg al H o W (fun v H1 => ∃ al1 h1 w, Stp al H al1 H1 ∧ HR K al1 B H1 h1 ∧ rb al1 H1 w v ∧ Po K B rc sg al1 H1 (f w h1) W R) := by
  cases o with
  | bad => exact p
  | ok w h' => exact fun a b c d e f => ⟨a, h', w, d, e, f, Po.step (o := _) p d⟩
  | ex e h' => exact p
theorem Po.now {w : β} {h : HH} {v : γ} (p : Po K B rb sg al H (.ok w h) W Q) (hr : HR K al B H h) (r : rb al H w v) : Q v H := p al H v (Stp.refl al H) hr r
end
/-- an expression's reading -/
def tE (K : PySem.W.Frag) (W : WX) (m : SE) : TE := fun sg H Q => ∃ al B ro h, Sim K al B ro h sg H ∧ Po K B (fun al H => Rep K al B H) sg al H (m ro h) W Q
def tA (K : PySem.W.Frag) (W : WX) (m : En → M (List Val)) : TA := fun sg H Q => ∃ al B ro h, Sim K al B ro h sg H ∧ Po K B (fun al H => Reps K al B H) sg al H (m ro h) W Q
def tT (K : PySem.W.Frag) (W : WX) (m : En → M Bool) : TT := fun sg H Q => ∃ al B ro h, Sim K al B ro h sg H ∧ Po K B (fun _ _ a b => a = b) sg al H (m ro h) W Q
end Z
set_option Elab.async false
set_option maxRecDepth 100000
/-! Z1: expressions. -/
namespace Z
open PySem PySem.Spec PyProof.Rows L2
section
variable {X : Cx} {W : WX} {a b c e : Expr} {m m1 m2 m3 : SE} {pos : Pos}
theorem PE.weak {t t' : TE} (h : PE X e t) (i : ∀ sg H Q, t' sg H Q → t sg H Q) : PE X e t' := ⟨fun pins s sg H Q I q => h.run pins s sg H Q I (i _ _ _ q)⟩
theorem PT.weak {t t' : TT} (h : PT X e t) (i : ∀ sg H Q, t' sg H Q → t sg H Q) : PT X e t' := ⟨fun pins s sg H Q I q => h.run pins s sg H Q I (i _ _ _ q)⟩
theorem PA.weak {es : List Expr} {t t' : TA} (h : PA X es t) (i : ∀ sg H Q, t' sg H Q → t sg H Q) : PA X es t' := ⟨fun po pins s sg H Q I q => h.run po pins s sg H Q I (i _ _ _ q)⟩
/-! ### names, constants -/
def sVar (i : Nat) : SE := fun ro h => match ro[i]? with
  | some (some w) => .ok w h
  | _ => .bad
def sC (w : Val) : SE := fun _ h => .ok w h
theorem oe_var {i : Nat} {x : Str} (hN : X.N[i]? = some x) (hv : Vis X.env.scope x) (hd : (x == ("__debug__" : Str)) = false) (hcd : (x == ("__classdict__" : Str)) = false) : PE X (.Name x pos) (tE X.K W (sVar i)) := by
  refine PE.weak (pe_var hN hv hd hcd) ?_
  rintro sg H Q ⟨al, B, ro, h, S, p⟩
  unfold sVar at p
  split at p
  · rename_i w e1
    obtain ⟨v, e2, r⟩ := S.env _ _ e1
    exact ⟨v, e2, Po.now p S.hr r⟩
  · exact p.elim
theorem oe_c {w : Val} {v : V} (h : PE X e (tC v)) (r : ∀ al B H, Rep X.K al B H w v) : PE X e (tE X.K W (sC w)) := by
  refine PE.weak h ?_
  rintro sg H Q ⟨al, B, ro, h, S, p⟩
  exact Po.now p S.hr (r _ _ _)
theorem oe_int {i : Int} {j : Nat} : PE X (.Constant (.int i) j pos) (tE X.K W (sC (.int i))) := oe_c pe_int fun _ _ _ => .int i
theorem oe_bl {i : Bool} {j : Nat} : PE X (.Constant (.bool i) j pos) (tE X.K W (sC (.bl i))) := oe_c pe_bl fun _ _ _ => .bl i
theorem oe_non {j : Nat} : PE X (.Constant .none j pos) (tE X.K W (sC .non)) := oe_c pe_non fun _ _ _ => .non
theorem oe_str {x : Str} {j : Nat} : PE X (.Constant (.str x) j pos) (tE X.K W (sC (.str x))) := oe_c pe_str fun _ _ _ => .str x
theorem oe_glob {x : Str} {u : Value} {w : Val} {v : V} (hg : Gl X x) (hm : X.mg x = some u) (rv : RelV v u) (r : ∀ al B H, Rep X.K al B H w v) (hd : (x == ("__debug__" : Str)) = false) : PE X (.Name x pos) (tE X.K W (sC w)) := by
  refine PE.weak (pe_glob hg hm rv hd) ?_
  rintro sg H Q ⟨al, B, ro, h, S, p⟩
  exact Po.now p S.hr (r _ _ _)
/-! ### two operands -/
def sBin (f : Val → Val → M Val) (m1 m2 : SE) : SE := fun ro => bind (m1 ro) fun a => bind (m2 ro) fun b => f a b
def Lk2 (K : PySem.W.Frag) (f : Val → Val → M Val) (r : R2) : Prop := ∀ (W : WX) al B sg H h w1 w2 v1 v2 (Q : VK), HR K al B H h → Rep K al B H w1 v1 → Rep K al B H w2 v2 →
  Po K B (fun al H => Rep K al B H) sg al H (f w1 w2 h) W Q → r v1 v2 H Q
theorem tE_bin {K : PySem.W.Frag} {f : Val → Val → M Val} {r : R2} (lk : Lk2 K f r) (sg : L2.St) (H : Hp) (Q : VK) (p : tE K W (sBin f m1 m2) sg H Q) : tOp r (tE K W m1) (tE K W m2) sg H Q := by
  obtain ⟨al, B, ro, h, S, p⟩ := p
  refine ⟨al, B, ro, h, S, Po.mono (Po.bind p) fun v1 H1 ⟨al1, h1, w1, st1, hr1, r1, p1⟩ => ?_⟩
  refine ⟨al1, B, ro, h1, S.step st1 hr1, Po.mono (Po.bind p1) fun v2 H2 ⟨al2, h2, w2, st2, hr2, r2, p2⟩ => ?_⟩
  exact lk W al2 B sg H2 h2 w1 w2 v1 v2 Q hr2 (r1.step st2) r2 p2
theorem oe_op {op : Operator} {f : Val → Val → M Val} {r : R2} (ho : OpR X (binaryOp op) r) (lk : Lk2 X.K f r) (ha : PE X a (tE X.K W m1)) (hb : PE X b (tE X.K W m2)) : PE X (.BinOp a op b pos) (tE X.K W (sBin f m1 m2)) :=
  PE.weak (pe_op ho ha hb) (tE_bin lk)
theorem oe_cmp {op : CmpOp} {f : Val → Val → M Val} {r : R2} (ho : OpR X (compareOp op) r) (lk : Lk2 X.K f r) (hm : behindInMarks op b = false) (ha : PE X a (tE X.K W m1)) (hb : PE X b (tE X.K W m2)) : PE X (.Compare a [op] [b] pos) (tE X.K W (sBin f m1 m2)) :=
  PE.weak (pe_cmpR ho ha hb hm) (tE_bin lk)
theorem oe_ix {f : Val → Val → M Val} {r : R2} (ho : IxR X r) (lk : Lk2 X.K f r) (hs : PlainIx b) (ha : PE X a (tE X.K W m1)) (hb : PE X b (tE X.K W m2)) : PE X (.Subscript a b pos) (tE X.K W (sBin f m1 m2)) :=
  PE.weak (pe_ix ho ha hb hs) (tE_bin lk)
theorem Lk2.or {K : PySem.W.Frag} {f : Val → Val → M Val} {r r' : R2} (h : Lk2 K f r) : Lk2 K f (fun x y H Q => r x y H Q ∨ r' x y H Q) := fun W al B sg H hh w1 w2 v1 v2 Q a1 a2 a3 p => .inl (h W al B sg H hh w1 w2 v1 v2 Q a1 a2 a3 p)
/-! ### one operand -/
def sUn (f : Val → M Val) (m : SE) : SE := fun ro => bind (m ro) f
def Lk1 (K : PySem.W.Frag) (f : Val → M Val) (r : V → Hp → VK → Prop) : Prop := ∀ (W : WX) al B sg H h w v (Q : VK), HR K al B H h → Rep K al B H w v → Po K B (fun al H => Rep K al B H) sg al H (f w h) W Q → r v H Q
theorem tE_un {K : PySem.W.Frag} {f : Val → M Val} {r : V → Hp → VK → Prop} (lk : Lk1 K f r) (sg : L2.St) (H : Hp) (Q : VK) (p : tE K W (sUn f m) sg H Q) : tUn r (tE K W m) sg H Q := by
  obtain ⟨al, B, ro, h, S, p⟩ := p
  refine ⟨al, B, ro, h, S, Po.mono (Po.bind p) fun v1 H1 ⟨al1, h1, w1, st1, hr1, r1, p1⟩ => ?_⟩
  exact lk W al1 B sg H1 h1 w1 v1 Q hr1 r1 p1
theorem oe_un {op : UnaryOp} {f : Val → M Val} {r : V → Hp → VK → Prop} (ho : UnR X (unaryOp op) r) (lk : Lk1 X.K f r) (ha : PE X a (tE X.K W m)) : PE X (.UnaryOp op a pos) (tE X.K W (sUn f m)) := PE.weak (pe_un ho ha) (tE_un lk)
/-! ### argument lists -/
def aNil : En → M (List Val) := fun _ => ret []
def aCons (m : SE) (r : En → M (List Val)) : En → M (List Val) := fun ro => bind (m ro) fun x => bind (r ro) fun xs => ret (x :: xs)
theorem oa_nil : PA X [] (tA X.K W aNil) := by
  refine PA.weak pa_nil ?_
  rintro sg H Q ⟨al, B, ro, h, S, p⟩
  exact Po.now p S.hr .nil
theorem oa_cons {es : List Expr} {r : En → M (List Val)} (ha : PE X e (tE X.K W m)) (hr : PA X es (tA X.K W r)) (hs : starEach (e :: es) X.env = (false, eval e X.env) :: starEach es X.env) : PA X (e :: es) (tA X.K W (aCons m r)) := by
  refine PA.weak (pa_cons ha hr hs) ?_
  rintro sg H Q ⟨al, B, ro, h, S, p⟩
  refine ⟨al, B, ro, h, S, Po.mono (Po.bind p) fun v1 H1 ⟨al1, h1, w1, st1, hr1, r1, p1⟩ => ?_⟩
  refine ⟨al1, B, ro, h1, S.step st1 hr1, Po.mono (Po.bind p1) fun v2 H2 ⟨al2, h2, w2, st2, hr2, r2, p2⟩ => ?_⟩
  exact Po.now p2 hr2 (.cons (r1.step st2) r2)
def sArgs (f : List Val → M Val) (r : En → M (List Val)) : SE := fun ro => bind (r ro) f
def Lks (K : PySem.W.Frag) (f : List Val → M Val) (r : List V → Hp → VK → Prop) : Prop := ∀ (W : WX) al B sg H h ws vs (Q : VK), HR K al B H h → Reps K al B H ws vs → Po K B (fun al H => Rep K al B H) sg al H (f ws h) W Q → r vs H Q
theorem tE_args {K : PySem.W.Frag} {f : List Val → M Val} {ra : En → M (List Val)} {r : List V → Hp → VK → Prop} (lk : Lks K f r) (sg : L2.St) (H : Hp) (Q : VK) (p : tE K W (sArgs f ra) sg H Q) : (tA K W ra) sg H (fun vs H1 => r vs H1 Q) := by
  obtain ⟨al, B, ro, h, S, p⟩ := p
  refine ⟨al, B, ro, h, S, Po.mono (Po.bind p) fun v1 H1 ⟨al1, h1, w1, st1, hr1, r1, p1⟩ => ?_⟩
  exact lk W al1 B sg H1 h1 w1 v1 Q hr1 r1 p1
/-- a built-in by its name -/
theorem oe_callB {x : Str} {id : String} {es : List Expr} {f : List Val → M Val} {ra : En → M (List Val)} {r : List V → Hp → VK → Prop} {p : Pos} (hc : CallR X (.builtin id) r) (lk : Lks X.K f r) (hg : Gl X x) (hm : X.mg x = none) (hv : bootBuiltins x = some (.builtin id))
    (ha : PA X (e :: es) (tA X.K W ra)) (hn : x ≠ "__name__") (hd : (x == ("__debug__" : Str)) = false) (hs : starEach (e :: es) X.env = (false, eval e X.env) :: starEach es X.env) (hpl : (backTo pos (starEach es X.env)).any (·.1) = false) :
    PE X (.Call (.Name x p) (e :: es) [] pos) (tE X.K W (sArgs f ra)) := PE.weak (pe_callB hc hg hm hv ha hn hd hs hpl) (tE_args lk)
theorem oe_callTy {x : Str} {T : String} {es : List Expr} {f : List Val → M Val} {ra : En → M (List Val)} {r : List V → Hp → VK → Prop} {p : Pos} (hc : CallR X (.type T) r) (lk : Lks X.K f r) (hg : Gl X x) (hm : X.mg x = none) (hv : bootBuiltins x = some (.type T))
    (ha : PA X (e :: es) (tA X.K W ra)) (hn : x ≠ "__name__") (hd : (x == ("__debug__" : Str)) = false) (hs : starEach (e :: es) X.env = (false, eval e X.env) :: starEach es X.env) (hpl : (backTo pos (starEach es X.env)).any (·.1) = false) :
    PE X (.Call (.Name x p) (e :: es) [] pos) (tE X.K W (sArgs f ra)) := PE.weak (pe_callTy hc hg hm hv ha hn hd hs hpl) (tE_args lk)
end
end Z
set_option Elab.async false
set_option maxRecDepth 100000
/-! ZK: promises of defs where the guards about a call are known (none). -/
namespace Z
open PySem PySem.Spec PyProof.Rows L2
structure RmG (k : Nat) (A : Around) : Prop extends Room k A where
  gd : A.guards = some []
theorem RmG.mono {j k : Nat} {A : Around} (r : RmG k A) (h : j ≤ k) : RmG j A := ⟨r.toRoom.mono h, r.gd⟩
theorem RmG.deep {k : Nat} {A : Around} (r : RmG (k + 1) A) (env : Env) : RmG k (A.deeper env) := ⟨r.toRoom.deeper env, r.gd⟩
structure FnG (P : Program) (w : World) (K : PySem.W.Frag) (mg : Str → Option Value) (base : Heap) (CX : CXT) (k : Nat) (f : Addr) (fd : FuncData) (ps : List Str) (sp : Sp) : Prop where
  len : ∀ vs H Q E, sp vs H Q E → vs.length = ps.length
  run : ∀ (Ar : Around) (out : List Env) (st : Shared) (H : Hp) (ags : Args) (us : List Value) (vs : List V) (Q : VK) (E : XK), RmG k Ar → Env0 P w K mg base Ar out st H → BindsTo st fd ags (ps.zip us) → Vals vs us → sp vs H Q E →
    codeAny (model P w) Ar (.call (.ref f) ags) (CR CX out P w H st Q E) st
section
variable {P : Program} {w : World} {K : PySem.W.Frag} {mg : Str → Option Value} {base : Heap} {CX : CXT}
theorem FnG.mono {j k : Nat} {f : Addr} {fd : FuncData} {ps : List Str} {sp : Sp} (F : FnG P w K mg base CX j f fd ps sp) (h : j ≤ k) : FnG P w K mg base CX k f fd ps sp :=
  ⟨F.len, fun Ar out st H ags us vs Q E hr => F.run Ar out st H ags us vs Q E (hr.mono h)⟩
theorem fnG_of {k : Nat} {f : Addr} {nm qual : Str} {pms : Arguments} {bd : List Stmt} {sc : Scope} {dV kV doc pm cdv ct oc : Value} {an od : Option Addr} {osl : Array (Option Value)} {N ps : List Str} {sp : Sp}
    (lk : K.lookup f = some ⟨oc, od, .func (PySem.W.fnOf nm qual pms bd sc dV kV doc pm an cdv ct), osl⟩) (hcd : PySem.W.codeIn K cdv qual = true) (S : FnScope N ps sc) (hlen : ∀ vs H Q E, sp vs H Q E → vs.length = ps.length)
    (hbd : ∀ (Ar : Around) (out : List Env) (st : Shared) (H : Hp) (vs : List V) (Q : VK) (E : XK), RmG k (Ar.deeper (envOfC qual sc st.heap.objs.size f cdv)) → sp vs H Q E →
      ∃ t, PSs (cxOf CX P w K mg base N qual sc f cdv Ar out st H E) bd t ∧ t { nx := fun _ H' => Q .non H', rt := Q } (start N vs) H) :
    FnG P w K mg base CX (k + 1) f (PySem.W.fnOf nm qual pms bd sc dV kV doc pm an cdv ct) ps sp := by
  refine ⟨hlen, fun Ar out st H ags us vs Q E rm en bnd rv hsp => ?_⟩
  have ln := hlen _ _ _ _ hsp
  have keep : ∀ b o, base.get? b = some o → st.heap.get? b = some o := fun b o e => (en.bs b o e).1
  have KI : K.In st.heap := en.mod.kin.keeps keep
  have nl : st.heap.NoLimit := en.mod.nolimit.keeps keep
  have kinds : ∀ z ∈ ps.zip us, sc.names.lookup z.1 = some .local ∨ (sc.names.lookup z.1 = some .cell ∧ ((cellsFrom (st.heap.objs.size + 1) sc.names []).lookup z.1).isSome = true) := by
    rintro ⟨n, v⟩ hz
    exact (S.par n (List.of_mem_zip hz).1).imp id fun q => ⟨q, PySem.W.cellsFrom_some _ _ _ (.inl q)⟩
  refine codeAny_call_function rm.toRoom.depth (KI _ _ lk) rfl S.co S.gen rfl (PySem.W.codeRec_of KI hcd) (bnd _ _ _ _ ?_)
  refine wpAny_newFunctionEnv_cells S.kind kinds fun env he s2 x => ?_
  subst he
  refine ⟨nl.keeps x.toInCall.keep, codeAny_func ?_⟩
  obtain ⟨t, h1, h2⟩ := hbd Ar out st H vs Q E (rm.deep _) hsp
  have I0 : Inv (cxOf CX P w K mg base N qual sc f cdv Ar out st H E) [] (start N vs) H s2 := inv_start S rm.toRoom.hd en ln rv x
  refine wpAny_mono (h1.run [] s2 (start N vs) H _ I0 h2) (fun fl s3 hs => ?_) fun _ _ z => z
  cases fl with
  | next =>
    obtain ⟨_, H3, J, q⟩ := hs
    exact ⟨V.non, H3, J.os, J.bare, J.base, J.hok, (rfl : RelV V.non Value.none), q⟩
  | ret u =>
    obtain ⟨v, _, H3, J, r3, q⟩ := hs
    exact ⟨v, H3, J.os, J.bare, J.base, J.hok, r3, q⟩
  | brk => exact hs.elim fun _ z => z.elim fun _ z => z.2.elim
  | cont => exact hs.elim fun _ z => z.elim fun _ z => z.2.elim
/-- the law's call, the guards known -/
theorem law_callG {mb : Str → Option Value} {k : Nat} {fa a : Addr} {fd : FuncData} {x : Str} {sp : Sp} {s1 : Shared} {vs : List Value} {ns : List Int} (KX : K.In s1.heap) (hns : s1.heap.Ns mainGlobals mg) (hbn : s1.heap.Ns builtinsNs mb)
    (hbb : ∀ x : Str, x ≠ "__name__" → mb x = bootBuiltins x) (hlim : s1.heap.NoLimit) (hg : s1.gens = #[]) (ha : s1.heap.get? a = some { cls := .type "list", data := .seq vs.toArray }) (hi : IntsAre vs ns) (hl : ns.length ≤ sizeLine) (rm : RmG k callerA)
    (F : ∀ base : Heap, K.In base → base.Ns mainGlobals mg → FnG P w K mg base CX k fa fd [x] sp) (bind : ∀ (s : Shared) (u : Value), BindsTo s fd ⟨[u], []⟩ [(x, u)])
    (hsp : ∀ H : Hp, SqL K H a (ns.map V.int) → sp [.ref a] H (fun v _ => v = .bl true) fun _ _ _ => False) (hCX : ∀ H e s', CX [] H s1 (fun _ _ _ => False) e s' → False) :
    codeAny (model P w) callerA (.call (.ref fa) ⟨[.ref a], []⟩) (fun r s' => r = .ok (.ret (.bool true)) ∧ OldK s1.heap s'.heap ∧ s'.os = s1.os ∧ AllBare s'.gens) s1 := by
  have rvs := vals_ints hi
  have lenV := hi.length
  have core : ∀ H : Hp, Only H → SqL K H a (ns.map V.int) → HOk P w H s1.heap → (∀ b, H b ≠ none → b = a) → (H a ≠ none → K.lookup a = none) →
      codeAny (model P w) callerA (.call (.ref fa) ⟨[.ref a], []⟩) (fun r s' => r = .ok (.ret (.bool true)) ∧ OldK s1.heap s'.heap ∧ s'.os = s1.os ∧ AllBare s'.gens) s1 := by
    intro H hO hS hok hA hK
    have hidden : ∀ {b : Addr} {o : Obj}, s1.heap.get? b = some o → H b = none → (hidT s1.heap H).get? b = some o := fun e n => hidT_get e n
    have dicts : ∀ {b : Addr} {o : Obj} {es : Array DictEntry} {ep : Nat}, s1.heap.get? b = some o → o.data = .dict es ep → H b = none := by
      intro b o es ep e d
      rcases q : H b with _ | u
      · rfl
      · obtain rfl := hA b (by rw [q]; simp)
        rw [ha] at e
        cases e
        exact absurd (show Data.seq vs.toArray _ = Data.dict es ep from d) (by simp)
    have space : ∀ {b : Addr} {m : Str → Option Value}, s1.heap.Ns b m → (hidT s1.heap H).Ns b m := by
      rintro b m ⟨o, es, ep, e, d, r⟩
      exact ⟨o, es, ep, hidden e (dicts e d), d, r⟩
    have KB : K.In (hidT s1.heap H) := by
      intro b o e
      refine hidden (KX b o e) ?_
      rcases q : H b with _ | u
      · rfl
      · obtain rfl := hA b (by rw [q]; simp)
        have z := hK (by rw [q]; simp)
        rw [z] at e
        cases e
    have md : Mod K mg (hidT s1.heap H) := by
      obtain ⟨mc, h1, h2⟩ := hlim
      exact ⟨KB, space hns, ⟨mb, space hbn, hbb⟩, ⟨mc, space h1, h2⟩⟩
    have en : Env0 P w K mg (hidT s1.heap H) callerA [] s1 H := by
      refine ⟨rfl, md, fun b o e => of_hidT e, Nat.le_of_eq (hidT_size _ _), trivial, fun b hb => ?_, hok, .of_eq hg⟩
      have hb' : b ∈ ([] : List Addr) := hb
      cases hb'
    refine codeAny_mono ((F _ KB (space hns)).run callerA [] s1 H ⟨[.ref a], []⟩ [.ref a] [.ref a] _ _ rm en (bind s1 (.ref a)) (.cons rfl .nil) (hsp H hS)) fun r s2 h => ?_
    match r, h with
    | .error e, h => exact (hCX H e s2 h).elim
    | .ok .next, h => exact False.elim h
    | .ok .brk, h => exact False.elim h
    | .ok .cont, h => exact False.elim h
    | .ok (.ret u), ⟨v, H2, os, bare, un, hok2, rv, (q : v = .bl true)⟩ =>
      subst q
      obtain rfl : u = Value.bool true := rv
      refine ⟨rfl, OldK.of_keep fun b o e => ?_, os, bare⟩
      rcases q : H b with _ | u
      · refine un.keep b o e q (fun z => ?_) (by simp)
        have z' : b ∈ ([] : List Addr) := z
        cases z'
      · rcases hO b with z | ⟨ob, xs, z⟩
        · rw [q] at z; cases z
        · have f1 := (hok b _ z).1
          rw [e] at f1
          cases f1
          exact (hok2 b _ (un.frzs b _ _ z)).1
  rcases hk : K.lookup a with _ | o
  · let ob : Obj := { cls := .type "list", data := .seq vs.toArray }
    let H0 : Hp := fun b => if b = a then some (.frz ob (.lst (ns.map V.int))) else none
    have at0 : H0 a = some (.frz ob (.lst (ns.map V.int))) := if_pos rfl
    have ne0 : ∀ {b}, b ≠ a → H0 b = none := fun z => if_neg z
    refine core H0 (fun b => ?_) (.inl (.inr ⟨ob, at0⟩)) (fun b u z => ?_) (fun b z => ?_) fun _ => hk
    · by_cases c : b = a
      · subst c; exact .inr ⟨ob, _, at0⟩
      · exact .inl (ne0 c)
    · by_cases c : b = a
      · subst c
        rw [at0] at z
        cases z
        exact ⟨ha, by rw [List.length_map]; exact hl, vs, _, rvs, ha⟩
      · rw [ne0 c] at z; cases z
    · exact Classical.byContradiction fun c => z (ne0 c)
  · have e := KX a o hk
    rw [ha] at e
    cases e
    refine core (fun _ => none) (fun _ => .inl rfl) (.inr ⟨_, vs.toArray, _, hk, rfl, rfl, rfl, ?_, ?_⟩) (fun b u z => ?_) (fun b z => absurd rfl z) fun z => absurd rfl z
    · rw [List.size_toArray, lenV]; exact hl
    · rw [List.toList_toArray]; exact rvs
    · have z' : (none : Option HO) = some u := z
      cases z'
end
theorem walk_ofG {l : PySem.W.OpenLaw} {n k : Nat} {q : Program} {loose : List Str} {XP : (Str → Option Value) → Heap → Prop} {YP : World → Heap → Prop} {d : DefRec} {K : Params → PySem.W.Frag} {CX : World → CXT} {sp : World → Sp} {x : Str}
    (hn : l.most = some n) (hn2 : n ≤ sizeLine) (hdf : d.params.defaults = []) (rm : RmG k callerA) (hY : ∀ (w : World) (h : Heap), YP w h → (K w.params).In h)
    (F : ∀ (w : World) (mg : Str → Option Value) (fa : Addr) (h : Heap), (K w.params).In h → h.Ns mainGlobals mg → mg d.name = some (.ref fa) →
      ∃ fd : FuncData, (∀ (s : Shared) (u : Value), BindsTo s fd ⟨[u], []⟩ [(x, u)]) ∧ ∀ base : Heap, (K w.params).In base → base.Ns mainGlobals mg → FnG l.prog w (K w.params) mg base (CX w) k fa fd [x] (sp w))
    (hsp : ∀ (w : World) (H : Hp) (a : Addr) (ns : List Int), ns.length ≤ n → (∀ z ∈ ns, Builtin.Int.intBits z ≤ 1048576) → SqL (K w.params) H a (ns.map V.int) → sp w [.ref a] H (fun v _ => v = .bl true) fun _ _ _ => False)
    (hCX : ∀ (w : World) (H : Hp) (s : Shared) (e : Value) (s' : Shared), CX w [] H s (fun _ _ _ => False) e s' → False) : PySem.W.WalkO q loose XP YP l.row.toRowW d [] (fun f vs => PySem.call f vs) := by
  refine Att.attach_callB hn hdf fun w s0 s1 mg mb fa o pm cd doc a vs ns G Y ho hd hcd hmg hobj hints hlen hbits hg => ?_
  have KX := hY w _ Y
  obtain ⟨fd, hb, hF⟩ := F w mg fa _ KX G.T.g hmg
  exact law_callG KX G.T.g G.T.b G.T.builtins G.T.nolimit hg hobj hints (Nat.le_trans hlen hn2) rm hF hb (fun H hS => hsp w H a ns hlen hbits hS) fun H e s' => hCX w H s1 e s'
section
variable {P : Program} {w : World} {K : PySem.W.Frag} {mg : Str → Option Value} {base : Heap}
theorem funG {x qual : Str} {st : Stmt} {f : Addr} {fd : FuncData} {N ps : List Str} {k : Nat} {sp : Sp} (F : Fun K x qual st f fd) (S : FnScope N ps (defScope st)) (hlen : ∀ vs H Q E, sp vs H Q E → vs.length = ps.length)
    (hbd : ∀ (cdv : Value) (Ar : Around) (out : List Env) (s : Shared) (H : Hp) (vs : List V) (Q : VK) (E : XK), RmG k (Ar.deeper (envOfC qual (defScope st) s.heap.objs.size f cdv)) → sp vs H Q E →
      ∃ t, PSs (cxOf (L2.CX P w) P w K mg base N qual (defScope st) f cdv Ar out s H E) (defBody st) t ∧ t { nx := fun _ H' => Q .non H', rt := Q } (start N vs) H) : FnG P w K mg base (L2.CX P w) (k + 1) f fd ps sp := by
  obtain ⟨oc, od, kV, doc, pm, an, cdv, ct, osl, rfl, lk, hcd⟩ := F.ex
  exact fnG_of lk hcd S hlen fun Ar out s H vs Q E rm h => hbd cdv Ar out s H vs Q E rm h
theorem funG0 {x qual : Str} {st : Stmt} {f : Addr} {fd : FuncData} {N ps : List Str} {k : Nat} {sp : Sp} (F : Fun K x qual st f fd) (S : FnScope N ps (defScope st)) (hlen : ∀ vs H Q E, sp vs H Q E → vs.length = ps.length)
    (hbd : ∀ (cdv : Value) (Ar : Around) (out : List Env) (s : Shared) (H : Hp) (vs : List V) (Q : VK) (E : XK), RmG k (Ar.deeper (envOfC qual (defScope st) s.heap.objs.size f cdv)) → sp vs H Q E →
      ∃ t, PSs (cxOf CX0 P w K mg base N qual (defScope st) f cdv Ar out s H E).nox (defBody st) t ∧ t { nx := fun _ H' => Q .non H', rt := Q } (start N vs) H) : FnG P w K mg base CX0 (k + 1) f fd ps sp := by
  obtain ⟨oc, od, kV, doc, pm, an, cdv, ct, osl, rfl, lk, hcd⟩ := F.ex
  refine fnG_of lk hcd S hlen fun Ar out s H vs Q E rm h => ?_
  obtain ⟨t, h1, h2⟩ := hbd cdv Ar out s H vs Q E rm h
  exact ⟨t, h1.nox, h2⟩
theorem funDG {x qual : Str} {pms : Arguments} {bd : List Stmt} {sc : Scope} {dvs : List V} {kws : List (Str × V)} {f : Addr} {fd : FuncData} {N ps : List Str} {k : Nat} {sp : Sp} (F : FunD K x qual pms bd sc dvs kws f fd) (S : FnScope N ps sc) (hlen : ∀ vs H Q E, sp vs H Q E → vs.length = ps.length)
    (hbd : ∀ (cdv : Value) (Ar : Around) (out : List Env) (s : Shared) (H : Hp) (vs : List V) (Q : VK) (E : XK), RmG k (Ar.deeper (envOfC qual sc s.heap.objs.size f cdv)) → sp vs H Q E →
      ∃ t, PSs (cxOf (L2.CX P w) P w K mg base N qual sc f cdv Ar out s H E) bd t ∧ t { nx := fun _ H' => Q .non H', rt := Q } (start N vs) H) : FnG P w K mg base (L2.CX P w) (k + 1) f fd ps sp := by
  obtain ⟨oc, od, dV, kV, doc, pm, an, cdv, ct, osl, rfl, lk, hcd, _, _⟩ := F.ex
  exact fnG_of lk hcd S hlen fun Ar out s H vs Q E rm h => hbd cdv Ar out s H vs Q E rm h
end
end Z
set_option Elab.async false
set_option maxRecDepth 100000
/-! Z2: calls of the program's own defs, statements, bodies. -/
namespace Z
open PySem PySem.Spec PyProof.Rows L2
/-! ### own defs -/
def spF (K : PySem.W.Frag) (n : Nat) (F : List Val → M Val) : Sp := fun vs H Q E => ∃ al B h ws, HR K al B H h ∧ Reps K al B H ws vs ∧ ws.length = n ∧ Po K B (fun al H => Rep K al B H) [] al H (F ws h) (fun cls d _ H' => E cls d H') Q
theorem Po.wish {β γ : Type} {K : PySem.W.Frag} {B : List Addr} {rb : List Addr → Hp → β → γ → Prop} {sg sg' : L2.St} {al : List Addr} {H : Hp} {o : Out β} {W W' : WX} {Q : γ → Hp → Prop} (p : Po K B rb sg al H o W Q) (h : ∀ cls d H', W cls d sg H' → W' cls d sg' H') : Po K B rb sg' al H o W' Q := by
  cases o with
  | bad => exact p
  | ok w h' => exact p
  | ex e h' => exact fun a b c d e f g => h _ _ _ (p a b c d e f g)
/-- own values in the parameters' order -/
structure KBz (K : PySem.W.Frag) (fd : FuncData) (ps : List Str) (n : Nat) (ks : List Str) (gW : List Val → List Val → List Val) : Prop where
  ex : ∃ g gV, KBn K fd ps n ks g gV ∧ ∀ al B H ws vs zs us, Reps K al B H ws vs → Reps K al B H zs us → Reps K al B H (gW ws zs) (gV vs us)
def sCall (F : List Val → M Val) (n m np : Nat) (gW : List Val → List Val → List Val) (ra rk : En → M (List Val)) : SE := fun ro => bind (ra ro) fun ws => bind (rk ro) fun zs => if ws.length = n ∧ zs.length = m ∧ (gW ws zs).length = np then F (gW ws zs) else fail
section
variable {X : Cx} {W : WX} {k n : Nat} {f : Addr} {fd : FuncData} {ps ks : List Str} {F : List Val → M Val} {gW : List Val → List Val → List Val} {ra rk : En → M (List Val)} {x : Str} {p pos : Pos} {e : Expr} {es : List Expr} {kws : List Keyword}
/-- the keywords' values -/
theorem PK.weak {t t' : TA} (h : PK X kws t) (i : ∀ sg H Q, t' sg H Q → t sg H Q) : PK X kws t' := ⟨fun po pins s sg H Q I q => h.run po pins s sg H Q I (i _ _ _ q)⟩
theorem ok_nil : PK X [] (tA X.K W aNil) := by
  refine PK.weak pk_nil ?_
  rintro sg H Q ⟨al, B, ro, h, S, p⟩
  exact Po.now p S.hr .nil
theorem ok_cons {m : SE} {nm : Option Str} {kpos : Pos} (ha : PE X e (tE X.K W m)) (hr : PK X kws (tA X.K W rk)) : PK X (⟨nm, e, kpos⟩ :: kws) (tA X.K W (aCons m rk)) := by
  refine PK.weak (pk_cons ha hr) ?_
  rintro sg H Q ⟨al, B, ro, h, S, p⟩
  refine ⟨al, B, ro, h, S, Po.mono (Po.bind p) fun v1 H1 ⟨al1, h1, w1, st1, hr1, r1, p1⟩ => ?_⟩
  refine ⟨al1, B, ro, h1, S.step st1 hr1, Po.mono (Po.bind p1) fun v2 H2 ⟨al2, h2, w2, st2, hr2, r2, p2⟩ => ?_⟩
  exact Po.now p2 hr2 (.cons (r1.step st2) r2)
theorem run_call {pins : List (Addr × Obj)} {sg : L2.St} {H : Hp} {s : Shared} {Q : VK} {us ws : List Value} {vs zs : List V} {g : List Value → List Value → List Value} {gV : List V → List V → List V} {sp : Sp} {E : XK}
    (G : FnG X.prog X.w X.K X.mg X.base (L2.CX X.prog X.w) k f fd ps sp) (hr : RmG k X.A) (hb : KBn X.K fd ps n ks g gV) (tk : Takes X W) (hE : ∀ cls d H', E cls d H' → W cls d sg H')
    (I : Inv X pins sg H s) (r : Vals vs us) (rz : Vals zs ws) (l1 : vs.length = n) (l2 : zs.length = ks.length) (h : sp (gV vs zs) H Q E) : wpAny (model X.prog X.w) X.A (call (.ref f) us (ks.zip ws)) (EP X pins sg Q) X.xe s := by
  have r2 := hb.rel r rz
  refine wpAny_call (codeAny_mono (G.run X.A X.stack s H ⟨us, ks.zip ws⟩ (g us ws) (gV vs zs) Q E hr I.env0 (hb.to s us ws I.kIn (r.length.symm.trans l1) (rz.length.symm.trans l2)) r2 h) fun r s' hq => ?_)
  cases r with
  | error e => exact tk _ _ (XE.of_call I hE hq)
  | ok fl =>
    cases fl with
    | ret u => exact I.after hq
    | next => exact False.elim hq
    | brk => exact False.elim hq
    | cont => exact False.elim hq
/-- f(e, .., k = v, ..) -/
theorem oe_call {nk np : Nat} (G : FnG X.prog X.w X.K X.mg X.base (L2.CX X.prog X.w) k f fd ps (spF X.K ps.length F)) (hr : RmG k X.A) (hg : Gl X x) (hm : X.mg x = some (.ref f)) (hk : PySem.W.keepIn X.K (.ref f) = true) (hb : KBz X.K fd ps n ks gW) (tk : Takes X W)
    (ha : PA X (e :: es) (tA X.K W ra)) (hkw : PK X kws (tA X.K W rk)) (h1 : ks.length = nk) (h2 : ps.length = np) (hall : (backToKw pos (keywordEach kws X.env)).all (·.1.isSome) = true) (hks : (backToKw pos (keywordEach kws X.env)).filterMap (·.1) = ks)
    (hdb : (x == ("__debug__" : Str)) = false) (he : starEach (e :: es) X.env = (false, eval e X.env) :: starEach es X.env)
    (hpl : ((backTo pos (starEach (e :: es) X.env)).any (·.1) || (backToKw pos (keywordEach kws X.env)).any (·.1.isNone)) = false) :
    PE X (.Call (.Name x p) (e :: es) kws pos) (tE X.K W (sCall F n nk np gW ra rk)) := by
  subst h1 h2
  refine ⟨fun pins s sg H Q I h => ?_⟩
  obtain ⟨al, B, ro, h, S, q⟩ := h
  obtain ⟨g, gV, hb, hrel⟩ := hb.ex
  refine wpAny_Call_Name_kw (ld_glob I hg hm ?_ hdb)
  refine PySem.W.callWith_KW (h₀ := X.base) I.ok.mod.kin hk hall (thn (ha.run pos pins s sg H _ I ⟨al, B, ro, h, S, Po.mono (Po.bind q) fun vs H1 z => z⟩) fun us s1 ⟨vs, H1, I1, r, al1, h1, w1, st1, hr1, r1, p1⟩ => ?_) hpl he
  refine thn (hkw.run pos pins s1 sg H1 _ I1 ⟨al1, B, ro, h1, S.step st1 hr1, Po.mono (Po.bind p1) fun vs H1 z => z⟩) fun ws s2 ⟨zs, H2, I2, rz, al2, h2, w2, st2, hr2, r2, p2⟩ => ⟨I2.kIn, ?_⟩
  have r1' := r1.step st2
  rw [hks]
  by_cases c : w1.length = n ∧ w2.length = ks.length ∧ (gW w1 w2).length = ps.length
  · rw [if_pos c] at p2
    refine run_call (W := W) (E := fun cls d H' => W cls d sg H') G hr hb tk (fun _ _ _ z => z) I2 r rz (r1.length.symm.trans c.1) (r2.length.symm.trans c.2.1) ?_
    exact ⟨al2, B, h2, gW w1 w2, hr2, hrel _ _ _ _ _ _ _ r1' r2, c.2.2, Po.wish p2 fun _ _ _ z => z⟩
  · rw [if_neg c] at p2
    exact p2.elim
/-- f() -/
theorem oe_call0 {np : Nat} (G : FnG X.prog X.w X.K X.mg X.base (L2.CX X.prog X.w) k f fd ps (spF X.K ps.length F)) (hr : RmG k X.A) (hg : Gl X x) (hm : X.mg x = some (.ref f)) (hk : PySem.W.keepIn X.K (.ref f) = true) (hb : KBz X.K fd ps 0 [] gW) (tk : Takes X W) (h2 : ps.length = np)
    (hdb : (x == ("__debug__" : Str)) = false) : PE X (.Call (.Name x p) [] [] pos) (tE X.K W (sCall F 0 0 np gW aNil aNil)) := by
  subst h2
  refine ⟨fun pins s sg H Q I h => ?_⟩
  obtain ⟨al, B, ro, h, S, q⟩ := h
  obtain ⟨g, gV, hb, hrel⟩ := hb.ex
  refine wpAny_Call_Name_kw (ld_glob I hg hm ?_ hdb)
  refine PySem.W.callWith_K0 I.kIn hk ?_
  have q : Po X.K B (fun al H => Rep X.K al B H) sg al H (if (0 = 0 ∧ 0 = 0 ∧ (gW [] []).length = ps.length) then F (gW [] []) h else .bad) W Q := by
    have e : sCall F 0 0 ps.length gW aNil aNil ro h = if (0 = 0 ∧ 0 = 0 ∧ (gW [] []).length = ps.length) then F (gW [] []) h else .bad := by
      show (if ([] : List Val).length = 0 ∧ ([] : List Val).length = 0 ∧ (gW [] []).length = ps.length then F (gW [] []) else fail) h = _
      split <;> simp_all [fail]
    rw [← e]; exact q
  by_cases c : (gW [] []).length = ps.length
  · rw [if_pos ⟨rfl, rfl, c⟩] at q
    exact run_call (W := W) (us := []) (ws := []) (ks := []) (E := fun cls d H' => W cls d sg H') G hr hb tk (fun _ _ _ z => z) I .nil .nil rfl rfl ⟨al, B, h, gW [] [], S.hr, hrel _ _ _ _ _ _ _ .nil .nil, c, Po.wish q fun _ _ _ z => z⟩
  · rw [if_neg (fun z => c z.2.2)] at q
    exact q.elim
end
/-! ### statements -/
inductive Fl where
  | nx | brk | ct | ret (w : Val) | ex (e : Ex)
inductive SO where
  | bad
  | go (f : Fl) (ro : En) (h : HH)
abbrev SS := En → HH → SO
def Ps (K : PySem.W.Frag) (B : List Addr) (al : List Addr) (H : Hp) (o : SO) (W : WX) (D : Ends) : Prop :=
  match o with
  | .bad => False
  | .go f ro' h' => ∀ al' sg' H', Stp al H al' H' → Sim K al' B ro' h' sg' H' → match f with
    | .nx => D.nx sg' H'
    | .brk => D.bk sg' H'
    | .ct => D.ct sg' H'
    | .ret w => ∀ v, Rep K al' B H' w v → D.rt v H'
    | .ex e => ∀ cls d, ExR K al' B H' e cls d → W cls d sg' H'
def tS (K : PySem.W.Frag) (W : WX) (m : SS) : TS := fun D sg H => ∃ al B ro h, Sim K al B ro h sg H ∧ Ps K B al H (m ro h) W D
theorem Ps.step {K : PySem.W.Frag} {B al al' : List Addr} {H H' : Hp} {o : SO} {W : WX} {D : Ends} (p : Ps K B al H o W D) (s : Stp al H al' H') : Ps K B al' H' o W D := by
  cases o with
  | bad => exact p
  | go f ro h => exact fun a b c d e => p a b c (s.trans d) e
def sbind {β : Type} (o : Out β) (ro : En) (k : β → HH → SO) : SO := match o with
  | .bad => .bad
  | .ok a h => k a h
  | .ex e h => .go (.ex e) ro h
theorem Ps.bind {β γ : Type} {K : PySem.W.Frag} {B al : List Addr} {rb : List Addr → Hp → β → γ → Prop} {sg : L2.St} {H : Hp} {o : Out β} {W : WX} {D : Ends} {ro : En} {h : HH} {k : β → HH → SO} (S : Sim K al B ro h sg H) (p : Ps K B al H (sbind o ro k) W D) :
    Po K B rb sg al H o W (fun v H1 => ∃ al1 h1 w, Stp al H al1 H1 ∧ HR K al1 B H1 h1 ∧ rb al1 H1 w v ∧ Ps K B al1 H1 (k w h1) W D) := by
  cases o with
  | bad => exact p
  | ok w h' => exact fun a b c d e f => ⟨a, h', w, d, e, f, Ps.step (o := k w h') p d⟩
  | ex e h' => exact fun a b c d st hr er => p a sg b st (S.step st hr) c d er
theorem Ps.ends {K : PySem.W.Frag} {B al : List Addr} {H : Hp} {o : SO} {W : WX} {D D' : Ends} (p : Ps K B al H o W D) (h1 : ∀ s h, D.nx s h → D'.nx s h) (h2 : ∀ s h, D.bk s h → D'.bk s h) (h3 : ∀ s h, D.ct s h → D'.ct s h) (h4 : ∀ s h, D.rt s h → D'.rt s h) : Ps K B al H o W D' := by
  cases o with
  | bad => exact p
  | go f ro h =>
    intro a b c d e
    have q := p a b c d e
    cases f with
    | nx => exact h1 _ _ q
    | brk => exact h2 _ _ q
    | ct => exact h3 _ _ q
    | ret w => exact fun v r => h4 _ _ (q v r)
    | ex e => exact q
def nNext : SS := fun ro h => .go .nx ro h
def nSeq (m1 m2 : SS) : SS := fun ro h => match m1 ro h with
  | .go .nx ro1 h1 => m2 ro1 h1
  | o => o
def nRet (m : SE) : SS := fun ro h => sbind (m ro h) ro fun w h1 => .go (.ret w) ro h1
def nRetN : SS := fun ro h => .go (.ret .non) ro h
def nExpr (m : SE) : SS := fun ro h => sbind (m ro h) ro fun _ h1 => .go .nx ro h1
def nSet (i : Nat) (m : SE) : SS := fun ro h => sbind (m ro h) ro fun w h1 => .go .nx (ro.set i (some w)) h1
def nIf (c : En → M Bool) (m1 m2 : SS) : SS := fun ro h => sbind (c ro h) ro fun b h1 => if b = true then m1 ro h1 else m2 ro h1
def nBrk : SS := fun ro h => .go .brk ro h
def nCt : SS := fun ro h => .go .ct ro h
section
variable {X : Cx} {W : WX} {st : Stmt} {rest : List Stmt} {e : Expr} {m : SE} {m1 m2 : SS} {pos : Pos}
theorem PS.weak {t t' : TS} (h : PS X st t) (i : ∀ D sg H, t' D sg H → t D sg H) : PS X st t' := ⟨fun pins s sg H D I q => h.run pins s sg H D I (i _ _ _ q)⟩
theorem PSs.weak {t t' : TS} (h : PSs X rest t) (i : ∀ D sg H, t' D sg H → t D sg H) : PSs X rest t' := ⟨fun pins s sg H D I q => h.run pins s sg H D I (i _ _ _ q)⟩
theorem os_nil : PSs X [] (tS X.K W nNext) := by
  refine PSs.weak pss_nil ?_
  rintro D sg H ⟨al, B, ro, h, S, p⟩
  exact p al sg H (Stp.refl _ _) S
theorem tS_seq {K : PySem.W.Frag} (D : Ends) (sg : L2.St) (H : Hp) (p : tS K W (nSeq m1 m2) D sg H) : tSeq (tS K W m1) (tS K W m2) D sg H := by
  obtain ⟨al, B, ro, h, S, p⟩ := p
  refine ⟨al, B, ro, h, S, ?_⟩
  unfold nSeq at p
  cases e : m1 ro h with
  | bad => rw [e] at p; exact p
  | go f ro1 h1 =>
    rw [e] at p
    intro a b c d s
    cases f with
    | nx => exact ⟨a, B, ro1, h1, s, Ps.step (o := m2 ro1 h1) p d⟩
    | brk => exact p a b c d s
    | ct => exact p a b c d s
    | ret w => exact p a b c d s
    | ex e => exact p a b c d s
theorem os_cons (h1 : PS X st (tS X.K W m1)) (h2 : PSs X rest (tS X.K W m2)) : PSs X (st :: rest) (tS X.K W (nSeq m1 m2)) := PSs.weak (pss_cons h1 h2) tS_seq
theorem os_ret (he : PE X e (tE X.K W m)) : PS X (.Return (some e) pos) (tS X.K W (nRet m)) := by
  refine PS.weak (ps_ret he) ?_
  rintro D sg H ⟨al, B, ro, h, S, p⟩
  refine ⟨al, B, ro, h, S, Po.mono (Ps.bind S p) fun v H1 ⟨al1, h1, w, st, hr, r, q⟩ => ?_⟩
  exact q al1 sg H1 (Stp.refl _ _) (S.step st hr) v r
theorem os_retN : PS X (.Return none pos) (tS X.K W nRetN) := by
  refine PS.weak ps_retN ?_
  rintro D sg H ⟨al, B, ro, h, S, p⟩
  exact p al sg H (Stp.refl _ _) S _ .non
theorem os_expr (he : PE X e (tE X.K W m)) (hs : swapsWith e none pos.line X.env = pure false) : PS X (.Expr e pos) (tS X.K W (nExpr m)) := by
  refine PS.weak (ps_expr he hs) ?_
  rintro D sg H ⟨al, B, ro, h, S, p⟩
  refine ⟨al, B, ro, h, S, Po.mono (Ps.bind S p) fun v H1 ⟨al1, h1, w, st, hr, r, q⟩ => ?_⟩
  exact q al1 sg H1 (Stp.refl _ _) (S.step st hr)
theorem os_pass : PS X (.Pass pos) (tS X.K W nNext) := by
  refine PS.weak ps_pass ?_
  rintro D sg H ⟨al, B, ro, h, S, p⟩
  exact p al sg H (Stp.refl _ _) S
theorem os_break : PS X (.Break pos) (tS X.K W nBrk) := by
  refine PS.weak ps_break ?_
  rintro D sg H ⟨al, B, ro, h, S, p⟩
  exact p al sg H (Stp.refl _ _) S
theorem os_continue : PS X (.Continue pos) (tS X.K W nCt) := by
  refine PS.weak ps_continue ?_
  rintro D sg H ⟨al, B, ro, h, S, p⟩
  exact p al sg H (Stp.refl _ _) S
theorem os_if {c : Expr} {mc : En → M Bool} {p q : List Stmt} (hc : PT X c (tT X.K W mc)) (hp : PSs X p (tS X.K W m1)) (hq : PSs X q (tS X.K W m2)) : PS X (.If c p q pos) (tS X.K W (nIf mc m1 m2)) := by
  refine PS.weak (ps_if hc hp hq) ?_
  rintro D sg H ⟨al, B, ro, h, S, p⟩
  refine ⟨al, B, ro, h, S, Po.mono (Ps.bind S p) fun v H1 ⟨al1, h1, w, st, hr, r, q⟩ => ?_⟩
  subst r
  by_cases k : w = true
  · rw [if_pos k] at q ⊢; exact ⟨al1, B, ro, h1, S.step st hr, q⟩
  · rw [if_neg k] at q ⊢; exact ⟨al1, B, ro, h1, S.step st hr, q⟩
theorem Sim.set {K : PySem.W.Frag} {al B : List Addr} {ro : En} {h : HH} {sg : L2.St} {H : Hp} (S : Sim K al B ro h sg H) (i : Nat) {w : Val} {v : V} (r : Rep K al B H w v) : Sim K al B (ro.set i (some w)) h (sg.set i (some v)) H := by
  refine ⟨S.hr, by simp [S.len], fun j u e => ?_⟩
  by_cases z : i = j
  · subst z
    have l : i < ro.length := by have := (List.getElem?_eq_some_iff.mp e).1; simpa using this
    rw [List.getElem?_set_self l] at e
    cases e
    exact ⟨v, by rw [List.getElem?_set_self (by rw [← S.len]; exact l)], r⟩
  · rw [List.getElem?_set_ne z] at e
    obtain ⟨v', p, q⟩ := S.env j u e
    exact ⟨v', by rw [List.getElem?_set_ne z]; exact p, q⟩
theorem os_set {i : Nat} {x : Str} {pos' : Pos} (hN : X.N.Nodup) (hi : X.N[i]? = some x) (hx : Loc X.env.scope x) (he : PE X e (tE X.K W m)) (hs : swapsWith e (some (.Name x pos')) pos.line X.env = pure false) (hf : X.fn x = true ∨ X.env.scope.names.lookup x = some .local) :
    PS X (.Assign [.Name x pos'] e pos) (tS X.K W (nSet i m)) := by
  refine PS.weak (ps_set hN hi hx he hs hf) ?_
  rintro D sg H ⟨al, B, ro, h, S, p⟩
  refine ⟨al, B, ro, h, S, Po.mono (Ps.bind S p) fun v H1 ⟨al1, h1, w, st, hr, r, q⟩ => ?_⟩
  exact q al1 _ H1 (Stp.refl _ _) ((S.step st hr).set i r)
end
/-! ### tests -/
def Out.val {β γ : Type} (o : Out β) (f : β → M γ) : Out γ := obind o f
section
variable {X : Cx} {W : WX} {a b : Expr} {m : SE} {t u : En → M Bool} {rest : List Expr} {pos : Pos}
def truthy (w : Val) : M Bool := fun h => match w with
  | .non => .ok false h
  | .bl b => .ok b h
  | .int i => .ok (i != 0) h
  | .str x => if x.length ≤ sizeLine then .ok ((x.length : Int) != 0) h else .bad
  | .tup xs => .ok (!xs.isEmpty) h
  | .lst xs => .ok (!xs.isEmpty) h
  | .ref n => match h[n]? with
    | some (.lst xs) => .ok (!xs.isEmpty) h
    | some (.dic xs) => .ok (!xs.isEmpty) h
    | _ => .bad
  | .scr ns => .ok (!ns.isEmpty) h
  | _ => .bad
def cV (m : SE) : En → M Bool := fun ro => bind (m ro) truthy
def cAnd (t u : En → M Bool) : En → M Bool := fun ro => bind (t ro) fun b => if b = true then u ro else ret false
def cOr (t u : En → M Bool) : En → M Bool := fun ro => bind (t ro) fun b => if b = true then ret true else u ro
def cNot (t : En → M Bool) : En → M Bool := fun ro => bind (t ro) fun b => ret (!b)
theorem Reps.isEmpty {K : PySem.W.Frag} {al B : List Addr} {H : Hp} {xs : List Val} {vs : List V} (r : Reps K al B H xs vs) : (!xs.isEmpty) = !vs.isEmpty := by cases r <;> rfl
theorem lk_truthy {K : PySem.W.Frag} {al B : List Addr} {sg : L2.St} {H : Hp} {h : HH} {w : Val} {v : V} {Q : Bool → Hp → Prop} (hr : HR K al B H h) (r : Rep K al B H w v) (p : Po K B (fun _ _ a b => a = b) sg al H (truthy w h) W Q) : ∃ k, TruV K v H k ∧ Q k H := by
  cases r with
  | non => exact ⟨false, rfl, Po.now p hr rfl⟩
  | bl b => exact ⟨b, rfl, Po.now p hr rfl⟩
  | int i => exact ⟨i != 0, rfl, Po.now p hr rfl⟩
  | str x =>
    unfold truthy at p
    dsimp only at p
    split at p
    · rename_i z; exact ⟨_, ⟨z, rfl⟩, Po.now p hr rfl⟩
    · exact p.elim
  | tup a _ s => exact ⟨_, .inr (.inl ⟨_, sqT_of a, s.isEmpty⟩), Po.now p hr rfl⟩
  | lst a _ s => exact ⟨_, .inl ⟨_, SqL.of a.1, s.isEmpty⟩, Po.now p hr rfl⟩
  | ref e =>
    rename_i n a
    unfold truthy at p
    dsimp only at p
    split at p
    · rename_i xs e2
      cases hr.ob _ _ _ e e2 with
      | lst q _ s => exact ⟨_, .inl ⟨_, SqL.of q, s.isEmpty⟩, Po.now p hr rfl⟩
    · rename_i xs e2
      cases hr.ob _ _ _ e e2 with
      | dic q ks s => exact ⟨_, .inr (.inr ⟨_, q, by have := s.isEmpty; cases xs <;> cases ‹List (Key × V)› <;> simp_all⟩), Po.now p hr rfl⟩
    · exact p.elim
  | glo => exact p.elim
  | ty => exact p.elim
  | scr a _ => exact ⟨_, .inl ⟨_, sqL_of a, by simp⟩, Po.now p hr rfl⟩
theorem ot_val (ha : PE X a (tE X.K W m)) (he : ∀ whole, isTrue a X.env whole = (do let v ← whole; standAt a.pos; holding [v] (PySem.truthy v))) : PT X a (tT X.K W (cV m)) := by
  refine PT.weak (pt_truth ha he) ?_
  rintro sg H Q ⟨al, B, ro, h, S, p⟩
  refine ⟨al, B, ro, h, S, Po.mono (Po.bind p) fun v1 H1 ⟨al1, h1, w1, st1, hr1, r1, p1⟩ => ?_⟩
  exact lk_truthy hr1 r1 p1
theorem PW.weak {t t' : TT} {e : Expr} (h : PW X e t) (i : ∀ sg H Q, t' sg H Q → t sg H Q) : PW X e t' := ⟨fun wh pins s sg H Q I q => h.run wh pins s sg H Q I (i _ _ _ q)⟩
theorem ow_and1 (ha : PT X a (tT X.K W t)) : PW X (.BoolOp .And [a] pos) (tT X.K W t) := pw_and1 ha
theorem ow_or1 (ha : PT X a (tT X.K W t)) : PW X (.BoolOp .Or [a] pos) (tT X.K W t) := pw_or1 ha
theorem ow_and (ha : PT X a (tT X.K W t)) (hb : PW X (.BoolOp .And (b :: rest) pos) (tT X.K W u)) : PW X (.BoolOp .And (a :: b :: rest) pos) (tT X.K W (cAnd t u)) := by
  refine PW.weak (pw_and ha hb) ?_
  rintro sg H Q ⟨al, B, ro, h, S, p⟩
  refine ⟨al, B, ro, h, S, Po.mono (Po.bind p) fun v1 H1 ⟨al1, h1, w1, st1, hr1, r1, p1⟩ => ?_⟩
  subst r1
  cases w1 with
  | true => exact ⟨al1, B, ro, h1, S.step st1 hr1, p1⟩
  | false => exact Po.now p1 hr1 rfl
theorem ow_or (ha : PT X a (tT X.K W t)) (hb : PW X (.BoolOp .Or (b :: rest) pos) (tT X.K W u)) : PW X (.BoolOp .Or (a :: b :: rest) pos) (tT X.K W (cOr t u)) := by
  refine PW.weak (pw_or ha hb) ?_
  rintro sg H Q ⟨al, B, ro, h, S, p⟩
  refine ⟨al, B, ro, h, S, Po.mono (Po.bind p) fun v1 H1 ⟨al1, h1, w1, st1, hr1, r1, p1⟩ => ?_⟩
  subst r1
  cases w1 with
  | false => exact ⟨al1, B, ro, h1, S.step st1 hr1, p1⟩
  | true => exact Po.now p1 hr1 rfl
theorem ot_not (ha : PT X a (tT X.K W t)) : PT X (.UnaryOp .Not a pos) (tT X.K W (cNot t)) := by
  refine PT.weak (pt_not ha) ?_
  rintro sg H Q ⟨al, B, ro, h, S, p⟩
  refine ⟨al, B, ro, h, S, Po.mono (Po.bind p) fun v1 H1 ⟨al1, h1, w1, st1, hr1, r1, p1⟩ => ?_⟩
  subst r1
  exact Po.now p1 hr1 rfl
/-- a comparison as a test -/
def cBin (f : Val → Val → M Val) (m1 m2 : SE) : En → M Bool := fun ro => bind (sBin f m1 m2 ro) fun w => match w with
  | .bl b => ret b
  | _ => fail
theorem ot_cmp {op : CmpOp} {f : Val → Val → M Val} {m1 m2 : SE} {r : R2} (ho : OpR X (compareOp op) r) (lk : Lk2 X.K f r) (hm : behindInMarks op b = false) (ha : PE X a (tE X.K W m1)) (hb : PE X b (tE X.K W m2)) : PT X (.Compare a [op] [b] pos) (tT X.K W (cBin f m1 m2)) := by
  refine PT.weak (pt_cmpR ho ha hb hm) ?_
  rintro sg H Q ⟨al, B, ro, h, S, p⟩
  refine tE_bin lk sg H _ ⟨al, B, ro, h, S, Po.mono (Po.bind p) fun v1 H1 ⟨al1, h1, w1, st1, hr1, r1, p1⟩ => ?_⟩
  cases r1 <;> first | exact p1.elim | exact ⟨_, rfl, Po.now p1 hr1 rfl⟩
/-! ### and, or, not, if as values -/
def sAnd (m1 m2 : SE) : SE := fun ro => bind (m1 ro) fun w => bind (truthy w) fun b => if b = true then m2 ro else ret w
def sOr (m1 m2 : SE) : SE := fun ro => bind (m1 ro) fun w => bind (truthy w) fun b => if b = true then ret w else m2 ro
def sNot (m : SE) : SE := fun ro => bind (m ro) fun w => bind (truthy w) fun b => ret (.bl (!b))
def sIf (c : En → M Bool) (m1 m2 : SE) : SE := fun ro => bind (c ro) fun b => if b = true then m1 ro else m2 ro
end
end Z
set_option Elab.async false
set_option maxRecDepth 100000
/-! Z3: and, or, not, if as values; targets; loops; list comprehensions. -/
namespace Z
open PySem PySem.Spec PyProof.Rows L2
section
variable {X : Cx} {W : WX} {a b c : Expr} {m1 m2 m : SE} {t : En → M Bool} {rest : List Expr} {pos : Pos}
theorem oe_one {op : BoolOp} (h : PE X a (tE X.K W m)) : PE X (.BoolOp op [a] pos) (tE X.K W m) := pe_one h
theorem oe_and (ha : PE X a (tE X.K W m1)) (hb : PE X (.BoolOp .And (b :: rest) pos) (tE X.K W m2)) : PE X (.BoolOp .And (a :: b :: rest) pos) (tE X.K W (sAnd m1 m2)) := by
  refine PE.weak (pe_andT ha hb) ?_
  rintro sg H Q ⟨al, B, ro, h, S, p⟩
  refine ⟨al, B, ro, h, S, Po.mono (Po.bind p) fun v1 H1 ⟨al1, h1, w1, st1, hr1, r1, p1⟩ => ?_⟩
  obtain ⟨k, tk, al2, h2, w2, st2, hr2, e, p2⟩ := lk_truthy hr1 r1 (Po.bind p1)
  subst e
  refine ⟨_, tk, ?_⟩
  cases w2 with
  | true => exact ⟨al2, B, ro, h2, S.step (st1.trans st2) hr2, p2⟩
  | false => exact Po.now p2 hr2 (r1.step st2)
theorem oe_or (ha : PE X a (tE X.K W m1)) (hb : PE X (.BoolOp .Or (b :: rest) pos) (tE X.K W m2)) : PE X (.BoolOp .Or (a :: b :: rest) pos) (tE X.K W (sOr m1 m2)) := by
  refine PE.weak (pe_orT ha hb) ?_
  rintro sg H Q ⟨al, B, ro, h, S, p⟩
  refine ⟨al, B, ro, h, S, Po.mono (Po.bind p) fun v1 H1 ⟨al1, h1, w1, st1, hr1, r1, p1⟩ => ?_⟩
  obtain ⟨k, tk, al2, h2, w2, st2, hr2, e, p2⟩ := lk_truthy hr1 r1 (Po.bind p1)
  subst e
  refine ⟨_, tk, ?_⟩
  cases w2 with
  | false => exact ⟨al2, B, ro, h2, S.step (st1.trans st2) hr2, p2⟩
  | true => exact Po.now p2 hr2 (r1.step st2)
theorem oe_not (ha : PE X a (tE X.K W m)) : PE X (.UnaryOp .Not a pos) (tE X.K W (sNot m)) := by
  refine PE.weak (pe_notT ha) ?_
  rintro sg H Q ⟨al, B, ro, h, S, p⟩
  refine ⟨al, B, ro, h, S, Po.mono (Po.bind p) fun v1 H1 ⟨al1, h1, w1, st1, hr1, r1, p1⟩ => ?_⟩
  obtain ⟨k, tk, al2, h2, w2, st2, hr2, e, p2⟩ := lk_truthy hr1 r1 (Po.bind p1)
  subst e
  exact ⟨_, tk, Po.now p2 hr2 (.bl _)⟩
theorem oe_if (hc : PT X c (tT X.K W t)) (ha : PE X a (tE X.K W m1)) (hb : PE X b (tE X.K W m2)) : PE X (.IfExp c a b pos) (tE X.K W (sIf t m1 m2)) := by
  refine PE.weak (pe_ifExp hc ha hb) ?_
  rintro sg H Q ⟨al, B, ro, h, S, p⟩
  refine ⟨al, B, ro, h, S, Po.mono (Po.bind p) fun v1 H1 ⟨al1, h1, w1, st1, hr1, r1, p1⟩ => ?_⟩
  subst r1
  by_cases k : w1 = true
  · rw [if_pos k] at p1 ⊢; exact ⟨al1, B, ro, h1, S.step st1 hr1, p1⟩
  · rw [if_neg k] at p1 ⊢; exact ⟨al1, B, ro, h1, S.step st1 hr1, p1⟩
end
/-! ### targets -/
abbrev GM := Val → En → HH → SO
/-- what a store leaves: only the slots at sl are others -/
def Pg (K : PySem.W.Frag) (B : List Addr) (sl : List Nat) (al : List Addr) (H : Hp) (sg : L2.St) (o : SO) (Q : L2.St → Hp → Prop) : Prop := match o with
  | .go .nx ro' h' => ∀ al' sg' H', Stp al H al' H' → Sim K al' B ro' h' sg' H' → (sg'.length = sg.length ∧ ∀ i, i ∉ sl → sg'[i]? = sg[i]?) → Q sg' H'
  | _ => False
def tG (K : PySem.W.Frag) (sl : List Nat) (g : GM) : TG := fun v sg H Q => ∃ al B ro h w, Sim K al B ro h sg H ∧ Rep K al B H w v ∧ Pg K B sl al H sg (g w ro h) Q
def tGs (K : PySem.W.Frag) (sl : List Nat) (g : List Val → En → HH → SO) : TGs := fun vs sg H Q => ∃ al B ro h ws, Sim K al B ro h sg H ∧ Reps K al B H ws vs ∧ Pg K B sl al H sg (g ws ro h) Q
def gNm (i : Nat) : GM := fun w ro h => .go .nx (ro.set i (some w)) h
def gsNil : List Val → En → HH → SO := fun ws ro h => match ws with
  | [] => .go .nx ro h
  | _ => .bad
def gsCons (g : GM) (r : List Val → En → HH → SO) : List Val → En → HH → SO := fun ws ro h => match ws with
  | [] => .bad
  | w :: ws => match g w ro h with
    | .go .nx ro1 h1 => r ws ro1 h1
    | _ => .bad
/-- the items of a thing -/
def items (w : Val) (h : HH) : Option (List Val) := match w with
  | .tup xs => some xs
  | .lst xs => some xs
  | .scr ns => some (ns.map Val.int)
  | .ref n => match h[n]? with
    | some (.lst xs) => some xs
    | _ => none
  | _ => none
def gTp (n : Nat) (g : List Val → En → HH → SO) : GM := fun w ro h => match items w h with
  | some xs => if xs.length = n then g xs ro h else .bad
  | none => .bad
theorem Pg.step {K : PySem.W.Frag} {B : List Addr} {sl : List Nat} {al al' : List Addr} {H H' : Hp} {sg : L2.St} {o : SO} {Q : L2.St → Hp → Prop} (p : Pg K B sl al H sg o Q) (s : Stp al H al' H') : Pg K B sl al' H' sg o Q := by
  cases o with
  | bad => exact p
  | go f ro h =>
    cases f with
    | nx => exact fun a b c d e f => p a b c (s.trans d) e f
    | _ => exact p
theorem Reps.ints {K : PySem.W.Frag} {al B : List Addr} {H : Hp} : ∀ ns : List Int, Reps K al B H (ns.map Val.int) (ns.map V.int)
  | [] => .nil
  | n :: ns => .cons (.int n) (Reps.ints ns)
/-- a thing with items stands as a list or as a tuple -/
theorem items_sq {K : PySem.W.Frag} {al B : List Addr} {H : Hp} {h : HH} {w : Val} {v : V} {xs : List Val} (hr : HR K al B H h) (r : Rep K al B H w v) (e : items w h = some xs) : ∃ a vs, v = .ref a ∧ (SqL K H a vs ∨ SqT K H a vs) ∧ Reps K al B H xs vs := by
  cases r with
  | tup a _ s => cases e; exact ⟨_, _, rfl, .inr (sqT_of a), s⟩
  | lst a _ s => cases e; exact ⟨_, _, rfl, .inl (SqL.of a.1), s⟩
  | scr a _ => cases e; exact ⟨_, _, rfl, .inl (sqL_of a), Reps.ints _⟩
  | ref q =>
    unfold items at e
    dsimp only at e
    split at e
    · rename_i e2
      cases e
      cases hr.ob _ _ _ q e2 with
      | lst q _ s => exact ⟨_, _, rfl, .inl (SqL.of q), s⟩
    · cases e
  | non => cases e
  | bl => cases e
  | int => cases e
  | str => cases e
  | glo => cases e
  | ty => cases e
section
variable {X : Cx} {tg : Expr} {pos : Pos}
theorem PG.weak {t t' : TG} (h : PG X tg t) (i : ∀ v sg H Q, t' v sg H Q → t v sg H Q) : PG X tg t' := ⟨fun pins s sg H v u Q I r q => h.run pins s sg H v u Q I r (i _ _ _ _ q)⟩
theorem PG.or {t t' : TG} (h : PG X tg t) (h' : PG X tg t') : PG X tg (fun v sg H Q => t v sg H Q ∨ t' v sg H Q) := ⟨fun pins s sg H v u Q I r q => q.elim (h.run pins s sg H v u Q I r) (h'.run pins s sg H v u Q I r)⟩
theorem PGs.weak {ts : List Expr} {t t' : TGs} (h : PGs X ts t) (i : ∀ v sg H Q, t' v sg H Q → t v sg H Q) : PGs X ts t' := ⟨fun pins s sg H v u Q I r q => h.run pins s sg H v u Q I r (i _ _ _ _ q)⟩
theorem og_name {i : Nat} {x : Str} (hN : X.N.Nodup) (hi : X.N[i]? = some x) (hx : Loc X.env.scope x) (hf : X.fn x = true ∨ X.env.scope.names.lookup x = some .local) : PG X (.Name x pos) (tG X.K [i] (gNm i)) := by
  refine PG.weak (pg_name hN hi hx hf) ?_
  rintro v sg H Q ⟨al, B, ro, h, w, S, r, p⟩
  refine p al _ H (Stp.refl _ _) (S.set i r) ⟨by simp, fun j hj => ?_⟩
  rw [List.getElem?_set_ne]
  simpa using fun z => hj (by simp [z])
theorem ogs_nil : PGs X [] (tGs X.K [] gsNil) := by
  refine PGs.weak pgs_nil ?_
  rintro v sg H Q ⟨al, B, ro, h, ws, S, r, p⟩
  cases r with
  | nil => exact ⟨rfl, p al sg H (Stp.refl _ _) S ⟨rfl, fun _ _ => rfl⟩⟩
  | cons _ _ => exact p.elim
theorem ogs_cons {e : Expr} {es : List Expr} {sl sl' : List Nat} {g : GM} {r : List Val → En → HH → SO} (h1 : PG X e (tG X.K sl g)) (h2 : PGs X es (tGs X.K sl' r)) (hs : (assignEach (e :: es) X.env).map (·.2) = assign e X.env :: (assignEach es X.env).map (·.2)) : PGs X (e :: es) (tGs X.K (sl ++ sl') (gsCons g r)) := by
  refine PGs.weak (pgs_cons h1 h2 hs) ?_
  rintro v sg H Q ⟨al, B, ro, h, ws, S, rr, p⟩
  cases rr with
  | nil => exact p.elim
  | @cons w ws v vs rw rs =>
    refine ⟨v, vs, rfl, al, B, ro, h, w, S, rw, ?_⟩
    unfold gsCons at p
    dsimp only at p
    cases e : g w ro h with
    | bad => rw [e] at p; exact p.elim
    | go f ro1 h1 =>
      rw [e] at p
      cases f with
      | nx =>
        intro a b c d s f
        refine ⟨a, B, ro1, h1, ws, s, rs.step d, ?_⟩
        dsimp only at p
        cases e2 : r ws ro1 h1 with
        | bad => rw [e2] at p; exact p.elim
        | go f2 ro2 h2 =>
          rw [e2] at p
          cases f2 with
          | nx =>
            intro a' b' c' d' s' f'
            refine p a' b' c' (d.trans d') s' ⟨f'.1.trans f.1, fun i hi => ?_⟩
            rw [f'.2 i fun z => hi (List.mem_append_right _ z), f.2 i fun z => hi (List.mem_append_left _ z)]
          | _ => exact p.elim
      | _ => exact p.elim
theorem og_tup {es : List Expr} {k n : Nat} {sl : List Nat} {g : List Val → En → HH → SO} (hc : X.calm = true) (h : PGs X es (tGs X.K sl g)) (hn : (assignEach es X.env).length = n) (hst : (assignEach es X.env).findIdx? (·.1) = none) : PG X (.Tuple es k pos) (tG X.K sl (gTp n g)) := by
  refine PG.weak (PG.or (pg_tup hc h hn hst) (pg_lst hc h hn hst)) ?_
  rintro v sg H Q ⟨al, B, ro, h, w, S, r, p⟩
  unfold gTp at p
  cases e : items w h with
  | none => rw [e] at p; exact p.elim
  | some xs =>
    rw [e] at p
    dsimp only at p
    obtain ⟨a, vs, rfl, q, rs⟩ := items_sq S.hr r e
    split at p
    · rename_i l
      rcases q with q | q
      · exact .inr ⟨a, vs, rfl, q, by rw [← rs.length]; exact l, al, B, ro, h, xs, S, rs, p⟩
      · exact .inl ⟨a, vs, rfl, q, by rw [← rs.length]; exact l, al, B, ro, h, xs, S, rs, p⟩
    · exact p.elim
end
def nAsg (m : SE) (g : GM) : SS := fun ro h => sbind (m ro h) ro fun w h1 => match g w ro h1 with
  | .go .nx ro2 h2 => .go .nx ro2 h2
  | _ => .bad
theorem os_asg {X : Cx} {W : WX} {tg e : Expr} {m : SE} {sl : List Nat} {g : GM} {pos : Pos} (he : PE X e (tE X.K W m)) (hg : PG X tg (tG X.K sl g)) (hs : swapsWithSole [tg] e pos.line X.env = pure false) (hw : swappedStores [tg] e X.env = pure none)
    (h1 : (assignEach [tg] X.env).map (·.2) = [assign tg X.env]) : PS X (.Assign [tg] e pos) (tS X.K W (nAsg m g)) := by
  refine PS.weak (ps_asg he hg hs hw h1) ?_
  rintro D sg H ⟨al, B, ro, h, S, p⟩
  refine ⟨al, B, ro, h, S, Po.mono (Ps.bind S p) fun v H1 ⟨al1, h1, w, st, hr, r, q⟩ => ?_⟩
  refine ⟨al1, B, ro, h1, w, S.step st hr, r, ?_⟩
  split at q
  · rename_i e
    rw [e]
    exact fun a b c d e f => q a b c d e
  · exact q.elim
section
variable {K : PySem.W.Frag} {al al' B B' : List Addr} {H H' : Hp}
theorem At.stepB (s : StpB B al H al' H') (hB : ∀ b ∈ B', b ∈ B ∨ H b = none) {a : Addr} {u : HO} (x : At al B H a u) : At al' B' H' a u := by
  have y := x.stepW s
  refine ⟨y.1, y.2, fun z => ?_⟩
  rcases hB a z with q | q
  · exact x.2.2 q
  · rcases x.1 with e | ⟨_, e⟩ <;> rw [q] at e <;> cases e
theorem At1.stepB (s : StpB B al H al' H') (hB : ∀ b ∈ B', b ∈ B ∨ H b = none) {a : Addr} {u : HO} (x : At1 al B H a u) : At1 al' B' H' a u := ⟨(x.stepW s).1, (x.at.stepB s hB).2⟩
theorem AtT.stepB (s : StpB B al H al' H') (hB : ∀ b ∈ B', b ∈ B ∨ H b = none) {a : Addr} {u : List V} (x : AtT al B H a u) : AtT al' B' H' a u := by
  obtain ⟨w, q, f⟩ := x
  exact ⟨w, q.stepB s hB, f⟩
mutual
theorem Rep.stepB (s : StpB B al H al' H') (hB : ∀ b ∈ B', b ∈ B ∨ H b = none) : ∀ {w : Val} {v : V}, Rep K al B H w v → Rep K al' B' H' w v
  | _, _, .non => .non
  | _, _, .bl b => .bl b
  | _, _, .int i => .int i
  | _, _, .str x => .str x
  | _, _, .tup a l r => .tup (a.imp (AtT.stepB s hB) id) l (Reps.stepB s hB r)
  | _, _, .lst a l r => .lst (At1.stepB s hB a) l (Reps.stepB s hB r)
  | _, _, .ref e => .ref (s.get e)
  | _, _, .glo a => .glo a
  | _, _, .ty n => .ty n
  | _, _, .scr a l => .scr (a.imp (At.stepB s hB) id) l
theorem Reps.stepB (s : StpB B al H al' H') (hB : ∀ b ∈ B', b ∈ B ∨ H b = none) : ∀ {w : List Val} {v : List V}, Reps K al B H w v → Reps K al' B' H' w v
  | _, _, .nil => .nil
  | _, _, .cons a r => .cons (Rep.stepB s hB a) (Reps.stepB s hB r)
end
end
theorem Sim.stepB {K : PySem.W.Frag} {al al' B B' : List Addr} {ro : En} {h h' : HH} {sg : L2.St} {H H' : Hp} (x : Sim K al B ro h sg H) (s : StpB B al H al' H') (hB : ∀ b ∈ B', b ∈ B ∨ H b = none) (hr : HR K al' B' H' h') : Sim K al' B' ro h' sg H' :=
  ⟨hr, x.len, fun i w e => by obtain ⟨v, p, q⟩ := x.env i w e; exact ⟨v, p, q.stepB s hB⟩⟩
/-! ### what is walked -/
/-- what is walked: fixed items, or a list of one's own, read at each turn -/
inductive Itm where
  | st (xs : List Val) | dyn (n : Nat) | den (n : Nat)
def nxt (x : Itm) (i : Nat) (h : HH) : Option (Option Val) := match x with
  | .st xs => some xs[i]?
  | .dyn n => match h[n]? with
    | some (.lst xs) => some xs[i]?
    | _ => none
  | .den n => match h[n]? with
    | some (.lst xs) => some (xs[i]?.map fun x => .tup [.int (i : Nat), x])
    | _ => none
abbrev SI := En → M (Itm × Nat)
/-- what J yields is x, from (al, H) on -/
def ItR (K : PySem.W.Frag) (B : List Addr) (J : It) (x : Itm) (al : List Addr) (H : Hp) : Prop :=
  ∀ al' B' H' h', StpB B al H al' H' → (∀ b ∈ B', b ∈ B ∨ H b = none) → HR K al' B' H' h' → ∀ i,
    (nxt x i h' = some none → J.stop i H') ∧ ∀ w, nxt x i h' = some (some w) → J.go i H' ∧ ∀ y H'', J.yld i H' y H'' → Stp al' H' al' H'' ∧ HR K al' B' H'' h' ∧ Rep K al' B' H'' w y
def tI (K : PySem.W.Frag) (W : WX) (mi : SI) : TI := fun sg H R => ∃ al B ro h, Sim K al B ro h sg H ∧ Po K B (fun al H (x : Itm × Nat) J => ItR K B J x.1 al H ∧ x.2 ≤ sizeLine) sg al H (mi ro h) W R
/-- the turns -/
def turns (g : GM) (body : SS) (x : Itm) : Nat → Nat → SS
  | 0, i, ro, h => match nxt x i h with
    | some none => .go .nx ro h
    | _ => .bad
  | k + 1, i, ro, h => match nxt x i h with
    | none => .bad
    | some none => .go .nx ro h
    | some (some w) => match g w ro h with
      | .go .nx ro1 h1 => match body ro1 h1 with
        | .go .nx ro2 h2 => turns g body x k (i + 1) ro2 h2
        | .go .ct ro2 h2 => turns g body x k (i + 1) ro2 h2
        | .go .brk ro2 h2 => .go .nx ro2 h2
        | o => o
      | _ => .bad
def nFor (mi : SI) (g : GM) (body : SS) : SS := fun ro h => sbind (mi ro h) ro fun x h1 => turns g body x.1 x.2 0 ro h1
theorem tS_for {K : PySem.W.Frag} {W : WX} {mi : SI} {g : GM} {sl : List Nat} {body : SS} (D : Ends) (sg : L2.St) (H : Hp) (p : tS K W (nFor mi g body) D sg H) : tFor (tI K W mi) (tG K sl g) (tS K W body) D sg H := by
  obtain ⟨al, B, ro, h, S, p⟩ := p
  refine ⟨al, B, ro, h, S, Po.mono (Ps.bind S p) fun J H1 ⟨al1, h1, ⟨x, n⟩, st, hr, ⟨it, _⟩, q⟩ => ?_⟩
  dsimp only at it q
  refine ⟨fun i m sg2 H2 => ∃ al2 ro2 h2, Stp al1 H1 al2 H2 ∧ Sim K al2 B ro2 h2 sg2 H2 ∧ Ps K B al2 H2 (turns g body x m i ro2 h2) W D, ⟨n, al1, ro, h1, Stp.refl _ _, S.step st hr, q⟩, ?_⟩
  rintro i m sg2 H2 ⟨al2, ro2, h2, st2, S2, q2⟩
  obtain ⟨i1, i2⟩ := it al2 B H2 h2 st2.toB (fun b hb => .inl hb) S2.hr i
  cases e0 : nxt x i h2 with
  | none => cases m <;> (unfold turns at q2; rw [e0] at q2; exact q2.elim)
  | some o =>
  cases o with
  | none =>
    refine .inl ⟨i1 e0, ?_⟩
    cases m with
    | zero => unfold turns at q2; rw [e0] at q2; exact q2 al2 sg2 H2 (Stp.refl _ _) S2
    | succ m => unfold turns at q2; rw [e0] at q2; exact q2 al2 sg2 H2 (Stp.refl _ _) S2
  | some w =>
    obtain ⟨g1, g2⟩ := i2 w e0
    cases m with
    | zero => unfold turns at q2; rw [e0] at q2; exact q2.elim
    | succ m =>
    unfold turns at q2
    rw [e0] at q2
    refine .inr ⟨g1, fun sg3 H3 => ∃ al3 ro3 h3, Stp al1 H1 al3 H3 ∧ Sim K al3 B ro3 h3 sg3 H3 ∧ Ps K B al3 H3 (turns g body x m (i + 1) ro3 h3) W D, fun sg3 H3 ⟨al3, ro3, h3, a, b, c⟩ => ⟨m, by omega, al3, ro3, h3, a, b, c⟩, fun y H3 yy => ?_⟩
    obtain ⟨s3, hr3, r3⟩ := g2 y H3 yy
    refine ⟨al2, B, ro2, h2, w, S2.step s3 hr3, r3, ?_⟩
    dsimp only at q2
    cases e : g w ro2 h2 with
    | bad => rw [e] at q2; exact q2.elim
    | go f ro4 h4 =>
      rw [e] at q2
      cases f with
      | nx =>
        intro al4 sg4 H4 st4 S4 _
        refine ⟨al4, B, ro4, h4, S4, ?_⟩
        dsimp only at q2
        cases e2 : body ro4 h4 with
        | bad => rw [e2] at q2; exact q2.elim
        | go f5 ro5 h5 =>
          rw [e2] at q2
          have s34 := (st2.trans s3).trans st4
          intro al5 sg5 H5 st5 S5
          cases f5 with
          | nx => exact ⟨al5, ro5, h5, s34.trans st5, S5, q2.step ((s3.trans st4).trans st5)⟩
          | ct => exact ⟨al5, ro5, h5, s34.trans st5, S5, q2.step ((s3.trans st4).trans st5)⟩
          | brk => exact q2 al5 sg5 H5 ((s3.trans st4).trans st5) S5
          | ret w => exact q2 al5 sg5 H5 ((s3.trans st4).trans st5) S5
          | ex e => exact q2 al5 sg5 H5 ((s3.trans st4).trans st5) S5
      | _ => exact q2.elim
theorem os_for {X : Cx} {W : WX} {tg iter : Expr} {body : List Stmt} {mi : SI} {g : GM} {sl : List Nat} {mb : SS} {pos : Pos} (hp : PassesOwn (model X.prog X.w) X.A X.env X.xe) (hc : X.calm = true) (hi : PI X tg iter (tI X.K W mi)) (hg : PG X tg (tG X.K sl g)) (hb : PSs X body (tS X.K W mb))
    (hs : ∀ x, foldedSetIterable iter X.env x = pure x) : PS X (.For tg iter body [] pos) (tS X.K W (nFor mi g mb)) := PS.weak (ps_for hp hc hi hg hb hs) tS_for
/-! ### while -/
def wturns (c : En → M Bool) (body : SS) : Nat → SS
  | 0, _, _ => .bad
  | n + 1, ro, h => sbind (c ro h) ro fun b h1 => if b = true then match body ro h1 with
      | .go .nx ro2 h2 => wturns c body n ro2 h2
      | .go .ct ro2 h2 => wturns c body n ro2 h2
      | .go .brk ro2 h2 => .go .nx ro2 h2
      | o => o
    else .go .nx ro h1
def nWhile (fuel : Nat) (c : En → M Bool) (body : SS) : SS := wturns c body fuel
theorem tS_while {K : PySem.W.Frag} {W : WX} {c : En → M Bool} {body : SS} {n : Nat} (D : Ends) (sg : L2.St) (H : Hp) (p : tS K W (nWhile n c body) D sg H) : tWhile (tT K W c) (tS K W body) D sg H := by
  obtain ⟨al, B, ro, h, S, p⟩ := p
  refine ⟨fun m sg2 H2 => ∃ al2 ro2 h2, Sim K al2 B ro2 h2 sg2 H2 ∧ Ps K B al2 H2 (wturns c body m ro2 h2) W D, ⟨n, al, ro, h, S, p⟩, ?_⟩
  rintro m sg2 H2 ⟨al2, ro2, h2, S2, q⟩
  cases m with
  | zero => exact q.elim
  | succ m =>
    unfold wturns at q
    refine ⟨al2, B, ro2, h2, S2, Po.mono (Ps.bind S2 q) fun b H3 ⟨al3, h3, b', st3, hr3, e, q3⟩ => ?_⟩
    subst e
    by_cases k : b' = true
    · rw [if_pos k] at q3 ⊢
      refine ⟨fun sg4 H4 => ∃ al4 ro4 h4, Sim K al4 B ro4 h4 sg4 H4 ∧ Ps K B al4 H4 (wturns c body m ro4 h4) W D, fun sg4 H4 z => ⟨m, by omega, z⟩, al3, B, ro2, h3, S2.step st3 hr3, ?_⟩
      cases e2 : body ro2 h3 with
      | bad => rw [e2] at q3; exact q3.elim
      | go f5 ro5 h5 =>
        rw [e2] at q3
        intro al5 sg5 H5 st5 S5
        cases f5 with
        | nx => exact ⟨al5, ro5, h5, S5, q3.step st5⟩
        | ct => exact ⟨al5, ro5, h5, S5, q3.step st5⟩
        | brk => exact q3 al5 sg5 H5 st5 S5
        | ret w => exact q3 al5 sg5 H5 st5 S5
        | ex e => exact q3 al5 sg5 H5 st5 S5
    · rw [if_neg k] at q3 ⊢
      exact q3 al3 sg2 H3 (Stp.refl _ _) (S2.step st3 hr3)
theorem os_while {X : Cx} {W : WX} {c : Expr} {body : List Stmt} {mc : En → M Bool} {mb : SS} {n : Nat} {pos : Pos} (hp : PassesOwn (model X.prog X.w) X.A X.env X.xe) (hc : PT X c (tT X.K W mc)) (hb : PSs X body (tS X.K W mb)) : PS X (.While c body [] pos) (tS X.K W (nWhile n mc mb)) := PS.weak (ps_while hp hc hb) tS_while
/-! ### list comprehensions -/
def lcTurns (g : GM) (t : En → M Bool) (m : SE) (ro : En) (x : Itm) : Nat → Nat → List Val → M (List Val)
  | 0, i, acc, h => match nxt x i h with
    | some none => .ok acc h
    | _ => .bad
  | k + 1, i, acc, h => match nxt x i h with
    | none => .bad
    | some none => .ok acc h
    | some (some w) => match g w ro h with
      | .go .nx ro1 h1 => match t ro1 h1 with
        | .ok b h2 => if b = true then match m ro1 h2 with
            | .ok y h3 => lcTurns g t m ro x k (i + 1) (acc ++ [y]) h3
            | _ => .bad
          else lcTurns g t m ro x k (i + 1) acc h2
        | _ => .bad
      | _ => .bad
def wipeN (ro : En) : List Nat → En
  | [] => ro
  | v :: vs => (wipeN ro vs).set v none
def sLc (mi : SI) (g : GM) (t : En → M Bool) (m : SE) (own : List Nat) : SE := fun ro => bind (mi ro) fun x => bind (lcTurns g t m (wipeN ro own) x.1 x.2 0 []) fun ys => ret (.lst ys)
theorem Sim.wiped {K : PySem.W.Frag} {al B : List Addr} {ro : En} {h : HH} {sg : L2.St} {H : Hp} (S : Sim K al B ro h sg H) : ∀ vs : List Nat, Sim K al B (wipeN ro vs) h (wipe sg vs) H
  | [] => S
  | v :: vs => by
    have T := S.wiped vs
    refine ⟨T.hr, by unfold wipeN wipe; simp [T.len], fun i w e => ?_⟩
    unfold wipeN at e
    unfold L2.wipe
    by_cases z : v = i
    · subst z
      by_cases l : v < (wipeN ro vs).length
      · rw [List.getElem?_set_self l] at e; cases e
      · rw [List.getElem?_eq_none (by simpa using l)] at e; cases e
    · rw [List.getElem?_set_ne z] at e
      obtain ⟨v', p, q⟩ := T.env i w e
      exact ⟨v', by rw [List.getElem?_set_ne z]; exact p, q⟩
theorem wipe_in {sg : L2.St} : ∀ {vs : List Nat} {i : Nat}, i ∈ vs → (wipe sg vs)[i]? = (sg[i]?).map fun _ => none
  | v :: vs, i, h => by
    unfold wipe
    by_cases z : v = i
    · subst z
      by_cases l : v < (wipe sg vs).length
      · rw [List.getElem?_set_self l]
        rw [wipe_length] at l
        rw [List.getElem?_eq_getElem l]; rfl
      · rw [List.getElem?_eq_none (by simpa using l)]
        rw [wipe_length] at l
        rw [List.getElem?_eq_none (by omega)]; rfl
    · rw [List.getElem?_set_ne z]
      exact wipe_in (by rcases List.mem_cons.mp h with e | e; exact absurd e.symm z; exact e)
theorem wipe_same {sg sg' : L2.St} {vs : List Nat} (hl : sg'.length = sg.length) (h : ∀ i, i ∉ vs → sg'[i]? = sg[i]?) : wipe sg' vs = wipe sg vs := by
  refine List.ext_getElem? fun i => ?_
  by_cases c : i ∈ vs
  · rw [wipe_in c, wipe_in c]
    by_cases l : i < sg.length
    · rw [List.getElem?_eq_getElem l, List.getElem?_eq_getElem (by rw [hl]; exact l)]; rfl
    · rw [List.getElem?_eq_none (by omega), List.getElem?_eq_none (by omega)]
  · rw [wipe_out c, wipe_out c, h i c]
theorem wipe_wipe {sg : L2.St} {vs : List Nat} : wipe (wipe sg vs) vs = wipe sg vs := wipe_same (wipe_length _ _) fun i h => wipe_out h
/-- D is being made -/
theorem HR.busy {K : PySem.W.Frag} {al B : List Addr} {H : Hp} {h : HH} (x : HR K al B H h) {D : Addr} (l : H D ≠ none) (n : D ∉ al)
    (q : ∀ (n : Nat) (a : Addr) (o : Ob), al[n]? = some a → h[n]? = some o → ObR K al (D :: B) H o a) : HR K al (D :: B) H h :=
  ⟨x.nd, x.len, q, fun a ha => by rcases List.mem_cons.mp ha with e | e; exact e ▸ l; exact x.live a e, fun a ha => by rcases List.mem_cons.mp ha with e | e; exact e ▸ n; exact x.apart a e⟩
theorem At.grow {al B : List Addr} {H : Hp} {D : Addr} {o : HO} (n : H D = none) {a : Addr} {u : HO} (x : At al B H a u) : At al (D :: B) (upd H D o) a u := by
  obtain ⟨q, n1, n2⟩ := x
  have ne : a ≠ D := by
    intro z
    subst z
    rcases q with q | ⟨_, q⟩ <;> rw [n] at q <;> cases q
  refine ⟨by rw [upd_ne ne]; exact q, n1, fun z => ?_⟩
  rcases List.mem_cons.mp z with e | e
  · exact ne e
  · exact n2 e
theorem At1.grow {al B : List Addr} {H : Hp} {D : Addr} {o : HO} (n : H D = none) {a : Addr} {u : HO} (x : At1 al B H a u) : At1 al (D :: B) (upd H D o) a u := ⟨by rw [upd_ne (ne_of_none x.1 n)]; exact x.1, (x.at.grow (o := o) n).2⟩
theorem At.less {al B : List Addr} {H : Hp} {D : Addr} {a : Addr} {u : HO} (x : At al (D :: B) H a u) : At al B H a u := ⟨x.1, x.2.1, fun z => x.2.2 (List.mem_cons_of_mem _ z)⟩
theorem At1.less {al B : List Addr} {H : Hp} {D : Addr} {a : Addr} {u : HO} (x : At1 al (D :: B) H a u) : At1 al B H a u := ⟨x.1, x.2.1, fun z => x.2.2 (List.mem_cons_of_mem _ z)⟩
theorem At.turn {al B : List Addr} {H : Hp} {D : Addr} {o : HO} (n : D ∈ B) {a : Addr} {u : HO} (x : At al B H a u) : At al B (upd H D o) a u := by
  refine ⟨by rw [upd_ne (a := D) (b := a) (fun z => x.2.2 (by rw [z]; exact n))]; exact x.1, x.2⟩
theorem At1.turn {al B : List Addr} {H : Hp} {D : Addr} {o : HO} (n : D ∈ B) {a : Addr} {u : HO} (x : At1 al B H a u) : At1 al B (upd H D o) a u := by
  refine ⟨by rw [upd_ne (a := D) (b := a) (fun z => x.2.2 (by rw [z]; exact n))]; exact x.1, x.2⟩
theorem AtT.grow {al B : List Addr} {H : Hp} {D : Addr} {o : HO} (n : H D = none) {a : Addr} {u : List V} (x : AtT al B H a u) : AtT al (D :: B) (upd H D o) a u := by
  obtain ⟨w, q, f⟩ := x
  exact ⟨w, q.grow n, f⟩
theorem AtT.less {al B : List Addr} {H : Hp} {D : Addr} {a : Addr} {u : List V} (x : AtT al (D :: B) H a u) : AtT al B H a u := by
  obtain ⟨w, q, f⟩ := x
  exact ⟨w, q.less, f⟩
theorem AtT.turn {al B : List Addr} {H : Hp} {D : Addr} {o : HO} (n : D ∈ B) {a : Addr} {u : List V} (x : AtT al B H a u) : AtT al B (upd H D o) a u := by
  obtain ⟨w, q, f⟩ := x
  exact ⟨w, q.turn n, f⟩
mutual
theorem Rep.grow {K : PySem.W.Frag} {al B : List Addr} {H : Hp} {D : Addr} {o : HO} (n : H D = none) : ∀ {w : Val} {v : V}, Rep K al B H w v → Rep K al (D :: B) (upd H D o) w v
  | _, _, .non => .non
  | _, _, .bl b => .bl b
  | _, _, .int i => .int i
  | _, _, .str x => .str x
  | _, _, .tup a l r => .tup (a.imp (AtT.grow n) id) l (Reps.grow n r)
  | _, _, .lst a l r => .lst (At1.grow n a) l (Reps.grow n r)
  | _, _, .ref e => .ref e
  | _, _, .glo a => .glo a
  | _, _, .ty n => .ty n
  | _, _, .scr a l => .scr (a.imp (At.grow n) id) l
theorem Reps.grow {K : PySem.W.Frag} {al B : List Addr} {H : Hp} {D : Addr} {o : HO} (n : H D = none) : ∀ {w : List Val} {v : List V}, Reps K al B H w v → Reps K al (D :: B) (upd H D o) w v
  | _, _, .nil => .nil
  | _, _, .cons a r => .cons (Rep.grow n a) (Reps.grow n r)
end
mutual
theorem Rep.less {K : PySem.W.Frag} {al B : List Addr} {H : Hp} {D : Addr} : ∀ {w : Val} {v : V}, Rep K al (D :: B) H w v → Rep K al B H w v
  | _, _, .non => .non
  | _, _, .bl b => .bl b
  | _, _, .int i => .int i
  | _, _, .str x => .str x
  | _, _, .tup a l r => .tup (a.imp AtT.less id) l (Reps.less r)
  | _, _, .lst a l r => .lst (At1.less  a) l (Reps.less  r)
  | _, _, .ref e => .ref e
  | _, _, .glo a => .glo a
  | _, _, .ty n => .ty n
  | _, _, .scr a l => .scr (a.imp (At.less) id) l
theorem Reps.less {K : PySem.W.Frag} {al B : List Addr} {H : Hp} {D : Addr} : ∀ {w : List Val} {v : List V}, Reps K al (D :: B) H w v → Reps K al B H w v
  | _, _, .nil => .nil
  | _, _, .cons a r => .cons (Rep.less a) (Reps.less r)
end
mutual
/-- D changes -/
theorem Rep.turn {K : PySem.W.Frag} {al B : List Addr} {H : Hp} {D : Addr} {o : HO} (n : D ∈ B) : ∀ {w : Val} {v : V}, Rep K al B H w v → Rep K al B (upd H D o) w v
  | _, _, .non => .non
  | _, _, .bl b => .bl b
  | _, _, .int i => .int i
  | _, _, .str x => .str x
  | _, _, .tup a l r => .tup (a.imp (AtT.turn n) id) l (Reps.turn n r)
  | _, _, .lst a l r => .lst (At1.turn n a) l (Reps.turn n r)
  | _, _, .ref e => .ref e
  | _, _, .glo a => .glo a
  | _, _, .ty n => .ty n
  | _, _, .scr a l => .scr (a.imp (At.turn n) id) l
theorem Reps.turn {K : PySem.W.Frag} {al B : List Addr} {H : Hp} {D : Addr} {o : HO} (n : D ∈ B) : ∀ {w : List Val} {v : List V}, Reps K al B H w v → Reps K al B (upd H D o) w v
  | _, _, .nil => .nil
  | _, _, .cons a r => .cons (Rep.turn n a) (Reps.turn n r)
end
theorem ObR.grow {K : PySem.W.Frag} {al B : List Addr} {H : Hp} {D : Addr} {u : HO} (n : H D = none) {o : Ob} {a : Addr} (x : ObR K al B H o a) : ObR K al (D :: B) (upd H D u) o a := by
  cases x with
  | lst h l r => exact .lst (by rw [upd_ne (ne_of_none h n)]; exact h) l (r.grow n)
  | dic h k r => exact .dic (by rw [upd_ne (ne_of_none h n)]; exact h) k (r.grow n)
  | ins h k r => exact .ins (by rw [upd_ne (ne_of_none h n)]; exact h) k (r.grow n)
theorem ObR.less {K : PySem.W.Frag} {al B : List Addr} {H : Hp} {D : Addr} {o : Ob} {a : Addr} (x : ObR K al (D :: B) H o a) : ObR K al B H o a := by
  cases x with
  | lst h l r => exact .lst h l r.less
  | dic h k r => exact .dic h k r.less
  | ins h k r => exact .ins h k r.less
theorem ObR.turn {K : PySem.W.Frag} {al B : List Addr} {H : Hp} {D : Addr} {u : HO} (n : D ∈ B) {o : Ob} {a : Addr} (na : a ≠ D) (x : ObR K al B H o a) : ObR K al B (upd H D u) o a := by
  cases x with
  | lst h l r => exact .lst (by rw [upd_ne na]; exact h) l (r.turn n)
  | dic h k r => exact .dic (by rw [upd_ne na]; exact h) k (r.turn n)
  | ins h k r => exact .ins (by rw [upd_ne na]; exact h) k (r.turn n)
theorem HR.grow {K : PySem.W.Frag} {al B : List Addr} {H : Hp} {h : HH} (x : HR K al B H h) {D : Addr} {u : HO} (n : H D = none) : HR K al (D :: B) (upd H D u) h :=
  ⟨x.nd, x.len, fun i a o e1 e2 => (x.ob i a o e1 e2).grow n, fun a ha => by
    rcases List.mem_cons.mp ha with e | e
    · subst e; rw [upd_same]; simp
    · exact (Stp.lay (al := al) n).up a (x.live a e), fun a ha => by
    rcases List.mem_cons.mp ha with e | e
    · subst e; exact (x.fresh n).1
    · exact x.apart a e⟩
theorem HR.less {K : PySem.W.Frag} {al B : List Addr} {H : Hp} {h : HH} {D : Addr} (x : HR K al (D :: B) H h) : HR K al B H h :=
  ⟨x.nd, x.len, fun i a o e1 e2 => (x.ob i a o e1 e2).less, fun a ha => x.live a (List.mem_cons_of_mem _ ha), fun a ha => x.apart a (List.mem_cons_of_mem _ ha)⟩
theorem HR.turn {K : PySem.W.Frag} {al B : List Addr} {H : Hp} {h : HH} (x : HR K al B H h) {D : Addr} {u : HO} (n : D ∈ B) : HR K al B (upd H D u) h :=
  ⟨x.nd, x.len, fun i a o e1 e2 => (x.ob i a o e1 e2).turn n fun z => x.apart D n (z ▸ List.mem_of_getElem? e1), fun a ha => by
    by_cases z : a = D
    · subst z; rw [upd_same]; simp
    · rw [upd_ne z]; exact x.live a ha, x.apart⟩
/-- what stays but D -/
theorem Stp.turn {al : List Addr} {H0 H : Hp} {al' : List Addr} {D : Addr} {u : HO} (s : Stp al H0 al' H) (n : H0 D = none) (l : H D ≠ none) : Stp al H0 al' (upd H D u) :=
  ⟨s.more, fun a o e m => by rw [upd_ne (ne_of_none e n)]; exact s.keep a o e m, fun a q => by
    by_cases z : a = D
    · subst z; rw [upd_same]; simp
    · rw [upd_ne z]; exact s.up a q⟩
theorem tE_lc {K : PySem.W.Frag} {W : WX} {mi : SI} {g : GM} {sl : List Nat} {t : En → M Bool} {m : SE} {own : List Nat} (hsl : ∀ i ∈ sl, i ∈ own) (sg : L2.St) (H : Hp) (Q : VK) (p : tE K W (sLc mi g t m own) sg H Q) :
    tLc (tI K W mi) (tG K sl g) (tT K (fun _ _ _ _ => False) t) (tE K (fun _ _ _ _ => False) m) own sg H Q := by
  obtain ⟨al, B, ro, h, S, p⟩ := p
  refine ⟨al, B, ro, h, S, Po.mono (Po.bind p) fun J H1 ⟨al1, h1, ⟨x, n⟩, st, hr, ⟨it, hlen⟩, q⟩ => ?_⟩
  dsimp only at it q hlen
  intro D hD
  have S1 := (S.step st hr).wiped own
  have hDB : ∀ b ∈ D :: B, b ∈ B ∨ H1 b = none := fun b hb => by
    rcases List.mem_cons.mp hb with e | e
    · exact .inr (e ▸ hD)
    · exact .inl e
  have key : ∀ acc accV al2 H2 h2, Po K B (fun al H => Rep K al B H) sg al1 H1 (obind (.ok acc h2) fun ys => ret (.lst ys)) W Q → acc.length ≤ sizeLine → Stp al1 H1 al2 H2 → HR K al2 (D :: B) H2 h2 → H2 D = some (.lst accV) → Reps K al2 (D :: B) H2 acc accV → Q (.ref D) H2 := by
    intro acc accV al2 H2 h2 q l s2 hr2 d2 r2
    refine q al2 H2 (.ref D) s2 hr2.less (.lst ⟨d2, fun z => hr2.apart D (List.mem_cons_self) z, fun z => ?_⟩ l r2.less)
    exact (hr.fresh hD).2 z
  refine ⟨fun i k H2 => ∃ al2 h2 acc accV, Stp al1 H1 al2 H2 ∧ HR K al2 (D :: B) H2 h2 ∧ H2 D = some (.lst accV) ∧ Reps K al2 (D :: B) H2 acc accV ∧ acc.length + k ≤ sizeLine ∧
    Po K B (fun al H => Rep K al B H) sg al1 H1 (obind (lcTurns g t m (wipeN ro own) x k i acc h2) fun ys => ret (.lst ys)) W Q, ⟨n, al1, h1, [], [], Stp.lay hD, hr.grow hD, upd_same, .nil, by simpa using hlen, q⟩, ?_⟩
  rintro i k H2 ⟨al2, h2, acc, accV, st2, hr2, d2, r2, hl, q2⟩
  obtain ⟨i1, i2⟩ := it al2 (D :: B) H2 h2 st2.toB hDB hr2 i
  cases e0 : nxt x i h2 with
  | none => cases k <;> (unfold lcTurns at q2; rw [e0] at q2; exact q2.elim)
  | some o =>
  cases o with
  | none =>
    refine .inl ⟨i1 e0, ?_⟩
    cases k with
    | zero => unfold lcTurns at q2; rw [e0] at q2; exact key acc accV al2 H2 h2 q2 (by omega) st2 hr2 d2 r2
    | succ k => unfold lcTurns at q2; rw [e0] at q2; exact key acc accV al2 H2 h2 q2 (by omega) st2 hr2 d2 r2
  | some w =>
    obtain ⟨g1, g2⟩ := i2 w e0
    cases k with
    | zero => unfold lcTurns at q2; rw [e0] at q2; exact q2.elim
    | succ k =>
    unfold lcTurns at q2
    rw [e0] at q2
    refine .inr ⟨g1, fun H3 => ∃ al3 h3 acc accV, Stp al1 H1 al3 H3 ∧ HR K al3 (D :: B) H3 h3 ∧ H3 D = some (.lst accV) ∧ Reps K al3 (D :: B) H3 acc accV ∧ acc.length + k ≤ sizeLine ∧
      Po K B (fun al H => Rep K al B H) sg al1 H1 (obind (lcTurns g t m (wipeN ro own) x k (i + 1) acc h3) fun ys => ret (.lst ys)) W Q, fun H3 ⟨al3, h3, acc, accV, a, b, c, d, e, f⟩ => ⟨k, by omega, al3, h3, acc, accV, a, b, c, d, e, f⟩, fun y H3 yy => ?_⟩
    -- within the turn D is one of those that are being made
    obtain ⟨s3, hr3, r3⟩ := g2 y H3 yy
    have st3 := st2.trans s3
    have d3 : H3 D = some (.lst accV) := s3.keep _ _ d2 (hr2.apart D List.mem_cons_self)
    refine ⟨al2, D :: B, wipeN ro own, h2, w, S1.stepB st3.toB hDB hr3, r3, ?_⟩
    dsimp only at q2
    cases e : g w (wipeN ro own) h2 with
    | bad => rw [e] at q2; exact q2.elim
    | go f ro4 h4 =>
      rw [e] at q2
      cases f with
      | nx =>
        intro al4 sg4 H4 st4 S4 ⟨hl4, f4⟩
        have d4 : H4 D = some (.lst accV) := st4.keep _ _ d3 (hr3.apart D List.mem_cons_self)
        refine ⟨(wipe_same hl4 fun i hi => f4 i fun z => hi (hsl i z)).trans wipe_wipe, ?_⟩
        refine ⟨al4, D :: B, ro4, h4, S4, ?_⟩
        dsimp only at q2
        cases e2 : t ro4 h4 with
        | bad => rw [e2] at q2; exact q2.elim
        | ex _ _ => rw [e2] at q2; exact q2.elim
        | ok b h5 =>
          rw [e2] at q2
          intro al5 H5 v5 st5 hr5 eb
          subst eb
          have d5 : H5 D = some (.lst accV) := st5.keep _ _ d4 (S4.hr.apart D List.mem_cons_self)
          have st15 := (st3.trans st4).trans st5
          have r5 := r2.step ((s3.trans st4).trans st5)
          cases b with
          | false => exact ⟨al5, h5, acc, accV, st15, hr5, d5, r5, by omega, q2⟩
          | true =>
            rw [if_pos rfl]
            refine ⟨al5, D :: B, ro4, h5, S4.step st5 hr5, ?_⟩
            dsimp only at q2
            rw [if_pos rfl] at q2
            cases e3 : m ro4 h5 with
            | bad => rw [e3] at q2; exact q2.elim
            | ex _ _ => rw [e3] at q2; exact q2.elim
            | ok y6 h6 =>
              rw [e3] at q2
              intro al6 H6 v6 st6 hr6 r6
              have d6 : H6 D = some (.lst accV) := st6.keep _ _ d5 (hr5.apart D List.mem_cons_self)
              refine ⟨accV, d6, by rw [← r2.length]; omega, al6, h6, acc ++ [y6], accV ++ [v6], (st15.trans st6).turn hD (by rw [d6]; simp), hr6.turn List.mem_cons_self, upd_same, ((r5.step st6).turn List.mem_cons_self).append (.cons (r6.turn List.mem_cons_self) .nil), by simp; omega, q2⟩
      | _ => exact q2.elim
abbrev W0 : WX := fun _ _ _ _ => False
theorem takes0 {X : Cx} : Takes (X.wish fun _ _ => False) W0 := fun _ _ ⟨_, _, _, _, _, _, _, _, _, _, _, _, _, _, _, _, z⟩ => z.elim
section
variable {X : Cx} {W : WX} {elt tg iter : Expr} {ifs : List Expr} {scope : Scope} {own : List (Str × Nat)} {pos : Pos} {mi : SI} {g : GM} {sl : List Nat} {t : En → M Bool} {m : SE}
theorem oe_lc (hc : X.calm = true) (hN : X.N.Nodup) (hi : PI X tg iter (tI X.K W mi)) (ok : BlkOk X.N X.env.scope scope own) (hsl : ∀ i ∈ sl, i ∈ own.map (·.2))
    (hg : ∀ (s : Shared) (H : Hp) (C : Addr) (cl : List (Str × Addr)) (fp : List Addr), PG (X.blk s H scope (compEnvC scope cl C X.env) fp) tg (tG X.K sl g))
    (ht : ∀ (s : Shared) (H : Hp) (C : Addr) (cl : List (Str × Addr)) (fp : List Addr), PTs (X.blk s H scope (compEnvC scope cl C X.env) fp) ifs (tT X.K W0 t))
    (he : ∀ (s : Shared) (H : Hp) (C : Addr) (cl : List (Str × Addr)) (fp : List Addr), PE (X.blk s H scope (compEnvC scope cl C X.env) fp) elt (tE X.K W0 m)) (hs : ∀ x, foldedSetIterable iter X.env x = pure x) :
    PE X (.ListComp elt [⟨tg, iter, ifs, 0⟩] scope pos) (tE X.K W (sLc mi g t m (own.map (·.2)))) := PE.weak (pe_lc hc hN hi ok hg ht he hs) (tE_lc hsl)
theorem os_setLc {i : Nat} {y : Str} {py spos : Pos} (hc : X.calm = true) (hN : X.N.Nodup) (hy : X.N[i]? = some y) (hyl : X.env.scope.names.lookup y = some .local)
    (hsw : swapsWith (.ListComp elt [⟨tg, iter, ifs, 0⟩] scope pos) (some (.Name y py)) spos.line X.env = pure true) (hi : PI X tg iter (tI X.K W mi)) (ok : BlkOk X.N X.env.scope scope own) (hsl : ∀ i ∈ sl, i ∈ own.map (·.2))
    (hg : ∀ (s : Shared) (H : Hp) (C : Addr) (cl : List (Str × Addr)) (fp : List Addr), PG (X.blk s H scope (compEnvC scope cl C X.env) fp) tg (tG X.K sl g))
    (ht : ∀ (s : Shared) (H : Hp) (C : Addr) (cl : List (Str × Addr)) (fp : List Addr), PTs (X.blk s H scope (compEnvC scope cl C X.env) fp) ifs (tT X.K W0 t))
    (he : ∀ (s : Shared) (H : Hp) (C : Addr) (cl : List (Str × Addr)) (fp : List Addr), PE (X.blk s H scope (compEnvC scope cl C X.env) fp) elt (tE X.K W0 m)) (hs : ∀ x, foldedSetIterable iter X.env x = pure x) :
    PS X (.Assign [.Name y py] (.ListComp elt [⟨tg, iter, ifs, 0⟩] scope pos) spos) (tS X.K W (nSet i (sLc mi g t m (own.map (·.2))))) := by
  refine PS.weak (ps_setLc hc hN hy hyl hsw hi ok hg ht he hs) ?_
  rintro D sg H ⟨al, B, ro, h, S, p⟩
  refine tE_lc hsl sg H _ ⟨al, B, ro, h, S, Po.mono (Ps.bind S p) fun v H1 ⟨al1, h1, w, st, hr, r, q⟩ => ?_⟩
  exact q al1 _ H1 (Stp.refl _ _) ((S.step st hr).set i r)
end
end Z
set_option Elab.async false
set_option maxRecDepth 100000
set_option linter.unusedVariables false
/-! Z4: operators on values. -/
namespace Z
open PySem PySem.Spec PyProof.Rows L2
/-! ### plain data -/
mutual
def toD : Val → PyData
  | .non => .none
  | .bl b => .bool b
  | .int i => .int i
  | .str x => .str x
  | .tup xs => .tuple (toDs xs)
  | .lst xs => .list (toDs xs)
  | .ref _ => .none
  | .glo _ => .none
  | .ty _ => .none
  | .scr _ => .none
def toDs : List Val → List PyData
  | [] => []
  | x :: xs => toD x :: toDs xs
end
mutual
def okV : Val → Bool
  | .non => true
  | .bl _ => true
  | .int _ => true
  | .str x => PyData.strOk x
  | .tup xs => okVs xs
  | .lst xs => okVs xs
  | .ref _ => false
  | .glo _ => false
  | .ty _ => false
  | .scr _ => false
def okVs : List Val → Bool
  | [] => true
  | x :: xs => okV x && okVs xs
end
section
variable {K : PySem.W.Frag} {al B : List Addr} {H : Hp}
mutual
theorem dp_of : ∀ {w : Val} {v : V}, okV w = true → Rep K al B H w v → Dp K H v (toD w)
  | _, _, _, .non => by unfold toD; exact .non
  | _, _, _, .bl b => by unfold toD; exact .bl b
  | _, _, _, .int i => by unfold toD; exact .int i
  | _, _, _, .str x => by unfold toD; exact .str x
  | _, _, o, .tup a _ r => by unfold okV at o; unfold toD; exact .tup (sqT_of a) (dps_of o r)
  | _, _, o, .lst a _ r => by unfold okV at o; unfold toD; exact .lst (SqL.of a.1) (dps_of o r)
  | _, _, o, .ref _ => by unfold okV at o; cases o
  | _, _, o, .glo _ => by unfold okV at o; cases o
  | _, _, o, .ty _ => by unfold okV at o; cases o
  | _, _, o, .scr _ _ => by unfold okV at o; cases o
theorem dps_of : ∀ {w : List Val} {v : List V}, okVs w = true → Reps K al B H w v → DpAll K H v (toDs w)
  | _, _, _, .nil => by unfold toDs; exact .nil
  | _, _, o, .cons a r => by
    unfold okVs at o; unfold toDs
    rw [Bool.and_eq_true] at o
    exact .cons (dp_of o.1 a) (dps_of o.2 r)
end
end
mutual
theorem lay_of : ∀ w : Val, okV w = true → (toD w).canLay0 = true
  | .non, _ => by unfold toD; simp [PyData.canLay0]
  | .bl _, _ => by unfold toD; simp [PyData.canLay0]
  | .int _, _ => by unfold toD; simp [PyData.canLay0]
  | .str x, o => by unfold okV at o; unfold toD; simp [PyData.canLay0, o]
  | .tup xs, o => by unfold okV at o; unfold toD; simp [PyData.canLay0, lays_of xs o]
  | .lst xs, o => by unfold okV at o; unfold toD; simp [PyData.canLay0, lays_of xs o]
  | .ref _, o => by unfold okV at o; cases o
  | .glo _, o => by unfold okV at o; cases o
  | .ty _, o => by unfold okV at o; cases o
  | .scr _, o => by unfold okV at o; cases o
theorem lays_of : ∀ w : List Val, okVs w = true → PyData.canLayAll0 (toDs w) = true
  | [], _ => by unfold toDs; simp [PyData.canLayAll0]
  | x :: xs, o => by
    unfold okVs at o; unfold toDs
    rw [Bool.and_eq_true] at o
    simp [PyData.canLayAll0, lay_of x o.1, lays_of xs o.2]
end
/-- a list of one's own, as it stands -/
def rd (w : Val) (h : HH) : Option Val := match w with
  | .ref n => match h[n]? with
    | some (.lst xs) => some (.lst xs)
    | _ => none
  | w => some w
theorem rd_dp {K : PySem.W.Frag} {al B : List Addr} {H : Hp} {h : HH} {w w' : Val} {v : V} (hr : HR K al B H h) (r : Rep K al B H w v) (e : rd w h = some w') (o : okV w' = true) : Dp K H v (toD w') := by
  cases r with
  | ref q =>
    unfold rd at e
    dsimp only at e
    split at e
    · rename_i e2
      cases e
      cases hr.ob _ _ _ q e2 with
      | lst q _ s =>
        unfold okV at o
        unfold toD
        exact .lst (SqL.of q) (dps_of o s)
    · cases e
  | non => cases e; exact dp_of (al := al) (B := B) o .non
  | bl b => cases e; exact dp_of (al := al) (B := B) o (.bl b)
  | int b => cases e; exact dp_of (al := al) (B := B) o (.int b)
  | str b => cases e; exact dp_of (al := al) (B := B) o (.str b)
  | tup a l s => cases e; exact dp_of o (.tup a l s)
  | lst a l s => cases e; exact dp_of o (.lst a l s)
  | glo => cases e; exact dp_of (al := al) (B := B) o (.glo _)
  | ty => cases e; exact dp_of (al := al) (B := B) o (.ty _)
  | scr a l => cases e; exact dp_of o (.scr a l)
section
variable {X : Cx}
def rEqM (K : PySem.W.Frag) (neg : Bool) : R2 := fun x y H Q => ∃ d e, Dp K H x d ∧ Dp K H y e ∧ d.canLay0 = true ∧ e.canLay0 = true ∧ min d.depth e.depth ≤ 64 ∧ Q (.bl (if neg then !PyData.eqv d e else PyData.eqv d e)) H
theorem op_eqM (hu : X.A.units + 64 < cLine) : OpR X (compareOp .Eq) (rEqM X.K false) := by
  intro pins s σ H x y v u Q I rx ry h
  obtain ⟨d, e, hd, he, sd, se, l, q⟩ := h
  obtain ⟨as, r1⟩ := Dp.reads I d x v hd rx
  obtain ⟨bs, r2⟩ := Dp.reads I e y u he ry
  exact SeqAt.compareEq_reads r1 r2 sd se (by omega) ⟨.bl _, H, I, rfl, q⟩
theorem op_neM (hu : X.A.units + 64 < cLine) : OpR X (compareOp .NotEq) (rEqM X.K true) := by
  intro pins s σ H x y v u Q I rx ry h
  obtain ⟨d, e, hd, he, sd, se, l, q⟩ := h
  obtain ⟨as, r1⟩ := Dp.reads I d x v hd rx
  obtain ⟨bs, r2⟩ := Dp.reads I e y u he ry
  exact SeqAt.compareNe_reads r1 r2 sd se (by omega) ⟨.bl _, H, I, rfl, q⟩
end
/-- scalars that == tells at once -/
def quick : Val → Val → Option Bool
  | .str x, .str y => some (decide (x = y))
  | .int i, .int j => some (decide (i = j))
  | .bl i, .bl j => some (decide (i = j))
  | .non, .non => some true
  | .str _, .int _ => some false
  | .int _, .str _ => some false
  | .str _, .bl _ => some false
  | .bl _, .str _ => some false
  | .str _, .non => some false
  | .non, .str _ => some false
  | .int _, .non => some false
  | .non, .int _ => some false
  | .bl _, .non => some false
  | .non, .bl _ => some false
  | _, _ => none
def veq (w1 w2 : Val) : Option Bool := match quick w1 w2 with
  | some b => some b
  | none => if okV w1 = true ∧ okV w2 = true ∧ min (toD w1).depth (toD w2).depth ≤ 64 then some (PyData.eqv (toD w1) (toD w2)) else none
def bEq (w1 w2 : Val) : M Val := fun h => match rd w1 h, rd w2 h with
  | some a, some b => match veq a b with
    | some k => .ok (.bl k) h
    | none => .bad
  | _, _ => .bad
def bNe (w1 w2 : Val) : M Val := fun h => match rd w1 h, rd w2 h with
  | some a, some b => match veq a b with
    | some k => .ok (.bl (!k)) h
    | none => .bad
  | _, _ => .bad
theorem quick_scal {K : PySem.W.Frag} {al B : List Addr} {H : Hp} {w1 w2 : Val} {v1 v2 : V} {k : Bool} (r1 : Rep K al B H w1 v1) (r2 : Rep K al B H w2 v2) (e : quick w1 w2 = some k) : scal v1 v2 = true ∧ decide (v1 = v2) = k := by
  cases r1 <;> cases r2 <;> first
    | (exfalso; revert e; intro e; cases e; done)
    | (unfold quick at e; cases e; exact ⟨rfl, by simp⟩)
theorem rd_quick {K : PySem.W.Frag} {al B : List Addr} {H : Hp} {h : HH} {w a : Val} {v : V} (hr : HR K al B H h) (r : Rep K al B H w v) (e : rd w h = some a) : a = w ∨ ∃ xs, a = .lst xs := by
  cases r <;> unfold rd at e <;> dsimp only at e <;> first
    | (cases e; exact .inl rfl)
    | (split at e
       · cases e; exact .inr ⟨_, rfl⟩
       · cases e)
theorem quick_lst {xs : List Val} {b : Val} : quick (.lst xs) b = none := by cases b <;> rfl
theorem quick_lst' {xs : List Val} {b : Val} : quick b (.lst xs) = none := by cases b <;> rfl
theorem lk_eq {K : PySem.W.Frag} : Lk2 K bEq (fun x y H Q => rEq x y H Q ∨ rEqM K false x y H Q) := by
  intro W al B sg H h w1 w2 v1 v2 Q hr r1 r2 p
  unfold bEq at p
  cases e1 : rd w1 h with
  | none => rw [e1] at p; exact p.elim
  | some a =>
    cases e2 : rd w2 h with
    | none => rw [e1, e2] at p; exact p.elim
    | some b =>
      rw [e1, e2] at p
      dsimp only at p
      cases e3 : veq a b with
      | none => rw [e3] at p; exact p.elim
      | some k =>
        rw [e3] at p
        have q := Po.now p hr (.bl k)
        unfold veq at e3
        cases e4 : quick a b with
        | some k' =>
          rw [e4] at e3; cases e3
          rcases rd_quick hr r1 e1 with rfl | ⟨xs, rfl⟩
          · rcases rd_quick hr r2 e2 with rfl | ⟨xs, rfl⟩
            · obtain ⟨s, d⟩ := quick_scal r1 r2 e4
              exact .inl ⟨s, by rw [d]; exact q⟩
            · rw [quick_lst'] at e4; cases e4
          · rw [quick_lst] at e4; cases e4
        | none =>
          rw [e4] at e3
          dsimp only at e3
          split at e3
          · rename_i c
            cases e3
            exact .inr ⟨_, _, rd_dp hr r1 e1 c.1, rd_dp hr r2 e2 c.2.1, lay_of _ c.1, lay_of _ c.2.1, c.2.2, q⟩
          · cases e3
theorem lk_ne {K : PySem.W.Frag} : Lk2 K bNe (fun x y H Q => rNe x y H Q ∨ rEqM K true x y H Q) := by
  intro W al B sg H h w1 w2 v1 v2 Q hr r1 r2 p
  unfold bNe at p
  cases e1 : rd w1 h with
  | none => rw [e1] at p; exact p.elim
  | some a =>
    cases e2 : rd w2 h with
    | none => rw [e1, e2] at p; exact p.elim
    | some b =>
      rw [e1, e2] at p
      dsimp only at p
      cases e3 : veq a b with
      | none => rw [e3] at p; exact p.elim
      | some k =>
        rw [e3] at p
        have q := Po.now p hr (.bl (!k))
        unfold veq at e3
        cases e4 : quick a b with
        | some k' =>
          rw [e4] at e3; cases e3
          rcases rd_quick hr r1 e1 with rfl | ⟨xs, rfl⟩
          · rcases rd_quick hr r2 e2 with rfl | ⟨xs, rfl⟩
            · obtain ⟨s, d⟩ := quick_scal r1 r2 e4
              exact .inl ⟨s, by rw [d]; exact q⟩
            · rw [quick_lst'] at e4; cases e4
          · rw [quick_lst] at e4; cases e4
        | none =>
          rw [e4] at e3
          dsimp only at e3
          split at e3
          · rename_i c
            cases e3
            exact .inr ⟨_, _, rd_dp hr r1 e1 c.1, rd_dp hr r2 e2 c.2.1, lay_of _ c.1, lay_of _ c.2.1, c.2.2, q⟩
          · cases e3
end Z
set_option Elab.async false
set_option maxRecDepth 100000
set_option linter.unusedVariables false
/-! Z5: arithmetic, comparisons, subscripts, displays. -/
namespace Z
open PySem PySem.Spec PyProof.Rows L2
section
variable {X : Cx}
def CPowW (i j : Int) : Prop := 0 ≤ j ∧ (Builtin.Int.intBits i : Int) * j ≤ 2 ^ 27
theorem op_powW : OpR X (binaryOp .Pow) (rI CPowW fun i j => .int (i ^ j.toNat)) := opI fun _ _ _ _ _ _ _ hc q => pow_int hc.1 hc.2 q
end
theorem OpR.or3 {X : Cx} {f : Value → Value → Sem Value} {r1 r2 r3 : R2} (h1 : OpR X f r1) (h2 : OpR X f r2) (h3 : OpR X f r3) : OpR X f (fun x y H Q => r1 x y H Q ∨ r2 x y H Q ∨ r3 x y H Q) := h1.or (h2.or h3)
theorem OpR.or4 {X : Cx} {f : Value → Value → Sem Value} {r1 r2 r3 r4 : R2} (h1 : OpR X f r1) (h2 : OpR X f r2) (h3 : OpR X f r3) (h4 : OpR X f r4) : OpR X f (fun x y H Q => r1 x y H Q ∨ r2 x y H Q ∨ r3 x y H Q ∨ r4 x y H Q) := h1.or (h2.or (h3.or h4))
/-- a list of one's own or one that stays -/
def lsts (w : Val) (h : HH) : Option (List Val) := match w with
  | .lst xs => some xs
  | .ref n => match h[n]? with
    | some (.lst xs) => some xs
    | _ => none
  | _ => none
theorem lsts_at {K : PySem.W.Frag} {al B : List Addr} {H : Hp} {h : HH} {w : Val} {v : V} {xs : List Val} (hr : HR K al B H h) (r : Rep K al B H w v) (e : lsts w h = some xs) : ∃ a vs, v = .ref a ∧ H a = some (.lst vs) ∧ xs.length ≤ sizeLine ∧ Reps K al B H xs vs := by
  cases r with
  | lst a l s => cases e; exact ⟨_, _, rfl, a.1, l, s⟩
  | ref q =>
    unfold lsts at e
    dsimp only at e
    split at e
    · rename_i e2
      cases e
      cases hr.ob _ _ _ q e2 with
      | lst q l s => exact ⟨_, _, rfl, q, l, s⟩
    · cases e
  | _ => cases e
def bAdd (w1 w2 : Val) : M Val := fun h => match w1, w2 with
  | .int i, .int j => .ok (.int (i + j)) h
  | .str x, .str y => if x.length + y.length ≤ sizeLine then .ok (.str (x ++ y)) h else .bad
  | .tup xs, .tup ys => if xs.length + ys.length ≤ sizeLine then .ok (.tup (xs ++ ys)) h else .bad
  | w1, w2 => match lsts w1 h, lsts w2 h with
    | some xs, some ys => if xs.length + ys.length ≤ sizeLine then .ok (.lst (xs ++ ys)) h else .bad
    | _, _ => .bad
theorem lk_add {K : PySem.W.Frag} : Lk2 K bAdd (fun x y H Q => rI0 (fun i j => .int (i + j)) x y H Q ∨ (∃ i j, x = .str i ∧ y = .str j ∧ i.length + j.length ≤ sizeLine ∧ Q (.str (i ++ j)) H) ∨ rCatF K x y H Q ∨ rCat x y H Q) := by
  intro W al B sg H h w1 w2 v1 v2 Q hr r1 r2 p
  have L : ∀ xs ys, lsts w1 h = some xs → lsts w2 h = some ys → xs.length + ys.length ≤ sizeLine → Po K B (fun al H => Rep K al B H) sg al H (.ok (.lst (xs ++ ys)) h) W Q → rCat v1 v2 H Q := by
    intro xs ys e1 e2 l p
    obtain ⟨a, vs, rfl, q1, _, s1⟩ := lsts_at hr r1 e1
    obtain ⟨b, us, rfl, q2, _, s2⟩ := lsts_at hr r2 e2
    refine ⟨a, b, vs, us, rfl, rfl, q1, q2, by rw [← s1.length, ← s2.length]; exact l, fun z hz => ?_⟩
    exact p _ _ _ (Stp.lay hz) (hr.lay hz) (.lst (At1.lay hr hz) (by rw [List.length_append]; exact l) ((s1.append s2).step (Stp.lay hz)))
  have E : ∀ {o : Out Val}, o = (match lsts w1 h, lsts w2 h with
    | some xs, some ys => if xs.length + ys.length ≤ sizeLine then .ok (.lst (xs ++ ys)) h else .bad
    | _, _ => .bad) → Po K B (fun al H => Rep K al B H) sg al H o W Q → rCat v1 v2 H Q := by
    intro o eo p
    cases e1 : lsts w1 h with
    | none => rw [e1] at eo; rw [eo] at p; exact p.elim
    | some xs =>
      cases e2 : lsts w2 h with
      | none => rw [e1, e2] at eo; rw [eo] at p; exact p.elim
      | some ys =>
        rw [e1, e2] at eo
        dsimp only at eo
        split at eo
        · rename_i l; rw [eo] at p; exact L xs ys e1 e2 l p
        · rw [eo] at p; exact p.elim
  unfold bAdd at p
  split at p
  · cases r1; cases r2; exact .inl ⟨_, _, rfl, rfl, Po.now p hr (.int _)⟩
  · cases r1; cases r2
    split at p
    · rename_i l; exact .inr (.inl ⟨_, _, rfl, rfl, l, Po.now p hr (.str _)⟩)
    · exact p.elim
  · cases r1 with
    | tup a1 l1 s1 =>
      cases r2 with
      | tup a2 l2 s2 =>
        split at p
        · rename_i l
          refine .inr (.inr (.inl ⟨_, _, _, _, rfl, rfl, sqT_of a1, sqT_of a2, by rw [← s1.length, ← s2.length]; exact l, fun e => ?_, fun _ e => ?_, fun _ _ z u hz hu => ?_⟩))
          · subst e; cases s1
            exact Po.now p hr (by rw [List.nil_append]; exact .tup a2 l2 s2)
          · subst e; cases s2
            exact Po.now p hr (by rw [List.append_nil]; exact .tup a1 l1 s1)
          · exact p _ _ _ (Stp.lay hz) (hr.lay hz) (.tup (.inl (AtT.lay hr hz hu)) (by rw [List.length_append]; exact l) ((s1.append s2).step (Stp.lay hz)))
        · exact p.elim
  · exact .inr (.inr (.inr (E rfl p)))
def bSub (w1 w2 : Val) : M Val := fun h => match w1, w2 with
  | .int i, .int j => .ok (.int (i - j)) h
  | _, _ => .bad
theorem lk_sub {K : PySem.W.Frag} : Lk2 K bSub (rI0 (fun i j => .int (i - j))) := by
  intro W al B sg H h w1 w2 v1 v2 Q hr r1 r2 p
  unfold bSub at p
  split at p
  · cases r1; cases r2; exact ⟨_, _, rfl, rfl, Po.now p hr (.int _)⟩
  · exact p.elim
instance {i j : Int} : Decidable (CMul i j) := inferInstanceAs (Decidable (_ ∨ _))
instance {i j : Int} : Decidable (CMulW i j) := inferInstanceAs (Decidable (_ < _))
instance {i j : Int} : Decidable (CPowW i j) := inferInstanceAs (Decidable (_ ∧ _))
instance {i j : Int} : Decidable (CDivW i j) := inferInstanceAs (Decidable (_ ∧ _))
instance {i j : Int} : Decidable (CDivN i j) := inferInstanceAs (Decidable (_ ∧ _))
def bMul (w1 w2 : Val) : M Val := fun h => match w1, w2 with
  | .int i, .int j => if CMul i j then .ok (.int (i * j)) h else if CMulW i j then .ok (.int (i * j)) h else .bad
  | _, _ => .bad
theorem lk_mul {K : PySem.W.Frag} : Lk2 K bMul (fun x y H Q => rI CMul (fun i j => .int (i * j)) x y H Q ∨ rI CMulW (fun i j => .int (i * j)) x y H Q) := by
  intro W al B sg H h w1 w2 v1 v2 Q hr r1 r2 p
  unfold bMul at p
  split at p
  · cases r1; cases r2
    split at p
    · rename_i c; exact .inl ⟨_, _, rfl, rfl, c, Po.now p hr (.int _)⟩
    · split at p
      · rename_i c; exact .inr ⟨_, _, rfl, rfl, c, Po.now p hr (.int _)⟩
      · exact p.elim
  · exact p.elim
def bPow (w1 w2 : Val) : M Val := fun h => match w1, w2 with
  | .int i, .int j => if CPowW i j then .ok (.int (i ^ j.toNat)) h else .bad
  | _, _ => .bad
theorem lk_pow {K : PySem.W.Frag} : Lk2 K bPow (rI CPowW (fun i j => .int (i ^ j.toNat))) := by
  intro W al B sg H h w1 w2 v1 v2 Q hr r1 r2 p
  unfold bPow at p
  split at p
  · cases r1; cases r2
    split at p
    · rename_i c; exact ⟨_, _, rfl, rfl, c, Po.now p hr (.int _)⟩
    · exact p.elim
  · exact p.elim
def bDiv (w1 w2 : Val) : M Val := fun h => match w1, w2 with
  | .int i, .int j => if CDivW i j then .ok (.int (i / j)) h else if CDivN i j then .ok (.int (i.fdiv j)) h else .bad
  | _, _ => .bad
theorem lk_div {K : PySem.W.Frag} : Lk2 K bDiv (fun x y H Q => rI CDivW (fun i j => .int (i / j)) x y H Q ∨ rI CDivN (fun i j => .int (i.fdiv j)) x y H Q) := by
  intro W al B sg H h w1 w2 v1 v2 Q hr r1 r2 p
  unfold bDiv at p
  split at p
  · cases r1; cases r2
    split at p
    · rename_i c; exact .inl ⟨_, _, rfl, rfl, c, Po.now p hr (.int _)⟩
    · split at p
      · rename_i c; exact .inr ⟨_, _, rfl, rfl, c, Po.now p hr (.int _)⟩
      · exact p.elim
  · exact p.elim
def bMod (w1 w2 : Val) : M Val := fun h => match w1, w2 with
  | .int i, .int j => if 0 < j then .ok (.int (i % j)) h else if j ≠ 0 then .ok (.int (i.fmod j)) h else .bad
  | _, _ => .bad
theorem lk_mod {K : PySem.W.Frag} : Lk2 K bMod (fun x y H Q => rI (fun _ j => 0 < j) (fun i j => .int (i % j)) x y H Q ∨ rI (fun _ j => j ≠ 0) (fun i j => .int (i.fmod j)) x y H Q) := by
  intro W al B sg H h w1 w2 v1 v2 Q hr r1 r2 p
  unfold bMod at p
  split at p
  · cases r1; cases r2
    split at p
    · rename_i c; exact .inl ⟨_, _, rfl, rfl, c, Po.now p hr (.int _)⟩
    · split at p
      · rename_i c; exact .inr ⟨_, _, rfl, rfl, c, Po.now p hr (.int _)⟩
      · exact p.elim
  · exact p.elim
def uNeg (w : Val) : M Val := fun h => match w with
  | .int i => .ok (.int (-i)) h
  | _ => .bad
theorem lk_neg {K : PySem.W.Frag} : Lk1 K uNeg (rU fun i => .int (-i)) := by
  intro W al B sg H h w v Q hr r p
  unfold uNeg at p
  split at p
  · cases r; exact ⟨_, rfl, Po.now p hr (.int _)⟩
  · exact p.elim
/-! ### order -/
def bOrd (f : Int → Int → Bool) (w1 w2 : Val) : M Val := fun h => match w1, w2 with
  | .int i, .int j => .ok (.bl (f i j)) h
  | _, _ => .bad
theorem lk_ord {K : PySem.W.Frag} {f : Int → Int → Bool} : Lk2 K (bOrd f) (rI0 fun i j => .bl (f i j)) := by
  intro W al B sg H h w1 w2 v1 v2 Q hr r1 r2 p
  unfold bOrd at p
  split at p
  · cases r1; cases r2; exact ⟨_, _, rfl, rfl, Po.now p hr (.bl _)⟩
  · exact p.elim
/-! ### is None -/
def bIs (neg : Bool) (w1 w2 : Val) : M Val := fun h => match w2 with
  | .non => match w1 with
    | .non => .ok (.bl (!neg)) h
    | _ => .ok (.bl neg) h
  | _ => .bad
theorem lk_is {K : PySem.W.Frag} : Lk2 K (bIs false) (fun x y H Q => y = .non ∧ Q (.bl (decide (x = .non))) H) := by
  intro W al B sg H h w1 w2 v1 v2 Q hr r1 r2 p
  unfold bIs at p
  split at p
  · cases r2
    refine ⟨rfl, ?_⟩
    cases r1 <;> exact Po.now p hr (.bl _)
  · exact p.elim
theorem lk_isnot {K : PySem.W.Frag} : Lk2 K (bIs true) (fun x y H Q => y = .non ∧ Q (.bl (!decide (x = .non))) H) := by
  intro W al B sg H h w1 w2 v1 v2 Q hr r1 r2 p
  unfold bIs at p
  split at p
  · cases r2
    refine ⟨rfl, ?_⟩
    cases r1 <;> exact Po.now p hr (.bl _)
  · exact p.elim
/-! ### in: flat things, or one text in another -/
def flat : Val → Bool
  | .non => true
  | .bl _ => true
  | .int _ => true
  | .str _ => true
  | _ => false
def eqF : Val → Val → Bool
  | .non, .non => true
  | .bl a, .bl b => a == b
  | .bl a, .int b => (if a then 1 else 0) == b
  | .int a, .bl b => a == (if b then 1 else 0)
  | .int a, .int b => a == b
  | .str a, .str b => a == b
  | _, _ => false
def bIn (neg : Bool) (w1 w2 : Val) : M Val := fun h => match w1, w2 with
  | .str x, .str y => if neg then .ok (.bl (!(!(Builtin.Str.occurrences y x 0 y.length 1).isEmpty))) h else .ok (.bl (!(Builtin.Str.occurrences y x 0 y.length 1).isEmpty)) h
  | w1, w2 => match items w2 h with
    | some xs => if flat w1 = true ∧ xs.all flat = true then .ok (.bl (if neg then !(xs.any fun y => eqF y w1) else xs.any fun y => eqF y w1)) h else .bad
    | none => .bad
theorem flat_rep {K : PySem.W.Frag} {al B : List Addr} {H : Hp} {w : Val} {v : V} (r : Rep K al B H w v) (f : flat w = true) : flatV v = true := by cases r <;> first | rfl | (revert f; intro f; cases f)
theorem flats_rep {K : PySem.W.Frag} {al B : List Addr} {H : Hp} : ∀ {xs : List Val} {vs : List V}, Reps K al B H xs vs → xs.all flat = true → vs.all flatV = true
  | _, _, .nil, _ => rfl
  | _, _, .cons a r, f => by
    rw [List.all_cons, Bool.and_eq_true] at f ⊢
    exact ⟨flat_rep a f.1, flats_rep r f.2⟩
theorem eqF_rep {K : PySem.W.Frag} {al B : List Addr} {H : Hp} {w1 w2 : Val} {v1 v2 : V} (r1 : Rep K al B H w1 v1) (r2 : Rep K al B H w2 v2) (f1 : flat w1 = true) (f2 : flat w2 = true) : eqV v1 v2 = eqF w1 w2 := by
  cases r1 <;> cases r2 <;> first | rfl | (revert f1; intro f1; cases f1; done) | (revert f2; intro f2; cases f2; done)
theorem any_rep {K : PySem.W.Frag} {al B : List Addr} {H : Hp} {w : Val} {v : V} (r : Rep K al B H w v) (f : flat w = true) : ∀ {xs : List Val} {vs : List V}, Reps K al B H xs vs → xs.all flat = true → inV v vs = xs.any fun y => eqF y w
  | _, _, .nil, _ => rfl
  | _, _, .cons a q, g => by
    rw [List.all_cons, Bool.and_eq_true] at g
    have := any_rep r f q g.2
    unfold inV at this ⊢
    rw [List.any_cons, List.any_cons, eqF_rep a r g.1 f, this]
theorem lk_in {K : PySem.W.Frag} (neg : Bool) : Lk2 K (bIn neg) (fun x y H Q => (∃ i j, x = .str i ∧ y = .str j ∧ Q (.bl (if neg then !(!(Builtin.Str.occurrences j i 0 j.length 1).isEmpty) else !(Builtin.Str.occurrences j i 0 j.length 1).isEmpty)) H) ∨ rIn K neg x y H Q) := by
  intro W al B sg H h w1 w2 v1 v2 Q hr r1 r2 p
  unfold bIn at p
  split at p
  · cases r1; cases r2
    refine .inl ⟨_, _, rfl, rfl, ?_⟩
    cases neg <;> exact Po.now p hr (.bl _)
  · cases e : items w2 h with
    | none => rw [e] at p; exact p.elim
    | some xs =>
      rw [e] at p
      dsimp only at p
      obtain ⟨a, vs, rfl, q, s⟩ := items_sq hr r2 e
      split at p
      · rename_i c
        refine .inr ⟨a, vs, rfl, q, flat_rep r1 c.1, flats_rep s c.2, ?_⟩
        rw [any_rep r1 c.1 s c.2]
        exact Po.now p hr (.bl _)
      · exact p.elim
theorem op_inZ {X : Cx} : OpR X (compareOp .In) (fun x y H Q => (∃ i j, x = .str i ∧ y = .str j ∧ Q (.bl (if false then !(!(Builtin.Str.occurrences j i 0 j.length 1).isEmpty) else !(Builtin.Str.occurrences j i 0 j.length 1).isEmpty)) H) ∨ rIn X.K false x y H Q) := OpR.or (r := fun x y H Q => ∃ i j, x = .str i ∧ y = .str j ∧ Q (.bl (!(Builtin.Str.occurrences j i 0 j.length 1).isEmpty)) H) op_in_str op_in_seq
theorem op_notInZ {X : Cx} : OpR X (compareOp .NotIn) (fun x y H Q => (∃ i j, x = .str i ∧ y = .str j ∧ Q (.bl (if true then !(!(Builtin.Str.occurrences j i 0 j.length 1).isEmpty) else !(Builtin.Str.occurrences j i 0 j.length 1).isEmpty)) H) ∨ rIn X.K true x y H Q) := OpR.or (r := fun x y H Q => ∃ i j, x = .str i ∧ y = .str j ∧ Q (.bl (!(!(Builtin.Str.occurrences j i 0 j.length 1).isEmpty))) H) op_notIn_str op_notIn_seq
/-! ### a[i] -/
def bIx (w1 w2 : Val) : M Val := fun h => match w1, w2 with
  | .str z, .int i => if z.length ≤ sizeLine then (match atI z.cps.toList i with
    | some c => .ok (.str ⟨#[c]⟩) h
    | none => .bad) else .bad
  | w1, .int i => match items w1 h with
    | some xs => match atI xs i with
      | some w => .ok w h
      | none => .bad
    | none => .bad
  | _, _ => .bad
theorem Reps.atI {K : PySem.W.Frag} {al B : List Addr} {H : Hp} {xs : List Val} {vs : List V} {i : Int} {w : Val} (r : Reps K al B H xs vs) (e : atI xs i = some w) : ∃ v, L2.atI vs i = some v ∧ Rep K al B H w v := by
  unfold L2.atI at e ⊢
  rw [← r.length]
  cases e2 : ixN xs.length i with
  | none => rw [e2] at e; cases e
  | some j =>
    rw [e2] at e
    exact r.get e
theorem lk_ix {K : PySem.W.Frag} : Lk2 K bIx (rIx K) := by
  intro W al B sg H h w1 w2 v1 v2 Q hr r1 r2 p
  unfold bIx at p
  split at p
  · cases r1; cases r2
    split at p
    · rename_i l
      split at p
      · rename_i e
        exact .inr (.inr ⟨_, _, _, rfl, rfl, l, e, Po.now p hr (.str _)⟩)
      · exact p.elim
    · exact p.elim
  · cases r2
    split at p
    · rename_i xs e
      split at p
      · rename_i w e2
        obtain ⟨a, vs, rfl, q, s⟩ := items_sq hr r1 e
        obtain ⟨v, e3, r3⟩ := s.atI e2
        rcases q with q | q
        · exact .inl ⟨_, _, _, _, rfl, rfl, q, e3, Po.now p hr r3⟩
        · exact .inr (.inl ⟨_, _, _, _, rfl, rfl, q, e3, Po.now p hr r3⟩)
      · exact p.elim
    · exact p.elim
  · exact p.elim
/-! ### a[i:j] -/
abbrev SO' := En → M (Option Int)
def tO (K : PySem.W.Frag) (W : WX) (m : SO') : TO := fun sg H Q => ∃ al B ro h, Sim K al B ro h sg H ∧ Po K B (fun _ _ a b => a = b) sg al H (m ro h) W Q
def oNone : SO' := fun _ => ret none
def oSome (m : SE) : SO' := fun ro => bind (m ro) fun w => match w with
  | .int i => ret (some i)
  | _ => fail
section
variable {X : Cx} {W : WX} {e a : Expr} {m : SE} {lo hi : Option Expr} {ml mh : SO'} {pos p2 : Pos}
theorem PO.weak {e : Option Expr} {t t' : TO} (h : PO X e t) (i : ∀ sg H Q, t' sg H Q → t sg H Q) : PO X e t' := ⟨fun pins s sg H Q I q => h.run pins s sg H Q I (i _ _ _ q)⟩
theorem oo_none : PO X none (tO X.K W oNone) := by
  refine PO.weak po_none ?_
  rintro sg H Q ⟨al, B, ro, h, S, p⟩
  exact Po.now p S.hr rfl
theorem oo_some (he : PE X e (tE X.K W m)) : PO X (some e) (tO X.K W (oSome m)) := by
  refine PO.weak (po_some he) ?_
  rintro sg H Q ⟨al, B, ro, h, S, p⟩
  refine ⟨al, B, ro, h, S, Po.mono (Po.bind p) fun v1 H1 ⟨al1, h1, w1, st1, hr1, r1, p1⟩ => ?_⟩
  cases r1 <;> first | exact p1.elim | exact ⟨_, rfl, Po.now p1 hr1 rfl⟩
def cutW {β : Type} (xs : List β) (lo hi : Option Int) : List β := (xs.drop (HT.sIx xs.length 0 lo)).take (HT.sIx xs.length xs.length hi - HT.sIx xs.length 0 lo)
def bSl (w : Val) (lo hi : Option Int) : M Val := fun h => match w with
  | .tup xs => .ok (.tup (cutW xs lo hi)) h
  | .str z => if z.length ≤ sizeLine then .ok (.str (cutS z lo hi)) h else .bad
  | w => match lsts w h with
    | some xs => .ok (.lst (cutW xs lo hi)) h
    | none => .bad
def sSl (m : SE) (ml mh : SO') : SE := fun ro => bind (m ro) fun w => bind (ml ro) fun l => bind (mh ro) fun u => bSl w l u
theorem Reps.cut {K : PySem.W.Frag} {al B : List Addr} {H : Hp} {xs : List Val} {vs : List V} {lo hi : Option Int} (r : Reps K al B H xs vs) : Reps K al B H (cutW xs lo hi) (cutV vs lo hi) := by
  unfold cutW cutV
  rw [← r.length]
  exact (r.drop _).take _
theorem cut_whole {β : Type} {xs : List β} {lo hi : Option Int} (h : HT.sIx xs.length 0 lo = 0 ∧ HT.sIx xs.length xs.length hi = xs.length) : cutW xs lo hi = xs := by
  unfold cutW
  rw [h.1, h.2]
  simp
theorem cutW_len {β : Type} {xs : List β} {lo hi : Option Int} {n : Nat} (h : xs.length ≤ n) : (cutW xs lo hi).length ≤ n := by
  unfold cutW
  rw [List.length_take, List.length_drop]
  omega
theorem oe_sl (ha : PE X a (tE X.K W m)) (hl : PO X lo (tO X.K W ml)) (hu : PO X hi (tO X.K W mh)) : PE X (.Subscript a (.Slice lo hi none p2) pos) (tE X.K W (sSl m ml mh)) := by
  refine PE.weak (pe_slice (SlR.or sl_tupF (SlR.or sl_str sl_list)) ha hl hu) ?_
  rintro sg H Q ⟨al, B, ro, h, S, p⟩
  refine ⟨al, B, ro, h, S, Po.mono (Po.bind p) fun v1 H1 ⟨al1, h1, w1, st1, hr1, r1, p1⟩ => ?_⟩
  refine ⟨al1, B, ro, h1, S.step st1 hr1, Po.mono (Po.bind p1) fun l H2 ⟨al2, h2, w2, st2, hr2, r2, p2⟩ => ?_⟩
  subst r2
  refine ⟨al2, B, ro, h2, (S.step st1 hr1).step st2 hr2, Po.mono (Po.bind p2) fun u H3 ⟨al3, h3, w3, st3, hr3, r3, p3⟩ => ?_⟩
  subst r3
  have r := (r1.step st2).step st3
  unfold bSl at p3
  split at p3
  · cases r with
    | tup a l s =>
      refine .inl ⟨_, _, rfl, sqT_of a, fun z => ?_, fun z q u hq hu => ?_⟩
      · refine Po.now p3 hr3 ?_
        rw [cut_whole (by rw [s.length]; exact z)]
        exact .tup a l s
      · exact p3 _ _ _ (Stp.lay hq) (hr3.lay hq) (.tup (.inl (AtT.lay hr3 hq hu)) (cutW_len l) (s.cut.step (Stp.lay hq)))
  · cases r
    split at p3
    · rename_i l
      exact .inr (.inl ⟨_, rfl, l, Po.now p3 hr3 (.str _)⟩)
    · exact p3.elim
  · split at p3
    · rename_i e
      obtain ⟨a, vs, rfl, q, l, s⟩ := lsts_at hr3 r e
      exact .inr (.inr ⟨a, vs, rfl, SqL.of q, fun q hq => p3 _ _ _ (Stp.lay hq) (hr3.lay hq) (.lst (At1.lay hr3 hq) (cutW_len l) (s.cut.step (Stp.lay hq)))⟩)
    · exact p3.elim
end
/-! ### displays -/
def fTup (ws : List Val) : M Val := fun h => if ws.length ≤ sizeLine then .ok (.tup ws) h else .bad
def fLst (ws : List Val) : M Val := fun h => if ws.length ≤ sizeLine then .ok (.lst ws) h else .bad
def fNew (ws : List Val) : M Val := fun h => if ws.length ≤ sizeLine then .ok (.ref h.length) (h ++ [.lst ws]) else .bad
section
variable {X : Cx} {W : WX} {es : List Expr} {r : En → M (List Val)} {pos : Pos}
theorem oe_tup {x1 : Nat} (ha : PA X es (tA X.K W r)) : PE X (.Tuple es x1 pos) (tE X.K W (sArgs fTup r)) := by
  refine PE.weak (pe_tupF ha) ?_
  rintro sg H Q ⟨al, B, ro, h, S, p⟩
  refine ⟨al, B, ro, h, S, Po.mono (Po.bind p) fun v1 H1 ⟨al1, h1, w1, st1, hr1, r1, p1⟩ => ?_⟩
  unfold fTup at p1
  split at p1
  · rename_i l
    exact ⟨by rw [← r1.length]; exact l, fun z u hz hu => p1 _ _ _ (Stp.lay hz) (hr1.lay hz) (.tup (.inl (AtT.lay hr1 hz hu)) l (r1.step (Stp.lay hz)))⟩
  · exact p1.elim
theorem oe_lst (ha : PA X es (tA X.K W r)) : PE X (.List es pos) (tE X.K W (sArgs fLst r)) := by
  refine PE.weak (pe_lst ha) ?_
  rintro sg H Q ⟨al, B, ro, h, S, p⟩
  refine ⟨al, B, ro, h, S, Po.mono (Po.bind p) fun v1 H1 ⟨al1, h1, w1, st1, hr1, r1, p1⟩ => ?_⟩
  unfold fLst at p1
  split at p1
  · rename_i l
    exact ⟨by rw [← r1.length]; exact l, fun z hz => p1 _ _ _ (Stp.lay hz) (hr1.lay hz) (.lst (At1.lay hr1 hz) l (r1.step (Stp.lay hz)))⟩
  · exact p1.elim
theorem ref_new {K : PySem.W.Frag} {al B : List Addr} {H : Hp} {h : HH} (x : HR K al B H h) {p : Addr} : Rep K (al ++ [p]) B H (.ref h.length) (.ref p) := .ref (by rw [← x.len, List.getElem?_concat_length])
theorem oe_new (ha : PA X es (tA X.K W r)) : PE X (.List es pos) (tE X.K W (sArgs fNew r)) := by
  refine PE.weak (pe_lst ha) ?_
  rintro sg H Q ⟨al, B, ro, h, S, p⟩
  refine ⟨al, B, ro, h, S, Po.mono (Po.bind p) fun v1 H1 ⟨al1, h1, w1, st1, hr1, r1, p1⟩ => ?_⟩
  unfold fNew at p1
  split at p1
  · rename_i l
    refine ⟨by rw [← r1.length]; exact l, fun z hz => p1 _ _ _ (Stp.new hz) (hr1.new hz (.lst upd_same l (r1.step (Stp.new hz)))) ?_⟩
    exact .ref (by rw [← hr1.len, List.getElem?_concat_length])
  · exact p1.elim
end
end Z
set_option Elab.async false
set_option maxRecDepth 100000
set_option linter.unusedVariables false
/-! Z6: what loops walk. -/
namespace Z
open PySem PySem.Spec PyProof.Rows L2
section
variable {X : Cx} {tg e : Expr}
theorem PI.weak {t t' : TI} (h : PI X tg e t) (i : ∀ sg H R, t' sg H R → t sg H R) : PI X tg e t' := ⟨fun pins s sg H R I q => h.run pins s sg H R I (i _ _ _ q)⟩
theorem PI.or {t t' : TI} (h : PI X tg e t) (h' : PI X tg e t') : PI X tg e (fun sg H R => t sg H R ∨ t' sg H R) := ⟨fun pins s sg H R I q => q.elim (h.run pins s sg H R I) (h'.run pins s sg H R I)⟩
end
def signs (x : Str) : List Val := x.cps.toList.map fun c => .str ⟨#[c]⟩
def itmV (w : Val) : M (Itm × Nat) := fun h => match w with
  | .tup xs => .ok (.st xs, xs.length) h
  | .lst xs => .ok (.st xs, xs.length) h
  | .scr ns => .ok (.st (ns.map Val.int), ns.length) h
  | .str x => if x.length ≤ sizeLine then .ok (.st (signs x), x.length) h else .bad
  | .ref n => match h[n]? with
    | some (.lst xs) => .ok (.dyn n, xs.length) h
    | _ => .bad
  | _ => .bad
def iVal (m : SE) : SI := fun ro => bind (m ro) itmV
section
variable {K : PySem.W.Frag} {al B : List Addr} {H : Hp}
theorem itR_seq {J : It} {xs : List Val} {vs : List V} (r : Reps K al B H xs vs)
    (hJ : ∀ al' H', StpB B al H al' H' → (∀ i, vs.length ≤ i → J.stop i H') ∧ ∀ i v, vs[i]? = some v → J.go i H' ∧ ∀ y H'', J.yld i H' y H'' → H'' = H' ∧ y = v) : ItR K B J (.st xs) al H := by
  intro al' B' H' h' st hB hr i
  obtain ⟨j1, j2⟩ := hJ al' H' st
  refine ⟨fun e => j1 i ?_, fun w e => ?_⟩
  · rw [← r.length]
    have e : some xs[i]? = some none := e
    exact List.getElem?_eq_none_iff.mp (Option.some.inj e)
  · have e : some xs[i]? = some (some w) := e
    obtain ⟨v, e1, rv⟩ := r.get (Option.some.inj e)
    obtain ⟨g1, g2⟩ := j2 i v e1
    refine ⟨g1, fun y H'' yy => ?_⟩
    obtain ⟨rfl, rfl⟩ := g2 y H'' yy
    exact ⟨Stp.refl _ _, hr, rv.stepB st hB⟩
theorem sqL_one {K : PySem.W.Frag} {H : Hp} {a : Addr} {o : Obj} {xs ys : List V} (h1 : H a = some (.lst xs)) (h2 : SqL K H a ys) : True := trivial
theorem itR_lst {a : Addr} {xs : List Val} {vs : List V} (h : ∀ al' H', StpB B al H al' H' → SqL K H' a vs ∧ ∀ ys, SqL K H' a ys → ys = vs) (r : Reps K al B H xs vs) : ItR K B (Itl K a) (.st xs) al H := by
  refine itR_seq r fun al' H' st => ?_
  obtain ⟨q, u⟩ := h al' H' st
  exact ⟨fun i l => ⟨vs, q, l⟩, fun i v e => ⟨⟨vs, v, q, e⟩, fun y H'' ⟨e1, e2⟩ => ⟨e1, by have := e2 vs q; rw [e] at this; exact (Option.some.inj this).symm⟩⟩⟩
theorem itR_tup {a : Addr} {xs : List Val} {vs : List V} (h : ∀ al' H', StpB B al H al' H' → SqT K H' a vs) (r : Reps K al B H xs vs) : ItR K B (Itt K a) (.st xs) al H := by
  refine itR_seq r fun al' H' st => ?_
  have q := h al' H' st
  exact ⟨fun i l => ⟨vs, q, l⟩, fun i v e => ⟨⟨vs, v, q, e⟩, fun y H'' ⟨e1, e2⟩ => ⟨e1, by have := e2 vs q; rw [e] at this; exact (Option.some.inj this).symm⟩⟩⟩
theorem itR_lst' {a : Addr} {xs : List Val} {vs : List V} (h : ∀ al' H', StpB B al H al' H' → SqL K H' a vs) (r : Reps K al B H xs vs) : ItR K B (Itl K a) (.st xs) al H := by
  refine itR_seq r fun al' H' st => ?_
  have q := h al' H' st
  exact ⟨fun i l => ⟨vs, q, l⟩, fun i v e => ⟨⟨vs, v, q, e⟩, fun y H'' ⟨e1, e2⟩ => ⟨e1, by have := e2 vs q; rw [e] at this; exact (Option.some.inj this).symm⟩⟩⟩
theorem Reps.signs : ∀ cs : List Nat, Reps K al B H (cs.map fun c => Val.str ⟨#[c]⟩) (cs.map fun c => V.str ⟨#[c]⟩)
  | [] => .nil
  | c :: cs => .cons (.str _) (Reps.signs cs)
theorem itR_str {x : Str} : ItR K B (Its x) (.st (signs x)) al H := by
  refine itR_seq (Reps.signs x.cps.toList) fun al' H' st => ⟨fun i l => ?_, fun i v e => ?_⟩
  · show x.cps.size ≤ i
    rw [List.length_map, Array.length_toList] at l
    exact l
  · rw [List.getElem?_map] at e
    obtain ⟨c, hc, rfl⟩ := Option.map_eq_some_iff.mp e
    rw [Array.getElem?_toList] at hc
    refine ⟨?_, fun y H'' ⟨e1, d, hd, e2⟩ => ⟨e1, ?_⟩⟩
    · show i < x.cps.size
      exact (Array.getElem?_eq_some_iff.mp hc).1
    · rw [hc] at hd
      cases hd
      exact e2
theorem itR_dyn {n : Nat} {a : Addr} (e : al[n]? = some a) : ItR K B (Itl K a) (.dyn n) al H := by
  intro al' B' H' h' st hB hr i
  have e' := st.get e
  unfold nxt
  dsimp only
  cases e2 : h'[n]? with
  | none => exact ⟨fun z => by simp at z, fun w z => by simp at z⟩
  | some o =>
    cases o with
    | lst xs =>
      cases hr.ob _ _ _ e' e2 with
      | @lst _ _ vs q _ s =>
      refine ⟨fun z => ⟨vs, SqL.of q, ?_⟩, fun w z => ?_⟩
      · rw [← s.length]
        exact List.getElem?_eq_none_iff.mp (Option.some.inj z)
      · obtain ⟨v, e1, rv⟩ := s.get (Option.some.inj z)
        refine ⟨⟨vs, v, SqL.of q, e1⟩, fun y H'' ⟨z1, z2⟩ => ?_⟩
        subst z1
        have := z2 vs (SqL.of q)
        rw [e1] at this
        cases this
        exact ⟨Stp.refl _ _, hr, rv⟩
    | dic _ => exact ⟨fun z => by simp at z, fun w z => by simp at z⟩
    | ins _ _ => exact ⟨fun z => by simp at z, fun w z => by simp at z⟩
def nums (lo : Int) (n : Nat) : List Val := (List.range n).map fun (k : Nat) => .int (lo + k)
def numsDn (lo : Int) (n : Nat) : List Val := (List.range n).map fun (k : Nat) => .int (lo + (k : Nat) * (-1))
theorem Reps.map {γ : Type} {f : γ → Val} {g : γ → V} (h : ∀ c, Rep K al B H (f c) (g c)) : ∀ cs : List γ, Reps K al B H (cs.map f) (cs.map g)
  | [] => .nil
  | c :: cs => .cons (h c) (Reps.map h cs)
theorem itR_rng {lo : Int} {n : Nat} : ItR K B (Itr lo n) (.st (nums lo n)) al H := by
  refine itR_seq (Reps.map (g := fun (k : Nat) => V.int (lo + k)) (fun c => .int _) (List.range n)) fun al' H' st => ⟨fun i l => ?_, fun i v e => ?_⟩
  · show n ≤ i
    simpa using l
  · rw [List.getElem?_map] at e
    obtain ⟨c, hc, rfl⟩ := Option.map_eq_some_iff.mp e
    obtain ⟨l, rfl⟩ := List.getElem?_eq_some_iff.mp hc
    simp at l
    refine ⟨l, fun y H'' ⟨e1, e2⟩ => ⟨e1, ?_⟩⟩
    rw [e2]; simp
theorem itR_dn {lo : Int} {n : Nat} : ItR K B (Itc lo (-1) n) (.st (numsDn lo n)) al H := by
  refine itR_seq (Reps.map (g := fun (k : Nat) => V.int (lo + (k : Nat) * (-1))) (fun c => .int _) (List.range n)) fun al' H' st => ⟨fun i l => ?_, fun i v e => ?_⟩
  · show n ≤ i
    simpa using l
  · rw [List.getElem?_map] at e
    obtain ⟨c, hc, rfl⟩ := Option.map_eq_some_iff.mp e
    obtain ⟨l, rfl⟩ := List.getElem?_eq_some_iff.mp hc
    simp at l
    refine ⟨l, fun y H'' ⟨e1, e2⟩ => ⟨e1, ?_⟩⟩
    rw [e2]; simp
end
section
variable {X : Cx} {W : WX} {tg e : Expr} {m : SE}
theorem oi_val (he : PE X e (tE X.K W m)) : PI X tg e (tI X.K W (iVal m)) := by
  refine PI.weak (PI.or (pi_list he) (PI.or (pi_tup he) (pi_str he))) ?_
  rintro sg H R ⟨al, B, ro, h, S, p⟩
  unfold iVal at p
  change Po _ _ _ _ _ _ (obind (m ro h) itmV) _ _ at p
  cases e1 : m ro h with
  | bad => rw [e1] at p; exact p.elim
  | ex ee h1 => rw [e1] at p; exact .inl ⟨al, B, ro, h, S, by rw [e1]; exact p⟩
  | ok w h1 =>
    rw [e1, obind_ok] at p
    cases w with
    | tup xs =>
      refine .inr (.inl ⟨al, B, ro, h, S, ?_⟩)
      rw [e1]
      intro al' H' v st hr r
      cases r with
      | @tup a _ vs at' l s => exact ⟨a, rfl, ⟨vs, sqT_of at'⟩, p al' H' _ st hr ⟨itR_tup (fun al2 H2 st2 => sqT_of (B := B) (at'.imp (AtT.stepB st2 fun _ hb => .inl hb) id)) s, l⟩⟩
    | lst xs =>
      refine .inl ⟨al, B, ro, h, S, ?_⟩
      rw [e1]
      intro al' H' v st hr r
      cases r with
      | @lst a _ vs at' l s => exact ⟨a, rfl, ⟨vs, SqL.of at'.1⟩, p al' H' _ st hr ⟨itR_lst' (fun al2 H2 st2 => SqL.of (at'.stepW st2).1) s, l⟩⟩
    | scr ns =>
      refine .inl ⟨al, B, ro, h, S, ?_⟩
      rw [e1]
      intro al' H' v st hr r
      cases r with
      | @scr a _ at' l => exact ⟨a, rfl, ⟨_, sqL_of at'⟩, p al' H' _ st hr ⟨itR_lst' (fun al2 H2 st2 => sqL_of (B := B) (at'.imp (At.stepB st2 fun _ hb => .inl hb) id)) (Reps.ints ns), l⟩⟩
    | str x =>
      refine .inr (.inr ⟨al, B, ro, h, S, ?_⟩)
      rw [e1]
      intro al' H' v st hr r
      cases r
      unfold itmV at p
      dsimp only at p
      split at p
      · rename_i l
        exact ⟨x, rfl, p al' H' _ st hr ⟨itR_str, l⟩⟩
      · exact p.elim
    | ref n =>
      refine .inl ⟨al, B, ro, h, S, ?_⟩
      rw [e1]
      intro al' H' v st hr r
      cases r with
      | @ref _ a q =>
        unfold itmV at p
        dsimp only at p
        split at p
        · rename_i xs e2
          cases hr.ob _ _ _ q e2 with
          | lst q2 l s => exact ⟨a, rfl, ⟨_, SqL.of q2⟩, p al' H' _ st hr ⟨itR_dyn q, l⟩⟩
        · exact p.elim
    | non => exact p.elim
    | bl => exact p.elim
    | int => exact p.elim
    | glo => exact p.elim
    | ty => exact p.elim
/-! ### range -/
def okR (i : Int) : Bool := decide (-(2 ^ 62) ≤ i ∧ i < 2 ^ 62)
def fRg (ws : List Val) : M (Itm × Nat) := fun h => match ws with
  | [.int j] => if okR j = true ∧ j.toNat ≤ sizeLine then .ok (.st (nums 0 j.toNat), j.toNat) h else .bad
  | [.int i, .int j] => if okR i = true ∧ okR j = true ∧ (j - i).toNat ≤ sizeLine then .ok (.st (nums i (j - i).toNat), (j - i).toNat) h else .bad
  | [.int i, .int j, .int c] => if okR i = true ∧ okR j = true ∧ c = -1 ∧ (i - j).toNat ≤ sizeLine then .ok (.st (numsDn i (i - j).toNat), (i - j).toNat) h else .bad
  | _ => .bad
def iRg (r : En → M (List Val)) : SI := fun ro => bind (r ro) fRg
theorem Reps.one {K : PySem.W.Frag} {al B : List Addr} {H : Hp} {w : Val} {vs : List V} (r : Reps K al B H [w] vs) : ∃ v, vs = [v] ∧ Rep K al B H w v := by
  cases r with
  | cons a r => cases r; exact ⟨_, rfl, a⟩
theorem Reps.two {K : PySem.W.Frag} {al B : List Addr} {H : Hp} {w w2 : Val} {vs : List V} (r : Reps K al B H [w, w2] vs) : ∃ v v2, vs = [v, v2] ∧ Rep K al B H w v ∧ Rep K al B H w2 v2 := by
  cases r with
  | cons a r => obtain ⟨v, rfl, q⟩ := r.one; exact ⟨_, _, rfl, a, q⟩
theorem Reps.three {K : PySem.W.Frag} {al B : List Addr} {H : Hp} {w w2 w3 : Val} {vs : List V} (r : Reps K al B H [w, w2, w3] vs) : ∃ v v2 v3, vs = [v, v2, v3] ∧ Rep K al B H w v ∧ Rep K al B H w2 v2 ∧ Rep K al B H w3 v3 := by
  cases r with
  | cons a r => obtain ⟨v, v2, rfl, q⟩ := r.two; exact ⟨_, _, _, rfl, a, q⟩
theorem okR_of {i : Int} (h : okR i = true) : -(2 ^ 62) ≤ i ∧ i < 2 ^ 62 := by
  unfold okR at h
  exact of_decide_eq_true h
/-- one value of what is walked, told from the arguments -/
theorem tI_args {sg : L2.St} {H : Hp} {R : It → Hp → Prop} {r : En → M (List Val)} {f : List Val → M (Itm × Nat)} {t : List V → Hp → (It → Hp → Prop) → Prop} (p : tI X.K W (fun ro => bind (r ro) f) sg H R)
    (lk : ∀ al B H h ws vs, HR X.K al B H h → Reps X.K al B H ws vs → Po X.K B (fun al H (x : Itm × Nat) J => ItR X.K B J x.1 al H ∧ x.2 ≤ sizeLine) sg al H (f ws h) W R → t vs H R) : tA X.K W r sg H (fun vs H1 => t vs H1 R) := by
  obtain ⟨al, B, ro, h, S, p⟩ := p
  exact ⟨al, B, ro, h, S, Po.mono (Po.bind p) fun v1 H1 ⟨al1, h1, w1, st1, hr1, r1, p1⟩ => lk al1 B H1 h1 w1 v1 hr1 r1 p1⟩
theorem lk_rg1 {sg : L2.St} {R : It → Hp → Prop} : ∀ al B H h ws vs, HR X.K al B H h → Reps X.K al B H ws vs → ws.length = 1 → Po X.K B (fun al H (x : Itm × Nat) J => ItR X.K B J x.1 al H ∧ x.2 ≤ sizeLine) sg al H (fRg ws h) W R →
    ∃ j : Int, vs = [.int j] ∧ -(2 ^ 62) ≤ j ∧ j < 2 ^ 62 ∧ R (Itr 0 j.toNat) H := by
  intro al B H h ws vs hr r l p
  unfold fRg at p
  split at p
  · obtain ⟨v, rfl, q⟩ := r.one
    cases q
    split at p
    · rename_i c
      exact ⟨_, rfl, (okR_of c.1).1, (okR_of c.1).2, Po.now p hr ⟨itR_rng, c.2⟩⟩
    · exact p.elim
  · simp at l
  · simp at l
  · exact p.elim
theorem lk_rg2 {sg : L2.St} {R : It → Hp → Prop} : ∀ al B H h ws vs, HR X.K al B H h → Reps X.K al B H ws vs → ws.length = 2 → Po X.K B (fun al H (x : Itm × Nat) J => ItR X.K B J x.1 al H ∧ x.2 ≤ sizeLine) sg al H (fRg ws h) W R →
    ∃ i j : Int, vs = [.int i, .int j] ∧ (-(2 ^ 62) ≤ i ∧ i < 2 ^ 62 ∧ -(2 ^ 62) ≤ j ∧ j < 2 ^ 62) ∧ R (Itr i (j - i).toNat) H := by
  intro al B H h ws vs hr r l p
  unfold fRg at p
  split at p
  · simp at l
  · obtain ⟨v, v2, rfl, q, q2⟩ := r.two
    cases q; cases q2
    split at p
    · rename_i c
      exact ⟨_, _, rfl, ⟨(okR_of c.1).1, (okR_of c.1).2, okR_of c.2.1⟩, Po.now p hr ⟨itR_rng, c.2.2⟩⟩
    · exact p.elim
  · simp at l
  · exact p.elim
theorem lk_rg3 {sg : L2.St} {R : It → Hp → Prop} : ∀ al B H h ws vs, HR X.K al B H h → Reps X.K al B H ws vs → ws.length = 3 → Po X.K B (fun al H (x : Itm × Nat) J => ItR X.K B J x.1 al H ∧ x.2 ≤ sizeLine) sg al H (fRg ws h) W R →
    ∃ (i j c : Int) (n : Nat), vs = [.int i, .int j, .int c] ∧ RgC i j c n ∧ R (Itc i c n) H := by
  intro al B H h ws vs hr r l p
  unfold fRg at p
  split at p
  · simp at l
  · simp at l
  · obtain ⟨v, v2, v3, rfl, q, q2, q3⟩ := r.three
    cases q; cases q2; cases q3
    split at p
    · rename_i c
      obtain ⟨c1, c2, rfl, c3⟩ := c
      exact ⟨_, _, _, _, rfl, RgC.neg (okR_of c1).1 (okR_of c1).2 (okR_of c2).1 (okR_of c2).2, Po.now p hr ⟨itR_dn, c3⟩⟩
    · exact p.elim
  · exact p.elim
/-- the arguments' number -/
def aLen (n : Nat) (r : En → M (List Val)) : En → M (List Val) := fun ro => bind (r ro) fun ws => if ws.length = n then ret ws else fail
def iRgN (n : Nat) (r : En → M (List Val)) : SI := fun ro => bind (r ro) fun ws => if ws.length = n then fRg ws else fail
theorem oi_rg1 {a : Expr} {r : En → M (List Val)} {p pos : Pos} (hg : Gl X "range") (hm : X.mg "range" = none) (ha : PA X [a] (tA X.K W r)) (hs : starEach [a] X.env = [(false, eval a X.env)] := by rfl) : PI X tg (.Call (.Name "range" p) [a] [] pos) (tI X.K W (iRgN 1 r)) := by
  refine PI.weak (pi_range1 hg hm ha hs) fun sg H R p => ?_
  refine tI_args (t := fun vs H1 R => ∃ j : Int, vs = [.int j] ∧ -(2 ^ 62) ≤ j ∧ j < 2 ^ 62 ∧ R (Itr 0 j.toNat) H1) p fun al B H h ws vs hr rr p => ?_
  by_cases c : ws.length = 1
  · rw [if_pos c] at p; exact lk_rg1 al B H h ws vs hr rr c p
  · rw [if_neg c] at p; exact p.elim
theorem oi_rg2 {a b : Expr} {r : En → M (List Val)} {p pos : Pos} (hg : Gl X "range") (hm : X.mg "range" = none) (ha : PA X [a, b] (tA X.K W r)) (hs : starEach [a, b] X.env = [(false, eval a X.env), (false, eval b X.env)] := by rfl)
    (hs2 : starEach [b] X.env = [(false, eval b X.env)] := by rfl) : PI X tg (.Call (.Name "range" p) [a, b] [] pos) (tI X.K W (iRgN 2 r)) := by
  refine PI.weak (pi_range2 hg hm ha hs hs2) fun sg H R p => ?_
  refine tI_args (t := fun vs H1 R => ∃ i j : Int, vs = [.int i, .int j] ∧ (-(2 ^ 62) ≤ i ∧ i < 2 ^ 62 ∧ -(2 ^ 62) ≤ j ∧ j < 2 ^ 62) ∧ R (Itr i (j - i).toNat) H1) p fun al B H h ws vs hr rr p => ?_
  by_cases c : ws.length = 2
  · rw [if_pos c] at p; exact lk_rg2 al B H h ws vs hr rr c p
  · rw [if_neg c] at p; exact p.elim
theorem oi_rg3 {a b c : Expr} {r : En → M (List Val)} {p pos : Pos} (hg : Gl X "range") (hm : X.mg "range" = none) (ha : PA X [a, b, c] (tA X.K W r)) (hs : starEach [a, b, c] X.env = (false, eval a X.env) :: starEach [b, c] X.env := by rfl)
    (hpl : (backTo pos (starEach [b, c] X.env)).any (·.1) = false := by rfl) : PI X tg (.Call (.Name "range" p) [a, b, c] [] pos) (tI X.K W (iRgN 3 r)) := by
  refine PI.weak (pi_range3 hg hm ha hs hpl) fun sg H R p => ?_
  refine tI_args (t := fun vs H1 R => ∃ (i j c : Int) (n : Nat), vs = [.int i, .int j, .int c] ∧ RgC i j c n ∧ R (Itc i c n) H1) p fun al B H h ws vs hr rr p => ?_
  by_cases c : ws.length = 3
  · rw [if_pos c] at p; exact lk_rg3 al B H h ws vs hr rr c p
  · rw [if_neg c] at p; exact p.elim
end
/-! ### enumerate -/
def prs : Nat → List Val → List Val
  | _, [] => []
  | i, x :: xs => .tup [.int (i : Nat), x] :: prs (i + 1) xs
theorem prs_get : ∀ (xs : List Val) (k i : Nat), (prs k xs)[i]? = (xs[i]?).map fun x => .tup [.int ((k + i : Nat) : Int), x]
  | [], k, i => by simp [prs]
  | x :: xs, k, 0 => by simp [prs]
  | x :: xs, k, i + 1 => by
    unfold prs
    rw [List.getElem?_cons_succ, List.getElem?_cons_succ, prs_get xs (k + 1) i]
    have : k + 1 + i = k + (i + 1) := by omega
    rw [this]
def fEn (ws : List Val) : M (Itm × Nat) := fun h => match ws with
  | [.tup xs] => .ok (.st (prs 0 xs), xs.length) h
  | [.lst xs] => .ok (.st (prs 0 xs), xs.length) h
  | [.scr ns] => .ok (.st (prs 0 (ns.map Val.int)), ns.length) h
  | [.ref n] => match h[n]? with
    | some (.lst xs) => .ok (.den n, xs.length) h
    | _ => .bad
  | _ => .bad
section
variable {K : PySem.W.Frag} {al B : List Addr} {H : Hp}
theorem two_le : (2 : Nat) ≤ sizeLine := by rw [sizeLine_eq]; omega
theorem itR_en {J : It} {xs : List Val} {vs : List V} (r : Reps K al B H xs vs)
    (hJ : ∀ al' H', StpB B al H al' H' → (∀ i, vs.length ≤ i → J.stop i H') ∧ ∀ i v, vs[i]? = some v → J.go i H' ∧ ∀ y H'', J.yld i H' y H'' → ∃ T u, y = .ref T ∧ H' T = none ∧ H'' = upd H' T u ∧ FT u [.int (i : Nat), v]) : ItR K B J (.st (prs 0 xs)) al H := by
  intro al' B' H' h' st hB hr i
  obtain ⟨j1, j2⟩ := hJ al' H' st
  refine ⟨fun e => j1 i ?_, fun w e => ?_⟩
  · rw [← r.length]
    have e : some (prs 0 xs)[i]? = some none := e
    rw [prs_get] at e
    exact List.getElem?_eq_none_iff.mp (Option.map_eq_none_iff.mp (Option.some.inj e))
  · have e : some (prs 0 xs)[i]? = some (some w) := e
    rw [prs_get] at e
    obtain ⟨x, ex, rfl⟩ := Option.map_eq_some_iff.mp (Option.some.inj e)
    obtain ⟨v, e1, rv⟩ := r.get ex
    obtain ⟨g1, g2⟩ := j2 i v e1
    refine ⟨g1, fun y H'' yy => ?_⟩
    obtain ⟨T, u, rfl, hT, rfl, hu⟩ := g2 y H'' yy
    rw [Nat.zero_add]
    exact ⟨Stp.lay hT, hr.lay hT, .tup (.inl (AtT.lay hr hT hu)) two_le (.cons (.int _) (.cons ((rv.stepB st hB).step (Stp.lay hT)) .nil))⟩
theorem itR_enL {a : Addr} {xs : List Val} {vs : List V} (h : ∀ al' H', StpB B al H al' H' → SqL K H' a vs) (r : Reps K al B H xs vs) : ItR K B (IteL K a) (.st (prs 0 xs)) al H := by
  refine itR_en r fun al' H' st => ?_
  have q := h al' H' st
  exact ⟨fun i l => ⟨vs, q, l⟩, fun i v e => ⟨⟨vs, v, q, e⟩, fun y H'' ⟨T, u, x, e1, e2, e3, e5, e4⟩ => ⟨T, u, e1, e2, e3, by have := e4 vs q; rw [e] at this; cases this; exact e5⟩⟩⟩
theorem itR_enT {a : Addr} {xs : List Val} {vs : List V} (h : ∀ al' H', StpB B al H al' H' → SqT K H' a vs) (r : Reps K al B H xs vs) : ItR K B (IteT K a) (.st (prs 0 xs)) al H := by
  refine itR_en r fun al' H' st => ?_
  have q := h al' H' st
  exact ⟨fun i l => ⟨vs, q, l⟩, fun i v e => ⟨⟨vs, v, q, e⟩, fun y H'' ⟨T, u, x, e1, e2, e3, e5, e4⟩ => ⟨T, u, e1, e2, e3, by have := e4 vs q; rw [e] at this; cases this; exact e5⟩⟩⟩
theorem itR_den {n : Nat} {a : Addr} (e : al[n]? = some a) : ItR K B (IteL K a) (.den n) al H := by
  intro al' B' H' h' st hB hr i
  have e' := st.get e
  unfold nxt
  dsimp only
  cases e2 : h'[n]? with
  | none => exact ⟨fun z => by simp at z, fun w z => by simp at z⟩
  | some o =>
    cases o with
    | lst xs =>
      cases hr.ob _ _ _ e' e2 with
      | @lst _ _ vs q _ s =>
      refine ⟨fun z => ⟨vs, SqL.of q, ?_⟩, fun w z => ?_⟩
      · rw [← s.length]
        exact List.getElem?_eq_none_iff.mp (Option.map_eq_none_iff.mp (Option.some.inj z))
      · obtain ⟨x, ex, rfl⟩ := Option.map_eq_some_iff.mp (Option.some.inj z)
        obtain ⟨v, e1, rv⟩ := s.get ex
        refine ⟨⟨vs, v, SqL.of q, e1⟩, fun y H'' ⟨T, u, x2, z0, z1, z2, hu, z3⟩ => ?_⟩
        subst z0 z2
        have := z3 vs (SqL.of q)
        rw [e1] at this
        cases this
        exact ⟨Stp.lay z1, hr.lay z1, .tup (.inl (AtT.lay hr z1 hu)) two_le (.cons (.int _) (.cons (rv.step (Stp.lay z1)) .nil))⟩
    | dic _ => exact ⟨fun z => by simp at z, fun w z => by simp at z⟩
    | ins _ _ => exact ⟨fun z => by simp at z, fun w z => by simp at z⟩
end
def iEn (r : En → M (List Val)) : SI := fun ro => bind (r ro) fEn
theorem oi_en {X : Cx} {W : WX} {e : Expr} {r : En → M (List Val)} {p pos tpos : Pos} {elts : List Expr} {kk : Nat} (hg : Gl X "enumerate") (hm : X.mg "enumerate" = none) (ha : PA X [e] (tA X.K W r)) (hs : starEach [e] X.env = [(false, eval e X.env)] := by rfl) :
    PI X (.Tuple elts kk tpos) (.Call (.Name "enumerate" p) [e] [] pos) (tI X.K W (iEn r)) := by
  refine PI.weak (PI.or (pi_enumL hg hm ha hs) (pi_enumT hg hm ha hs)) ?_
  rintro sg H R ⟨al, B, ro, h, S, p⟩
  unfold iEn at p
  change Po _ _ _ _ _ _ (obind (r ro h) fEn) _ _ at p
  cases e1 : r ro h with
  | bad => rw [e1] at p; exact p.elim
  | ex ee h1 => rw [e1] at p; exact .inl ⟨al, B, ro, h, S, by rw [e1]; exact p⟩
  | ok ws h1 =>
    rw [e1, obind_ok] at p
    unfold fEn at p
    split at p
    · refine .inr ⟨al, B, ro, h, S, ?_⟩
      rw [e1]
      intro al' H' vs st hr rr
      obtain ⟨v, rfl, q⟩ := rr.one
      cases q with
      | @tup a _ us at' l s => exact ⟨a, us, rfl, sqT_of at', p al' H' _ st hr ⟨itR_enT (fun al2 H2 st2 => sqT_of (B := B) (at'.imp (AtT.stepB st2 fun _ hb => .inl hb) id)) s, l⟩⟩
    · refine .inl ⟨al, B, ro, h, S, ?_⟩
      rw [e1]
      intro al' H' vs st hr rr
      obtain ⟨v, rfl, q⟩ := rr.one
      cases q with
      | @lst a _ us at' l s => exact ⟨a, us, rfl, SqL.of at'.1, p al' H' _ st hr ⟨itR_enL (fun al2 H2 st2 => SqL.of (at'.stepW st2).1) s, l⟩⟩
    · refine .inl ⟨al, B, ro, h, S, ?_⟩
      rw [e1]
      intro al' H' vs st hr rr
      obtain ⟨v, rfl, q⟩ := rr.one
      cases q with
      | @scr a _ at' l => exact ⟨a, _, rfl, sqL_of at', p al' H' _ st hr ⟨itR_enL (fun al2 H2 st2 => sqL_of (B := B) (at'.imp (At.stepB st2 fun _ hb => .inl hb) id)) (Reps.ints _), l⟩⟩
    · refine .inl ⟨al, B, ro, h, S, ?_⟩
      rw [e1]
      intro al' H' vs st hr rr
      obtain ⟨v, rfl, q⟩ := rr.one
      cases q with
      | @ref _ a q =>
        split at p
        · rename_i xs e2
          cases hr.ob _ _ _ q e2 with
          | lst q2 l s => exact ⟨a, _, rfl, SqL.of q2, p al' H' _ st hr ⟨itR_den q, l⟩⟩
        · exact p.elim
    · exact p.elim
end Z
set_option Elab.async false
set_option maxRecDepth 100000
set_option linter.unusedVariables false
/-! Z7: built-ins, methods, stores to a[i], chains of comparisons. -/
namespace Z
open PySem PySem.Spec PyProof.Rows L2
section
variable {K : PySem.W.Frag}
/-! ### operators' rules, as they are asked for -/
def rAddZ (K : PySem.W.Frag) : R2 := fun x y H Q => rI0 (fun i j => .int (i + j)) x y H Q ∨ (∃ i j, x = .str i ∧ y = .str j ∧ i.length + j.length ≤ sizeLine ∧ Q (.str (i ++ j)) H) ∨ rCatF K x y H Q ∨ rCat x y H Q
theorem op_addZ {X : Cx} : OpR X (binaryOp .Add) (rAddZ X.K) := OpR.or4 op_add op_add_str op_catF op_cat
theorem op_mulZ {X : Cx} : OpR X (binaryOp .Mult) (fun x y H Q => rI CMul (fun i j => .int (i * j)) x y H Q ∨ rI CMulW (fun i j => .int (i * j)) x y H Q) := op_mul.or op_mulW
theorem op_divZ {X : Cx} : OpR X (binaryOp .FloorDiv) (fun x y H Q => rI CDivW (fun i j => .int (i / j)) x y H Q ∨ rI CDivN (fun i j => .int (i.fdiv j)) x y H Q) := op_fdivW.or op_fdivN
theorem op_modZ {X : Cx} : OpR X (binaryOp .Mod) (fun x y H Q => rI (fun _ j => 0 < j) (fun i j => .int (i % j)) x y H Q ∨ rI (fun _ j => j ≠ 0) (fun i j => .int (i.fmod j)) x y H Q) := op_mod.or op_modN
theorem op_eqZ {X : Cx} (hu : X.A.units + 64 < cLine) : OpR X (compareOp .Eq) (fun x y H Q => rEq x y H Q ∨ rEqM X.K false x y H Q) := op_eq.or (op_eqM hu)
theorem op_neZ {X : Cx} (hu : X.A.units + 64 < cLine) : OpR X (compareOp .NotEq) (fun x y H Q => rNe x y H Q ∨ rEqM X.K true x y H Q) := op_ne.or (op_neM hu)
/-! ### isinstance -/
def tyOf (w : Val) (h : HH) : Option String := match w with
  | .non => some "NoneType"
  | .bl _ => some "bool"
  | .int _ => some "int"
  | .str _ => some "str"
  | .tup _ => some "tuple"
  | .lst _ => some "list"
  | .scr _ => some "list"
  | .ref n => match h[n]? with
    | some (.lst _) => some "list"
    | some (.dic _) => some "dict"
    | _ => none
  | _ => none
theorem ty_rep {al B : List Addr} {H : Hp} {h : HH} {w : Val} {v : V} {T : String} (hr : HR K al B H h) (r : Rep K al B H w v) (e : tyOf w h = some T) : TyX K H v (.type T) := by
  cases r with
  | non => cases e; exact .base .non
  | bl b => cases e; exact .base (.bl b)
  | int i => cases e; exact .base (.int i)
  | str x => cases e; exact .base (.str x)
  | tup a l s =>
    cases e
    rcases a with ⟨u, ⟨q, _⟩, o, rfl, _⟩ | ⟨o, its, n, e, c, _⟩
    · exact .fTuple q
    · exact .kTuple e c
  | lst a l s => cases e; exact .base (.lst a.1)
  | scr a l =>
    cases e
    rcases a with ⟨q | ⟨o, q⟩, _⟩ | ⟨o, its, n, e, c, _⟩
    · exact .base (.lst q)
    · exact .base (.frz q)
    · exact .kList e c
  | ref q =>
    unfold tyOf at e
    dsimp only at e
    split at e
    · rename_i e2
      cases e
      cases hr.ob _ _ _ q e2 with
      | lst q _ s => exact .base (.lst q)
    · rename_i e2
      cases e
      cases hr.ob _ _ _ q e2 with
      | dic q _ s => exact .base (.dK q)
    · cases e
  | glo => cases e
  | ty => cases e
def isA (a b : String) : Option Bool := if ["NoneType", "bool", "int", "str", "tuple", "list", "dict"].contains a = true ∧ ["bool", "int", "str", "tuple", "list", "dict"].contains b = true then some (a == b || (a == "bool" && b == "int")) else none
theorem isA_kit {a b : String} {r : Bool} (h : isA a b = some r) : kitB a b = some r := by
  unfold isA at h
  split at h
  · rename_i c
    obtain ⟨c1, c2⟩ := c
    simp only [List.contains_eq_mem, List.mem_cons, List.not_mem_nil, or_false, decide_eq_true_eq] at c1 c2
    cases h
    rcases c1 with rfl | rfl | rfl | rfl | rfl | rfl | rfl <;> rcases c2 with rfl | rfl | rfl | rfl | rfl | rfl <;> decide +kernel
  · cases h
def fIsi (ws : List Val) : M Val := fun h => match ws with
  | [w, .ty T] => match tyOf w h with
    | some S => match isA S T with
      | some b => .ok (.bl b) h
      | none => .bad
    | none => .bad
  | _ => .bad
theorem lk_isi : Lks K fIsi (rIsi K) := by
  intro W al B sg H h ws vs Q hr r p
  unfold fIsi at p
  split at p
  · obtain ⟨v, v2, rfl, r1, r2⟩ := r.two
    cases r2
    split at p
    · rename_i e
      split at p
      · rename_i e2
        exact ⟨_, _, _, _, _, rfl, .ty _, ty_rep hr r1 e, kit_ty (isA_kit e2), Po.now p hr (.bl _)⟩
      · exact p.elim
    · exact p.elim
  · exact p.elim
/-! ### len, abs, int, bool, max, min -/
def fLen (ws : List Val) : M Val := fun h => match ws with
  | [.str x] => if x.length ≤ sizeLine then .ok (.int (x.length : Nat)) h else .bad
  | [w] => match items w h with
    | some xs => .ok (.int (xs.length : Nat)) h
    | none => .bad
  | _ => .bad
theorem lk_len : Lks K fLen (fun xs H Q => ∃ x n, xs = [x] ∧ LenV K x H n ∧ Q (.int n) H) := by
  intro W al B sg H h ws vs Q hr r p
  unfold fLen at p
  split at p
  · obtain ⟨v, rfl, r1⟩ := r.one
    cases r1
    split at p
    · rename_i l
      exact ⟨_, _, rfl, ⟨l, rfl⟩, Po.now p hr (.int _)⟩
    · exact p.elim
  · obtain ⟨v, rfl, r1⟩ := r.one
    split at p
    · rename_i xs e
      obtain ⟨a, us, rfl, q, s⟩ := items_sq hr r1 e
      refine ⟨_, _, rfl, ?_, Po.now p hr (.int _)⟩
      rw [s.length]
      rcases q with q | q
      · exact .inl ⟨us, q, rfl⟩
      · exact .inr ⟨us, q, rfl⟩
    · exact p.elim
  · exact p.elim
def fAbs (ws : List Val) : M Val := fun h => match ws with
  | [.int i] => .ok (.int (if i < 0 then -i else i)) h
  | _ => .bad
theorem lk_abs : Lks K fAbs (fun xs H Q => ∃ i, xs = [.int i] ∧ Q (.int (if i < 0 then -i else i)) H) := by
  intro W al B sg H h ws vs Q hr r p
  unfold fAbs at p
  split at p
  · obtain ⟨v, rfl, r1⟩ := r.one
    cases r1
    exact ⟨_, rfl, Po.now p hr (.int _)⟩
  · exact p.elim
def fMax (ws : List Val) : M Val := fun h => match ws with
  | [.int i, .int j] => .ok (.int (if j > i then j else i)) h
  | _ => .bad
theorem lk_max : Lks K fMax (fun xs H Q => ∃ i j, xs = [.int i, .int j] ∧ Q (.int (if j > i then j else i)) H) := by
  intro W al B sg H h ws vs Q hr r p
  unfold fMax at p
  split at p
  · obtain ⟨v, v2, rfl, r1, r2⟩ := r.two
    cases r1; cases r2
    exact ⟨_, _, rfl, Po.now p hr (.int _)⟩
  · exact p.elim
def fMin (ws : List Val) : M Val := fun h => match ws with
  | [.int i, .int j] => .ok (.int (if j < i then j else i)) h
  | _ => .bad
theorem lk_min : Lks K fMin (fun xs H Q => ∃ i j, xs = [.int i, .int j] ∧ Q (.int (if j < i then j else i)) H) := by
  intro W al B sg H h ws vs Q hr r p
  unfold fMin at p
  split at p
  · obtain ⟨v, v2, rfl, r1, r2⟩ := r.two
    cases r1; cases r2
    exact ⟨_, _, rfl, Po.now p hr (.int _)⟩
  · exact p.elim
def fInt (ws : List Val) : M Val := fun h => match ws with
  | [.int i] => .ok (.int i) h
  | [.bl b] => .ok (.int (if b then 1 else 0)) h
  | _ => .bad
theorem lk_int : Lks K fInt (fun xs H Q => (∃ i, xs = [.int i] ∧ Q (.int i) H) ∨ ∃ k, xs = [.bl k] ∧ Q (.int (if k then 1 else 0)) H) := by
  intro W al B sg H h ws vs Q hr r p
  unfold fInt at p
  split at p
  · obtain ⟨v, rfl, r1⟩ := r.one
    cases r1
    exact .inl ⟨_, rfl, Po.now p hr (.int _)⟩
  · obtain ⟨v, rfl, r1⟩ := r.one
    cases r1
    exact .inr ⟨_, rfl, Po.now p hr (.int _)⟩
  · exact p.elim
/-! ### all, any of a list of truths -/
def bls : List Val → Option (List Bool)
  | [] => some []
  | .bl b :: xs => (bls xs).map (b :: ·)
  | _ :: _ => none
theorem bls_rep {al B : List Addr} {H : Hp} : ∀ {xs : List Val} {vs : List V} {bs : List Bool}, Reps K al B H xs vs → bls xs = some bs → vs = bs.map V.bl
  | _, _, _, .nil, e => by cases e; rfl
  | _, _, _, .cons a r, e => by
    cases a with
    | bl b =>
      unfold bls at e
      obtain ⟨cs, e2, rfl⟩ := Option.map_eq_some_iff.mp e
      rw [bls_rep r e2]
      rfl
    | _ => cases e
def fAll (ws : List Val) : M Val := fun h => match ws with
  | [w] => match lsts w h with
    | some xs => match bls xs with
      | some bs => .ok (.bl (bs.all id)) h
      | none => .bad
    | none => .bad
  | _ => .bad
theorem lk_all : Lks K fAll (rAll K) := by
  intro W al B sg H h ws vs Q hr r p
  unfold fAll at p
  split at p
  · obtain ⟨v, rfl, r1⟩ := r.one
    split at p
    · rename_i xs e
      obtain ⟨a, us, rfl, q, _, s⟩ := lsts_at hr r1 e
      split at p
      · rename_i bs e2
        have := bls_rep s e2
        subst this
        exact ⟨a, bs, rfl, SqL.of q, Po.now p hr (.bl _)⟩
      · exact p.elim
    · exact p.elim
  · exact p.elim
def fAny (ws : List Val) : M Val := fun h => match ws with
  | [w] => match lsts w h with
    | some xs => match bls xs with
      | some bs => .ok (.bl (bs.any id)) h
      | none => .bad
    | none => .bad
  | _ => .bad
theorem lk_any : Lks K fAny (rAny K) := by
  intro W al B sg H h ws vs Q hr r p
  unfold fAny at p
  split at p
  · obtain ⟨v, rfl, r1⟩ := r.one
    split at p
    · rename_i xs e
      obtain ⟨a, us, rfl, q, _, s⟩ := lsts_at hr r1 e
      split at p
      · rename_i bs e2
        have := bls_rep s e2
        subst this
        exact ⟨a, bs, rfl, SqL.of q, Po.now p hr (.bl _)⟩
      · exact p.elim
    · exact p.elim
  · exact p.elim
/-! ### tuple(x), list(x) -/
def fTpl (ws : List Val) : M Val := fun h => match ws with
  | [.tup xs] => .ok (.tup xs) h
  | [.lst xs] => .ok (.tup xs) h
  | [.scr ns] => .ok (.tup (ns.map Val.int)) h
  | [.ref n] => match h[n]? with
    | some (.lst xs) => .ok (.tup xs) h
    | _ => .bad
  | _ => .bad
theorem lk_tpl : Lks K fTpl (fun xs H Q => ∃ p ys, xs = [.ref p] ∧ ((SqL K H p ys ∧ ∀ l u, H l = none → FT u ys → Q (.ref l) (upd H l u)) ∨ (SqT K H p ys ∧ Q (.ref p) H))) := by
  intro W al B sg H h ws vs Q hr r p
  unfold fTpl at p
  split at p
  · obtain ⟨v, rfl, r1⟩ := r.one
    cases r1 with
    | tup a l s => exact ⟨_, _, rfl, .inr ⟨sqT_of a, Po.now p hr (.tup a l s)⟩⟩
  · obtain ⟨v, rfl, r1⟩ := r.one
    cases r1 with
    | lst a l s => exact ⟨_, _, rfl, .inl ⟨SqL.of a.1, fun q u hq hu => p _ _ _ (Stp.lay hq) (hr.lay hq) (.tup (.inl (AtT.lay hr hq hu)) l (s.step (Stp.lay hq)))⟩⟩
  · obtain ⟨v, rfl, r1⟩ := r.one
    cases r1 with
    | scr a l => exact ⟨_, _, rfl, .inl ⟨sqL_of a, fun q u hq hu => p _ _ _ (Stp.lay hq) (hr.lay hq) (.tup (.inl (AtT.lay hr hq hu)) (by rw [List.length_map]; exact l) (Reps.ints _))⟩⟩
  · obtain ⟨v, rfl, r1⟩ := r.one
    cases r1 with
    | ref q =>
      split at p
      · rename_i e2
        cases hr.ob _ _ _ q e2 with
        | lst q l s => exact ⟨_, _, rfl, .inl ⟨SqL.of q, fun q u hq hu => p _ _ _ (Stp.lay hq) (hr.lay hq) (.tup (.inl (AtT.lay hr hq hu)) l (s.step (Stp.lay hq)))⟩⟩
      · exact p.elim
  · exact p.elim
/-- list(x), that stays as it is -/
def fLof (ws : List Val) : M Val := fun h => match ws with
  | [w] => match items w h with
    | some xs => if xs.length ≤ sizeLine then .ok (.lst xs) h else .bad
    | none => .bad
  | _ => .bad
def rLof (K : PySem.W.Frag) : List V → Hp → VK → Prop := fun xs H Q => ∃ p ys, xs = [.ref p] ∧ (SqL K H p ys ∨ SqT K H p ys) ∧ ∀ l, H l = none → Q (.ref l) (upd H l (.lst ys))
theorem lk_lof : Lks K fLof (rLof K) := by
  intro W al B sg H h ws vs Q hr r p
  unfold fLof at p
  split at p
  · obtain ⟨v, rfl, r1⟩ := r.one
    split at p
    · rename_i xs e
      obtain ⟨a, us, rfl, q, s⟩ := items_sq hr r1 e
      split at p
      · rename_i l
        exact ⟨a, us, rfl, q, fun b hb => p _ _ _ (Stp.lay hb) (hr.lay hb) (.lst (At1.lay hr hb) l (s.step (Stp.lay hb)))⟩
      · exact p.elim
    · exact p.elim
  · exact p.elim
/-- list(x), a new own one -/
def fLnw (ws : List Val) : M Val := fun h => match ws with
  | [w] => match items w h with
    | some xs => if xs.length ≤ sizeLine then .ok (.ref h.length) (h ++ [.lst xs]) else .bad
    | none => .bad
  | _ => .bad
theorem lk_lnw : Lks K fLnw (rLof K) := by
  intro W al B sg H h ws vs Q hr r p
  unfold fLnw at p
  split at p
  · obtain ⟨v, rfl, r1⟩ := r.one
    split at p
    · rename_i xs e
      obtain ⟨a, us, rfl, q, s⟩ := items_sq hr r1 e
      split at p
      · rename_i l
        exact ⟨a, us, rfl, q, fun b hb => p _ _ _ (Stp.new hb) (hr.new hb (.lst upd_same l (s.step (Stp.new hb)))) (.ref (by rw [← hr.len, List.getElem?_concat_length]))⟩
      · exact p.elim
    · exact p.elim
  · exact p.elim
end
/-! ### methods of lists -/
section
variable {X : Cx} {W : WX} {o e : Expr} {es : List Expr} {mo m : SE} {ra : En → M (List Val)} {name : Str} {T id : String} {apos cpos pos : Pos}
def sMt (f : Val → List Val → M Val) (mo : SE) (ra : En → M (List Val)) : SE := fun ro => bind (mo ro) fun w => bind (ra ro) fun ws => f w ws
/-- a value is that built-in's, and its method does so -/
def LkM (K : PySem.W.Frag) (T : String) (ok : Val → HH → Prop) (f : Val → List Val → M Val) (r : V → List V → Hp → VK → Prop) : Prop :=
  (∀ al B H h w v, HR K al B H h → Rep K al B H w v → ok w h → tyV K T v H) ∧
  ∀ (W : WX) al B sg H h w v ws vs (Q : VK), HR K al B H h → Rep K al B H w v → Reps K al B H ws vs → Po K B (fun al H => Rep K al B H) sg al H (f w ws h) W Q → r v vs H Q
/-- own lists -/
def okL (w : Val) (h : HH) : Prop := ∃ n xs, w = .ref n ∧ h[n]? = some (.lst xs)
def sMtL (f : Val → List Val → M Val) (mo : SE) (ra : En → M (List Val)) : SE := fun ro => bind (mo ro) fun w h => match w with
  | .ref n => match h[n]? with
    | some (.lst _) => bind (ra ro) (fun ws => f (.ref n) ws) h
    | _ => .bad
  | _ => .bad
theorem tyV_own {K : PySem.W.Frag} {al B : List Addr} {H : Hp} {h : HH} {n : Nat} {xs : List Val} {v : V} (hr : HR K al B H h) (r : Rep K al B H (.ref n) v) (e : h[n]? = some (.lst xs)) : tyV K "list" v H := by
  cases r with
  | ref q =>
    cases hr.ob _ _ _ q e with
    | lst q _ s => exact .inl ⟨rfl, _, SqL.of q⟩
theorem oe_mtL {r : V → List V → Hp → VK → Prop} {f : Val → List Val → M Val} (slot : Slot "list" name id) (hty : typeOf (.builtin id) = pure (.type "method_descriptor")) (hm : MtR X id r)
    (lk : ∀ (W : WX) al B sg H h w v ws vs (Q : VK), HR X.K al B H h → Rep X.K al B H w v → Reps X.K al B H ws vs → Po X.K B (fun al H => Rep X.K al B H) sg al H (f w ws h) W Q → r v vs H Q)
    (ho : PE X o (tE X.K W mo)) (ha : PA X (e :: es) (tA X.K W ra))
    (hbase : attributeBase o name X.env (eval o X.env) = eval o X.env := by rfl)
    (hfew : ((backTo cpos (starEach (e :: es) X.env)).all (fun x => !x.1) && (backToKw cpos (keywordEach [] X.env)).all (fun x => x.1.isSome)
      && decide ((e :: es).length + ([] : List Keyword).length + (if ([] : List Keyword).isEmpty then 0 else 1) < 30)) = true := by rfl)
    (hline : (apos.endLine == cpos.line) = true := by rfl) (hs : starEach (e :: es) X.env = (false, eval e X.env) :: starEach es X.env := by rfl) (hplain : (backTo cpos (starEach es X.env)).any (·.1) = false := by rfl) :
    PE X (.Call (.Attribute o name apos) (e :: es) [] cpos) (tE X.K W (sMtL f mo ra)) := by
  refine PE.weak (pe_bm PySem.F.plainAttrs_list slot hty hm ho ha hbase hfew hline hs hplain) ?_
  rintro sg H Q ⟨al, B, ro, h, S, p⟩
  refine ⟨al, B, ro, h, S, Po.mono (Po.bind p) fun v H1 ⟨al1, h1, w, st, hr, r1, q⟩ => ?_⟩
  split at q
  · rename_i n
    split at q
    · rename_i xs e2
      refine ⟨tyV_own hr r1 e2, al1, B, ro, h1, S.step st hr, Po.mono (Po.bind q) fun vs H2 ⟨al2, h2, ws, st2, hr2, rs, q2⟩ => ?_⟩
      exact lk W al2 B sg H2 h2 _ v ws vs Q hr2 (r1.step st2) rs q2
    · exact q.elim
  · exact q.elim
theorem oe_mtL0 {r : V → List V → Hp → VK → Prop} {f : Val → List Val → M Val} (slot : Slot "list" name id) (hty : typeOf (.builtin id) = pure (.type "method_descriptor")) (hm : MtR X id r)
    (lk : ∀ (W : WX) al B sg H h w v ws vs (Q : VK), HR X.K al B H h → Rep X.K al B H w v → Reps X.K al B H ws vs → Po X.K B (fun al H => Rep X.K al B H) sg al H (f w ws h) W Q → r v vs H Q)
    (ho : PE X o (tE X.K W mo)) (hbase : attributeBase o name X.env (eval o X.env) = eval o X.env := by rfl) (hline : (apos.endLine == cpos.line) = true := by rfl) :
    PE X (.Call (.Attribute o name apos) [] [] cpos) (tE X.K W (sMtL f mo aNil)) := by
  refine PE.weak (pe_bm0 PySem.F.plainAttrs_list slot hty hm ho hbase hline) ?_
  rintro sg H Q ⟨al, B, ro, h, S, p⟩
  refine ⟨al, B, ro, h, S, Po.mono (Po.bind p) fun v H1 ⟨al1, h1, w, st, hr, r1, q⟩ => ?_⟩
  split at q
  · rename_i n
    split at q
    · rename_i xs e2
      exact ⟨tyV_own hr r1 e2, lk W al1 B sg H1 h1 _ v [] [] Q hr r1 .nil q⟩
    · exact q.elim
  · exact q.elim
/-- the own list at n becomes xs -/
def putL (n : Nat) (xs : List Val) (w : Val) : M Val := fun h => if xs.length ≤ sizeLine then .ok w (h.set n (.lst xs)) else .bad
theorem put_own {K : PySem.W.Frag} {al B : List Addr} {H : Hp} {h : HH} {n : Nat} {a : Addr} {xs : List Val} {vs : List V} {W : WX} {sg : L2.St} {Q : VK} {w : Val} {v : V} (hr : HR K al B H h) (e : al[n]? = some a) (r : Reps K al B H xs vs) (rw' : Rep K al B H w v)
    (p : Po K B (fun al H => Rep K al B H) sg al H (putL n xs w h) W Q) : Q v (upd H a (.lst vs)) := by
  unfold putL at p
  split at p
  · rename_i l
    have s : Stp al H al (upd H a (.lst vs)) := Stp.put (List.mem_of_getElem? e)
    exact p _ _ _ s (hr.put e (.lst upd_same l (r.step s))) (rw'.step s)
  · exact p.elim
def mApp (w : Val) (ws : List Val) : M Val := fun h => match w, ws with
  | .ref n, [y] => match h[n]? with
    | some (.lst xs) => putL n (xs ++ [y]) .non h
    | _ => .bad
  | _, _ => .bad
theorem lk_app {K : PySem.W.Frag} : ∀ (W : WX) al B sg H h w v ws vs (Q : VK), HR K al B H h → Rep K al B H w v → Reps K al B H ws vs → Po K B (fun al H => Rep K al B H) sg al H (mApp w ws h) W Q → rAppend v vs H Q := by
  intro W al B sg H h w v ws vs Q hr r rs p
  unfold mApp at p
  split at p
  · split at p
    · rename_i e
      obtain ⟨y, rfl, ry⟩ := rs.one
      cases r with
      | ref q =>
        cases hr.ob _ _ _ q e with
        | lst q2 l s =>
          refine ⟨_, _, _, rfl, rfl, q2, ?_, put_own hr q (s.append (.cons ry .nil)) .non p⟩
          unfold putL at p
          split at p
          · rename_i l2
            rw [List.length_append, List.length_singleton] at l2
            rw [← s.length]
            omega
          · exact p.elim
    · exact p.elim
  · exact p.elim
def mPop (w : Val) (ws : List Val) : M Val := fun h => match w, ws with
  | .ref n, [] => match h[n]? with
    | some (.lst xs) => match xs[xs.length - 1]? with
      | some y => putL n xs.dropLast y h
      | none => .bad
    | _ => .bad
  | _, _ => .bad
theorem Reps.dropLast {K : PySem.W.Frag} {al B : List Addr} {H : Hp} {xs : List Val} {vs : List V} (r : Reps K al B H xs vs) : Reps K al B H xs.dropLast vs.dropLast := by
  rw [List.dropLast_eq_take, List.dropLast_eq_take, ← r.length]
  exact r.take _
theorem lk_pop {K : PySem.W.Frag} : ∀ (W : WX) al B sg H h w v ws vs (Q : VK), HR K al B H h → Rep K al B H w v → Reps K al B H ws vs → Po K B (fun al H => Rep K al B H) sg al H (mPop w ws h) W Q → rPop v vs H Q := by
  intro W al B sg H h w v ws vs Q hr r rs p
  unfold mPop at p
  split at p
  · split at p
    · rename_i e
      split at p
      · rename_i e3
        cases rs
        cases r with
        | ref q =>
          cases hr.ob _ _ _ q e with
          | lst q2 l s =>
            obtain ⟨y, e4, ry⟩ := s.get e3
            rw [s.length] at e4
            exact ⟨_, _, _, rfl, rfl, q2, e4, put_own hr q s.dropLast ry p⟩
      · exact p.elim
    · exact p.elim
  · exact p.elim
def mPopAt (w : Val) (ws : List Val) : M Val := fun h => match w, ws with
  | .ref n, [.int i] => match h[n]? with
    | some (.lst xs) => if 0 ≤ i ∧ i < xs.length then match xs[i.toNat]? with
        | some y => putL n (xs.eraseIdx i.toNat) y h
        | none => .bad
      else .bad
    | _ => .bad
  | _, _ => .bad
theorem lk_popAt {K : PySem.W.Frag} : ∀ (W : WX) al B sg H h w v ws vs (Q : VK), HR K al B H h → Rep K al B H w v → Reps K al B H ws vs → Po K B (fun al H => Rep K al B H) sg al H (mPopAt w ws h) W Q → rPopAt v vs H Q := by
  intro W al B sg H h w v ws vs Q hr r rs p
  unfold mPopAt at p
  split at p
  · split at p
    · rename_i e
      split at p
      · rename_i c
        split at p
        · rename_i e3
          obtain ⟨z, rfl, rz⟩ := rs.one
          cases rz
          cases r with
          | ref q =>
            cases hr.ob _ _ _ q e with
            | lst q2 l s =>
              obtain ⟨y, e4, ry⟩ := s.get e3
              rw [s.length] at c
              have hs : sizeLine = 16777216 := sizeLine_eq
              rw [s.length] at l
              exact ⟨_, _, _, _, _, rfl, rfl, q2, by omega, by omega, seqIndex_of c.1 c.2, e4, put_own hr q (s.eraseIdx _) ry p⟩
        · exact p.elim
      · exact p.elim
    · exact p.elim
  · exact p.elim
/-! ### t.count(x) -/
def mCnt (w : Val) (ws : List Val) : M Val := fun h => match w, ws with
  | .tup xs, [y] => if flat y = true ∧ xs.all flat = true then .ok (.int ((xs.countP fun z => eqF z y : Nat) : Int)) h else .bad
  | _, _ => .bad
theorem cnt_rep {K : PySem.W.Frag} {al B : List Addr} {H : Hp} {w : Val} {v : V} (r : Rep K al B H w v) (f : flat w = true) : ∀ {xs : List Val} {vs : List V}, Reps K al B H xs vs → xs.all flat = true → (vs.countP fun z => eqV z v) = xs.countP fun z => eqF z w
  | _, _, .nil, _ => rfl
  | _, _, .cons a q, g => by
    rw [List.all_cons, Bool.and_eq_true] at g
    rw [List.countP_cons, List.countP_cons, eqF_rep a r g.1 f, cnt_rep r f q g.2]
def sMtT (f : Val → List Val → M Val) (mo : SE) (ra : En → M (List Val)) : SE := fun ro => bind (mo ro) fun w h => match w with
  | .tup xs => bind (ra ro) (fun ws => f (.tup xs) ws) h
  | _ => .bad
theorem oe_cnt (ho : PE X o (tE X.K W mo)) (ha : PA X [e] (tA X.K W ra))
    (hbase : attributeBase o "count" X.env (eval o X.env) = eval o X.env := by rfl)
    (hfew : ((backTo cpos (starEach [e] X.env)).all (fun x => !x.1) && (backToKw cpos (keywordEach [] X.env)).all (fun x => x.1.isSome)
      && decide (([e] : List Expr).length + ([] : List Keyword).length + (if ([] : List Keyword).isEmpty then 0 else 1) < 30)) = true := by rfl)
    (hline : (apos.endLine == cpos.line) = true := by rfl) (hs : starEach [e] X.env = (false, eval e X.env) :: starEach [] X.env := by rfl) (hplain : (backTo cpos (starEach [] X.env)).any (·.1) = false := by rfl) :
    PE X (.Call (.Attribute o "count" apos) [e] [] cpos) (tE X.K W (sMtT mCnt mo ra)) := by
  refine PE.weak (pe_cnt ho ha hbase hfew hline hs hplain) ?_
  rintro sg H Q ⟨al, B, ro, h, S, p⟩
  refine ⟨al, B, ro, h, S, Po.mono (Po.bind p) fun v H1 ⟨al1, h1, w, st, hr, r1, q⟩ => ?_⟩
  split at q
  · rename_i xs
    cases r1 with
    | tup a l s =>
      refine ⟨_, _, rfl, noD_of a, al1, B, ro, h1, S.step st hr, Po.mono (Po.bind q) fun vs H2 ⟨al2, h2, ws, st2, hr2, rs, q2⟩ => ?_⟩
      unfold mCnt at q2
      split at q2
      · rename_i e1
        cases e1
        obtain ⟨y, rfl, ry⟩ := rs.one
        split at q2
        · rename_i c
          refine ⟨y, rfl, sqT_of (a.imp (AtT.step st2) id), flat_rep ry c.1, flats_rep (s.step st2) c.2, ?_⟩
          rw [cnt_rep ry c.1 (s.step st2) c.2]
          exact Po.now q2 hr2 (.int _)
        · exact q2.elim
      · exact q2.elim
  · exact q.elim
/-! ### len(set(t)) -/
def txts : List Val → Option (List Str)
  | [] => some []
  | .str x :: xs => (txts xs).map (x :: ·)
  | _ :: _ => none
theorem txts_rep {K : PySem.W.Frag} {al B : List Addr} {H : Hp} : ∀ {xs : List Val} {vs : List V} {ys : List Str}, Reps K al B H xs vs → txts xs = some ys → vs = ys.map V.str
  | _, _, _, .nil, e => by cases e; rfl
  | _, _, _, .cons a r, e => by
    cases a with
    | str b =>
      unfold txts at e
      obtain ⟨cs, e2, rfl⟩ := Option.map_eq_some_iff.mp e
      rw [txts_rep r e2]
      rfl
    | _ => cases e
theorem txts_len : ∀ {xs : List Val} {ys : List Str}, txts xs = some ys → xs.length = ys.length
  | [], _, e => by cases e; rfl
  | .str x :: xs, _, e => by
    unfold txts at e
    obtain ⟨cs, e2, rfl⟩ := Option.map_eq_some_iff.mp e
    rw [List.length_cons, List.length_cons, txts_len e2]
  | .non :: _, _, e => by cases e
  | .bl _ :: _, _, e => by cases e
  | .int _ :: _, _, e => by cases e
  | .tup _ :: _, _, e => by cases e
  | .lst _ :: _, _, e => by cases e
  | .ref _ :: _, _, e => by cases e
  | .glo _ :: _, _, e => by cases e
  | .ty _ :: _, _, e => by cases e
  | .scr _ :: _, _, e => by cases e
def uLset (w : Val) : M Val := fun h => match w with
  | .tup xs => match txts xs with
    | some ys => if ys.length + 1 < scanBound then .ok (.int (ZS.dcnt ys : Nat)) h else .bad
    | none => .bad
  | _ => .bad
theorem oe_lset {a : Expr} {p p2 q : Pos} (hc : X.calm = true) (hg : Gl X "len") (hm : X.mg "len" = none) (hg2 : Gl X "set") (hm2 : X.mg "set" = none) (ha : PE X a (tE X.K W m))
    (na : starEach [a] X.env = (false, eval a X.env) :: starEach [] X.env := by rfl) : PE X (.Call (.Name "len" p) [.Call (.Name "set" p2) [a] [] q] [] pos) (tE X.K W (sUn uLset m)) := by
  refine PE.weak (pe_lenSets hc hg hm hg2 hm2 ha na) ?_
  rintro sg H Q ⟨al, B, ro, h, S, p⟩
  refine ⟨al, B, ro, h, S, Po.mono (Po.bind p) fun v H1 ⟨al1, h1, w, st, hr, r1, q⟩ => ?_⟩
  unfold uLset at q
  split at q
  · cases r1 with
    | tup a l s =>
      split at q
      · rename_i e
        split at q
        · rename_i c
          have := txts_rep s e
          subst this
          exact ⟨_, _, rfl, sqT_of a, c, Po.now q hr (.int _)⟩
        · exact q.elim
      · exact q.elim
  · exact q.elim
/-! ### o[i] = v, o an own list -/
def gSb (mo mi : SE) : GM := fun w ro h => match mo ro h with
  | .ok (.ref n) h1 => match mi ro h1 with
    | .ok (.int i) h2 => match h2[n]? with
      | some (.lst xs) => match ixN xs.length i with
        | some j => .go .nx ro (h2.set n (.lst (xs.set j w)))
        | none => .bad
      | _ => .bad
    | _ => .bad
  | _ => .bad
theorem og_sub {i : Expr} {mi : SE} (ho : PE X o (tE X.K W0 mo)) (hi : PE X i (tE X.K W0 mi))
    (ha : ∀ v, assign (.Subscript o i pos) X.env v = (do
      let ov ← holding [v] (eval o X.env)
      let iv ← holding [v, ov] (eval i X.env)
      standAt pos
      holding [v, ov, iv] (setItem ov iv v)
      release [v, ov, iv] []) := by intro _; rfl) : PG X (.Subscript o i pos) (tG X.K [] (gSb mo mi)) := by
  refine PG.weak (pg_sub ho hi set_list ha) ?_
  rintro v sg H Q ⟨al, B, ro, h, w, S, r, p⟩
  unfold gSb at p
  refine ⟨al, B, ro, h, S, ?_⟩
  cases e1 : mo ro h with
  | bad => rw [e1] at p; exact p.elim
  | ex _ _ => rw [e1] at p; exact p.elim
  | ok w1 h1 =>
    rw [e1] at p
    split at p
    · rename_i n _ e2
      cases e2
      intro al1 H1 v1 st1 hr1 r1
      refine ⟨al1, B, ro, h1, S.step st1 hr1, ?_⟩
      cases e3 : mi ro h1 with
      | bad => rw [e3] at p; exact p.elim
      | ex _ _ => rw [e3] at p; exact p.elim
      | ok w2 h2 =>
        rw [e3] at p
        split at p
        · rename_i i _ e4
          cases e4
          intro al2 H2 v2 st2 hr2 r2
          split at p
          · rename_i xs e5
            split at p
            · rename_i j e6
              cases r2
              have r1' := r1.step st2
              cases r1' with
              | @ref _ a q =>
                cases hr2.ob _ _ _ q e5 with
                | @lst _ _ vs q2 l s =>
                  have sp : Stp al2 H2 al2 (upd H2 a (.lst (vs.set j v))) := Stp.put (List.mem_of_getElem? q)
                  have rv := (r.step st1).step st2
                  refine ⟨a, vs, _, j, rfl, rfl, q2, by rw [← s.length]; exact e6, ?_⟩
                  have hr3 : HR X.K al2 B (upd H2 a (.lst (vs.set j v))) (h2.set n (.lst (xs.set j w))) := hr2.put q (.lst upd_same (by rw [List.length_set]; exact l) ((s.set rv j).step sp))
                  have st3 := (st1.trans st2).trans sp
                  exact p al2 sg _ st3 (S.step st3 hr3) ⟨rfl, fun _ _ => rfl⟩
            · exact p.elim
          · exact p.elim
        · exact p.elim
    · exact p.elim
/-! ### a op1 b op2 c -/
def sCh (f g : Val → Val → M Val) (m1 m2 m3 : SE) : SE := fun ro => bind (m1 ro) fun a => bind (m2 ro) fun b => bind (f a b) fun z => match z with
  | .bl true => bind (m3 ro) fun c => g b c
  | .bl false => ret (.bl false)
  | _ => fail
theorem tE_ch {K : PySem.W.Frag} {f g : Val → Val → M Val} {r r' : R2} {m1 m2 m3 : SE} (lk : Lk2 K f r) (lk' : Lk2 K g r') (sg : L2.St) (H : Hp) (Q : VK) (p : tE K W (sCh f g m1 m2 m3) sg H Q) : tChain r r' (tE K W m1) (tE K W m2) (tE K W m3) sg H Q := by
  obtain ⟨al, B, ro, h, S, p⟩ := p
  refine ⟨al, B, ro, h, S, Po.mono (Po.bind p) fun v1 H1 ⟨al1, h1, w1, st1, hr1, r1, p1⟩ => ?_⟩
  refine ⟨al1, B, ro, h1, S.step st1 hr1, Po.mono (Po.bind p1) fun v2 H2 ⟨al2, h2, w2, st2, hr2, r2, p2⟩ => ?_⟩
  refine lk W al2 B sg H2 h2 w1 w2 v1 v2 _ hr2 (r1.step st2) r2 (Po.mono (Po.bind p2) fun v3 H3 ⟨al3, h3, w3, st3, hr3, r3, p3⟩ => ?_)
  split at p3
  · cases r3
    refine ⟨true, rfl, ?_⟩
    rw [if_pos rfl]
    refine ⟨al3, B, ro, h3, ((S.step st1 hr1).step st2 hr2).step st3 hr3, Po.mono (Po.bind p3) fun v4 H4 ⟨al4, h4, w4, st4, hr4, r4, p4⟩ => ?_⟩
    exact lk' W al4 B sg H4 h4 w2 w4 v2 v4 Q hr4 ((r2.step st3).step st4) r4 p4
  · cases r3
    refine ⟨false, rfl, ?_⟩
    rw [if_neg Bool.false_ne_true]
    exact Po.now p3 hr3 (.bl _)
  · exact p3.elim
theorem oe_ch {a b c : Expr} {m1 m2 m3 : SE} {op op' : CmpOp} {f g : Val → Val → M Val} {r r' : R2} (ho : OpR X (compareOp op) r) (lk : Lk2 X.K f r) (ho' : OpR X (compareOp op') r') (lk' : Lk2 X.K g r') (ha : PE X a (tE X.K W m1)) (hb : PE X b (tE X.K W m2)) (hc : PE X c (tE X.K W m3))
    (hm : lastMarks [op, op'] [b, c] = false) : PE X (.Compare a [op, op'] [b, c] pos) (tE X.K W (sCh f g m1 m2 m3)) := PE.weak (pe_chain ho ho' ha hb hc hm) (tE_ch lk lk')
def asT (m : SE) : En → M Bool := fun ro => bind (m ro) fun w => match w with
  | .bl b => ret b
  | _ => fail
theorem tT_as {K : PySem.W.Frag} {t : TE} {m : SE} (h : ∀ sg H Q, tE K W m sg H Q → t sg H Q) (sg : L2.St) (H : Hp) (Q : Bool → Hp → Prop) (p : tT K W (asT m) sg H Q) : tTest t sg H Q := by
  obtain ⟨al, B, ro, h', S, p⟩ := p
  refine h sg H _ ⟨al, B, ro, h', S, Po.mono (Po.bind p) fun v1 H1 ⟨al1, h1, w1, st1, hr1, r1, p1⟩ => ?_⟩
  cases r1 <;> first | exact p1.elim | exact ⟨_, rfl, Po.now p1 hr1 rfl⟩
theorem ot_ch {a b c : Expr} {m1 m2 m3 : SE} {op op' : CmpOp} {f g : Val → Val → M Val} {r r' : R2} (ho : OpR X (compareOp op) r) (lk : Lk2 X.K f r) (ho' : OpR X (compareOp op') r') (lk' : Lk2 X.K g r') (ha : PE X a (tE X.K W m1)) (hb : PE X b (tE X.K W m2)) (hc : PE X c (tE X.K W m3))
    (hm : lastMarks [op, op'] [b, c] = false) : PT X (.Compare a [op, op'] [b, c] pos) (tT X.K W (asT (sCh f g m1 m2 m3))) := PT.weak (pt_chain ho ho' ha hb hc hm) (tT_as (tE_ch lk lk'))
end
end Z
set_option Elab.async false
set_option maxRecDepth 100000
set_option linter.unusedVariables false
/-! Z8: raise, try, comprehensions with two sources, own defs. -/
namespace Z
open PySem PySem.Spec PyProof.Rows L2
/-! ### raise, try -/
def nRaise (e : Ex) : SS := fun ro h => .go (.ex e) ro h
def nTry (mb : SS) (tb : Value → Option Bool) (ms : SS) : SS := fun ro h => match mb ro h with
  | .go (.ex e) ro1 h1 => match tb e.cls with
    | some true => match ms ro1 h1 with
      | .go (.ex _) _ _ => .bad
      | o => o
    | some false => .go (.ex e) ro1 h1
    | none => .bad
  | o => o
section
variable {X : Cx} {W : WX} {pos : Pos}
theorem os_raise {ex : Expr} {C : Addr} (hc : X.calm = true) (tk : Takes X W) (mk : PMk X ex (fun _ H Q => Q (.ref C) none H)) : PS X (.Raise (some ex) none pos) (tS X.K W (nRaise ⟨.ref C, []⟩)) := by
  refine PS.weak (ps_raise hc tk mk) ?_
  rintro D sg H ⟨al, B, ro, h, S, p⟩
  exact p al sg H (Stp.refl _ _) S _ _ ⟨rfl, fun z => absurd rfl z⟩
theorem os_try {x : Str} {c : Value} {body suite : List Stmt} {b₀ : Stmt} {np pos' : Pos} {mb ms : SS} {tb : Value → Option Bool} (hs : X.stack = X.env :: X.outer) (hf : X.env.frame = some X.env.locals) (hc : Names X x c) (tk : Takes X W)
    (hb : ∀ (W : WX) (pn : List (Addr × Obj)) (xe : Value → Shared → Prop), Takes (X.tr pn xe) W → PassesOwn (model X.prog X.w) X.A X.env xe → PSs (X.tr pn xe) body (tS X.K W mb))
    (hsu : ∀ (a : Addr) (oe : Obj) (cls : Value) (d : Option Addr) (pn : List (Addr × Obj)), Zc cls d oe → (∃ vs, oe.data = .fields vs) → PSs (X.suite a ((a, oe) :: pn)) (b₀ :: suite) (tS X.K W0 ms))
    (ht : ∀ v b, tb v = some b → PySem.W.exmOne X.K v c = some b) :
    PS X (.Try body [.ExceptHandler (some (.Name x np)) none (b₀ :: suite) pos'] [] [] pos) (tS X.K W (nTry mb tb ms)) := by
  refine PS.weak (ps_try_only hs hf hc tk hb hsu) ?_
  rintro D sg H ⟨al, B, ro, h, S, p⟩
  refine ⟨al, B, ro, h, S, ?_⟩
  unfold nTry at p
  cases e1 : mb ro h with
  | bad => rw [e1] at p; exact p.elim
  | go f ro1 h1 =>
    rw [e1] at p
    intro al' sg' H' st S'
    cases f with
    | nx => exact p al' sg' H' st S'
    | brk => exact p al' sg' H' st S'
    | ct => exact p al' sg' H' st S'
    | ret w => exact p al' sg' H' st S'
    | ex e =>
      intro cls d er
      dsimp only at p
      cases e2 : tb e.cls with
      | none => rw [e2] at p; exact p.elim
      | some b =>
        rw [e2] at p
        have hcls : cls = e.cls := er.1
        refine ⟨b, ht _ _ (by rw [hcls]; exact e2), fun q a ha => ?_, fun q => ?_⟩
        · subst q
          refine ⟨al', B, ro1, h1, S', ?_⟩
          dsimp only at p
          cases e3 : ms ro1 h1 with
          | bad => rw [e3] at p; exact p.elim
          | go f3 ro3 h3 =>
            rw [e3] at p
            cases f3 with
            | ex _ => exact p.elim
            | nx => exact Ps.step (o := .go .nx ro3 h3) p st
            | brk => exact Ps.step (o := .go .brk ro3 h3) p st
            | ct => exact Ps.step (o := .go .ct ro3 h3) p st
            | ret w => exact Ps.step (o := .go (.ret w) ro3 h3) p st
        · subst q
          exact p al' sg' H' st S' cls d er
end
/-! ### [e for a in s if t for b in s2 if t2] -/
def lc2 (g : GM) (t : En → M Bool) (mi : SI) (g1 : GM) (t1 : En → M Bool) (m : SE) (vs1 : List Nat) (ro : En) (x : Itm) : Nat → Nat → List Val → M (List Val)
  | 0, i, acc, h => match nxt x i h with
    | some none => .ok acc h
    | _ => .bad
  | k + 1, i, acc, h => match nxt x i h with
    | none => .bad
    | some none => .ok acc h
    | some (some w) => match g w ro h with
      | .go .nx ro1 h1 => match t ro1 h1 with
        | .ok b h2 => if b = true then match mi ro1 h2 with
            | .ok p h3 => if acc.length + p.2 ≤ sizeLine then match lcTurns g1 t1 m (wipeN ro1 vs1) p.1 p.2 0 acc h3 with
                | .ok acc' h4 => lc2 g t mi g1 t1 m vs1 ro x k (i + 1) acc' h4
                | _ => .bad
              else .bad
            | _ => .bad
          else lc2 g t mi g1 t1 m vs1 ro x k (i + 1) acc h2
        | _ => .bad
      | _ => .bad
def sLc2 (mi : SI) (g : GM) (t : En → M Bool) (mi1 : SI) (g1 : GM) (t1 : En → M Bool) (m : SE) (own vs1 : List Nat) : SE := fun ro => bind (mi ro) fun x => bind (lc2 g t mi1 g1 t1 m vs1 (wipeN ro own) x.1 x.2 0 []) fun ys => ret (.lst ys)
theorem tE_lc2 {K : PySem.W.Frag} {W : WX} {mi mi1 : SI} {g g1 : GM} {sl sl1 : List Nat} {t t1 : En → M Bool} {m : SE} {own vs1 : List Nat} (hsl : ∀ i ∈ sl, i ∈ own) (hsl1 : ∀ i ∈ sl1, i ∈ vs1) (sg : L2.St) (H : Hp) (Q : VK) (p : tE K W (sLc2 mi g t mi1 g1 t1 m own vs1) sg H Q) :
    tLc2 (tI K W mi) (tG K sl g) (tT K W0 t) (tI K W0 mi1) (tG K sl1 g1) (tT K W0 t1) (tE K W0 m) own vs1 sg H Q := by
  obtain ⟨al, B, ro, h, S, p⟩ := p
  refine ⟨al, B, ro, h, S, Po.mono (Po.bind p) fun J H1 ⟨al1, h1, ⟨x, n⟩, st, hr, ⟨it, hlen⟩, q⟩ => ?_⟩
  dsimp only at it q hlen
  intro D hD
  have S1 := (S.step st hr).wiped own
  have hDB : ∀ b ∈ D :: B, b ∈ B ∨ H1 b = none := fun b hb => by
    rcases List.mem_cons.mp hb with e | e
    · exact .inr (e ▸ hD)
    · exact .inl e
  have key : ∀ acc accV al2 H2 h2, Po K B (fun al H => Rep K al B H) sg al1 H1 (obind (.ok acc h2) fun ys => ret (.lst ys)) W Q → acc.length ≤ sizeLine → Stp al1 H1 al2 H2 → HR K al2 (D :: B) H2 h2 → H2 D = some (.lst accV) → Reps K al2 (D :: B) H2 acc accV → Q (.ref D) H2 := by
    intro acc accV al2 H2 h2 q l s2 hr2 d2 r2
    refine q al2 H2 (.ref D) s2 hr2.less (.lst ⟨d2, fun z => hr2.apart D (List.mem_cons_self) z, fun z => ?_⟩ l r2.less)
    exact (hr.fresh hD).2 z
  refine ⟨fun i k H2 => ∃ al2 h2 acc accV, Stp al1 H1 al2 H2 ∧ HR K al2 (D :: B) H2 h2 ∧ H2 D = some (.lst accV) ∧ Reps K al2 (D :: B) H2 acc accV ∧ acc.length ≤ sizeLine ∧
    Po K B (fun al H => Rep K al B H) sg al1 H1 (obind (lc2 g t mi1 g1 t1 m vs1 (wipeN ro own) x k i acc h2) fun ys => ret (.lst ys)) W Q, ⟨n, al1, h1, [], [], Stp.lay hD, hr.grow hD, upd_same, .nil, Nat.zero_le _, q⟩, ?_⟩
  rintro i k H2 ⟨al2, h2, acc, accV, st2, hr2, d2, r2, hl, q2⟩
  obtain ⟨i1, i2⟩ := it al2 (D :: B) H2 h2 st2.toB hDB hr2 i
  cases e0 : nxt x i h2 with
  | none => cases k <;> (unfold lc2 at q2; rw [e0] at q2; exact q2.elim)
  | some o =>
  cases o with
  | none =>
    refine .inl ⟨i1 e0, ?_⟩
    cases k with
    | zero => unfold lc2 at q2; rw [e0] at q2; exact key acc accV al2 H2 h2 q2 hl st2 hr2 d2 r2
    | succ k => unfold lc2 at q2; rw [e0] at q2; exact key acc accV al2 H2 h2 q2 hl st2 hr2 d2 r2
  | some w =>
    obtain ⟨g1', g2⟩ := i2 w e0
    cases k with
    | zero => unfold lc2 at q2; rw [e0] at q2; exact q2.elim
    | succ k =>
    unfold lc2 at q2
    rw [e0] at q2
    refine .inr ⟨g1', fun H3 => ∃ al3 h3 acc accV, Stp al1 H1 al3 H3 ∧ HR K al3 (D :: B) H3 h3 ∧ H3 D = some (.lst accV) ∧ Reps K al3 (D :: B) H3 acc accV ∧ acc.length ≤ sizeLine ∧
      Po K B (fun al H => Rep K al B H) sg al1 H1 (obind (lc2 g t mi1 g1 t1 m vs1 (wipeN ro own) x k (i + 1) acc h3) fun ys => ret (.lst ys)) W Q, fun H3 ⟨al3, h3, acc, accV, a, b, c, d, e, f⟩ => ⟨k, by omega, al3, h3, acc, accV, a, b, c, d, e, f⟩, fun y H3 yy => ?_⟩
    obtain ⟨s3, hr3, r3⟩ := g2 y H3 yy
    have st3 := st2.trans s3
    have d3 : H3 D = some (.lst accV) := s3.keep _ _ d2 (hr2.apart D List.mem_cons_self)
    refine ⟨al2, D :: B, wipeN ro own, h2, w, S1.stepB st3.toB hDB hr3, r3, ?_⟩
    dsimp only at q2
    cases e : g w (wipeN ro own) h2 with
    | bad => rw [e] at q2; exact q2.elim
    | go f ro4 h4 =>
      rw [e] at q2
      cases f with
      | nx =>
        intro al4 sg4 H4 st4 S4 ⟨hl4, f4⟩
        have d4 : H4 D = some (.lst accV) := st4.keep _ _ d3 (hr3.apart D List.mem_cons_self)
        refine ⟨(wipe_same hl4 fun i hi => f4 i fun z => hi (hsl i z)).trans wipe_wipe, ?_⟩
        refine ⟨al4, D :: B, ro4, h4, S4, ?_⟩
        dsimp only at q2
        cases e2 : t ro4 h4 with
        | bad => rw [e2] at q2; exact q2.elim
        | ex _ _ => rw [e2] at q2; exact q2.elim
        | ok b h5 =>
          rw [e2] at q2
          intro al5 H5 v5 st5 hr5 eb
          subst eb
          have d5 : H5 D = some (.lst accV) := st5.keep _ _ d4 (S4.hr.apart D List.mem_cons_self)
          have st15 := (st3.trans st4).trans st5
          have r5 := r2.step ((s3.trans st4).trans st5)
          cases b with
          | false => exact ⟨al5, h5, acc, accV, st15, hr5, d5, r5, hl, q2⟩
          | true =>
            rw [if_pos rfl]
            have S5 := S4.step st5 hr5
            refine ⟨al5, D :: B, ro4, h5, S5, ?_⟩
            dsimp only at q2
            rw [if_pos rfl] at q2
            cases e3 : mi1 ro4 h5 with
            | bad => rw [e3] at q2; exact q2.elim
            | ex _ _ => rw [e3] at q2; exact q2.elim
            | ok pr h6 =>
            obtain ⟨x1, n1⟩ := pr
            rw [e3] at q2
            intro al6 H6 J1 st6 hr6 ⟨it1, hlen1⟩
            dsimp only at it1 hlen1 q2
            split at q2
            case isFalse => exact q2.elim
            rename_i hl6
            have d6 : H6 D = some (.lst accV) := st6.keep _ _ d5 (hr5.apart D List.mem_cons_self)
            have st16 := st15.trans st6
            have r6 := r5.step st6
            have S6 := (S5.step st6 hr6).wiped vs1
            -- the inner loop
            refine ⟨fun j k1 H7 => ∃ al7 h7 acc7 accV7, Stp al1 H1 al7 H7 ∧ StpB (D :: B) al6 H6 al7 H7 ∧ HR K al7 (D :: B) H7 h7 ∧ H7 D = some (.lst accV7) ∧ Reps K al7 (D :: B) H7 acc7 accV7 ∧ acc7.length + k1 ≤ sizeLine ∧
              Po K B (fun al H => Rep K al B H) sg al1 H1 (obind (match lcTurns g1 t1 m (wipeN ro4 vs1) x1 k1 j acc7 h7 with
                | .ok acc' h4 => lc2 g t mi1 g1 t1 m vs1 (wipeN ro own) x k (i + 1) acc' h4
                | _ => .bad) fun ys => ret (.lst ys)) W Q, ⟨n1, al6, h6, acc, accV, st16, (Stp.refl _ _).toB, hr6, d6, r6, hl6, q2⟩, ?_⟩
            rintro j k1 H7 ⟨al7, h7, acc7, accV7, st7, sb7, hr7, d7, r7, hl7, q7⟩
            obtain ⟨j1, j2⟩ := it1 al7 (D :: B) H7 h7 sb7 (fun b hb => .inl hb) hr7 j
            cases e7 : nxt x1 j h7 with
            | none => cases k1 <;> (unfold lcTurns at q7; rw [e7] at q7; exact q7.elim)
            | some o7 =>
            cases o7 with
            | none =>
              refine .inl ⟨j1 e7, al7, h7, acc7, accV7, st7, hr7, d7, r7, by omega, ?_⟩
              cases k1 <;> (unfold lcTurns at q7; rw [e7] at q7; exact q7)
            | some w7 =>
              obtain ⟨go7, y7⟩ := j2 w7 e7
              cases k1 with
              | zero => unfold lcTurns at q7; rw [e7] at q7; exact q7.elim
              | succ k1 =>
              unfold lcTurns at q7
              rw [e7] at q7
              refine .inr ⟨go7, fun H8 => ∃ al7 h7 acc7 accV7, Stp al1 H1 al7 H8 ∧ StpB (D :: B) al6 H6 al7 H8 ∧ HR K al7 (D :: B) H8 h7 ∧ H8 D = some (.lst accV7) ∧ Reps K al7 (D :: B) H8 acc7 accV7 ∧ acc7.length + k1 ≤ sizeLine ∧
                Po K B (fun al H => Rep K al B H) sg al1 H1 (obind (match lcTurns g1 t1 m (wipeN ro4 vs1) x1 k1 (j + 1) acc7 h7 with
                  | .ok acc' h4 => lc2 g t mi1 g1 t1 m vs1 (wipeN ro own) x k (i + 1) acc' h4
                  | _ => .bad) fun ys => ret (.lst ys)) W Q, fun H8 ⟨al8, h8, acc8, accV8, a, b, c, d, e, f, g⟩ => ⟨k1, by omega, al8, h8, acc8, accV8, a, b, c, d, e, f, g⟩, fun y8 H8 yy8 => ?_⟩
              obtain ⟨s8, hr8, r8⟩ := y7 y8 H8 yy8
              have st8 := st7.trans s8
              have sb8 := sb7.trans s8.toB
              have d8 : H8 D = some (.lst accV7) := s8.keep _ _ d7 (hr7.apart D List.mem_cons_self)
              refine ⟨al7, D :: B, wipeN ro4 vs1, h7, w7, S6.stepB sb8 (fun b hb => .inl hb) hr8, r8, ?_⟩
              dsimp only at q7
              cases e9 : g1 w7 (wipeN ro4 vs1) h7 with
              | bad => rw [e9] at q7; exact q7.elim
              | go f9 ro9 h9 =>
                rw [e9] at q7
                cases f9 with
                | nx =>
                  intro al9 sg9 H9 st9 S9 ⟨hl9, f9⟩
                  have d9 : H9 D = some (.lst accV7) := st9.keep _ _ d8 (hr8.apart D List.mem_cons_self)
                  refine ⟨(wipe_same hl9 fun i hi => f9 i fun z => hi (hsl1 i z)).trans wipe_wipe, ?_⟩
                  refine ⟨al9, D :: B, ro9, h9, S9, ?_⟩
                  dsimp only at q7
                  cases e10 : t1 ro9 h9 with
                  | bad => rw [e10] at q7; exact q7.elim
                  | ex _ _ => rw [e10] at q7; exact q7.elim
                  | ok b10 h10 =>
                    rw [e10] at q7
                    intro al10 H10 v10 st10 hr10 eb
                    subst eb
                    have d10 : H10 D = some (.lst accV7) := st10.keep _ _ d9 (S9.hr.apart D List.mem_cons_self)
                    have s810 := (s8.trans st9).trans st10
                    have r10 := r7.step s810
                    have st110 := st7.trans s810
                    have sb610 := sb7.trans s810.toB
                    cases b10 with
                    | false => exact ⟨al10, h10, acc7, accV7, st110, sb610, hr10, d10, r10, by omega, q7⟩
                    | true =>
                      rw [if_pos rfl]
                      refine ⟨al10, D :: B, ro9, h10, S9.step st10 hr10, ?_⟩
                      dsimp only at q7
                      rw [if_pos rfl] at q7
                      cases e11 : m ro9 h10 with
                      | bad => rw [e11] at q7; exact q7.elim
                      | ex _ _ => rw [e11] at q7; exact q7.elim
                      | ok y11 h11 =>
                        rw [e11] at q7
                        intro al11 H11 v11 st11 hr11 r11
                        have d11 : H11 D = some (.lst accV7) := st11.keep _ _ d10 (hr10.apart D List.mem_cons_self)
                        exact ⟨accV7, d11, by rw [← r7.length]; omega, al11, h11, acc7 ++ [y11], accV7 ++ [v11], (st110.trans st11).turn hD (by rw [d11]; simp), (sb610.trans st11.toB).turn List.mem_cons_self, hr11.turn List.mem_cons_self, upd_same, ((r10.step st11).turn List.mem_cons_self).append (.cons (r11.turn List.mem_cons_self) .nil), by simp; omega, q7⟩
                | _ => exact q7.elim
      | _ => exact q2.elim
end Z
set_option Elab.async false
set_option maxRecDepth 100000
set_option linter.unusedVariables false
/-! Z9: own defs, their calls, the end. -/
namespace Z
open PySem PySem.Spec PyProof.Rows L2
/-- a def's body, run -/
def outOf : SO → Out Val
  | .go .nx _ h => .ok .non h
  | .go (.ret w) _ h => .ok w h
  | .go (.ex e) _ h => .ex e h
  | _ => .bad
def runB (n : Nat) (m : SS) (ws : List Val) : M Val := fun h => outOf (m (ws.map some ++ List.replicate (n - ws.length) none) h)
theorem sim_start {K : PySem.W.Frag} {al B : List Addr} {H : Hp} {h : HH} {ws : List Val} {vs : List V} {N : List Str} (hr : HR K al B H h) (r : Reps K al B H ws vs) : Sim K al B (ws.map some ++ List.replicate (N.length - ws.length) none) h (L2.start N vs) H := by
  refine ⟨hr, by simp [L2.start, r.length], fun i w e => ?_⟩
  by_cases l : i < ws.length
  · rw [List.getElem?_append_left (by simpa using l), List.getElem?_map] at e
    obtain ⟨w', e1, e2⟩ := Option.map_eq_some_iff.mp e
    cases e2
    obtain ⟨v, e3, rv⟩ := r.get e1
    refine ⟨v, ?_, rv⟩
    show (vs.map some ++ _)[i]? = _
    rw [List.getElem?_append_left (by rw [List.length_map, ← r.length]; exact l), List.getElem?_map, e3]
    rfl
  · rw [List.getElem?_append_right (by simpa using l)] at e
    obtain ⟨_, e2⟩ := List.mem_replicate.mp (List.mem_of_getElem? e)
    cases e2
theorem ps_run {K : PySem.W.Frag} {B al : List Addr} {H : Hp} {o : SO} {W : WX} {Q : VK} {sg : L2.St} (p : Po K B (fun al H => Rep K al B H) sg al H (outOf o) W Q) (hW : ∀ cls d s s' H, W cls d s H → W cls d s' H) : Ps K B al H o W { nx := fun _ H' => Q .non H', rt := Q } := by
  cases o with
  | bad => exact p
  | go f ro h =>
    cases f with
    | nx => exact fun a b c d S => p a c _ d S.hr .non
    | ret w => exact fun a b c d S v r => p a c v d S.hr r
    | ex e => exact fun a b c d S cls dd er => hW _ _ _ _ _ (p a c cls dd d S.hr er)
    | brk => exact p.elim
    | ct => exact p.elim
section
variable {P : Program} {w : World} {K : PySem.W.Frag} {mg : Str → Option Value} {base : Heap}
theorem fn_ok {x qual : Str} {st : Stmt} {f : Addr} {fd : FuncData} {N ps : List Str} {k n : Nat} {m : SS} (F : Fun K x qual st f fd) (S : FnScope N ps (defScope st)) (hn : N.length = n)
    (hb : ∀ (cdv : Value) (A : Around) (outer : List Env) (s : Shared) (H : Hp) (E : XK), RmG k (A.deeper (envOfC qual (defScope st) s.heap.objs.size f cdv)) →
      PSs (cxOf (L2.CX P w) P w K mg base N qual (defScope st) f cdv A outer s H E) (defBody st) (tS K (fun cls d _ H => E cls d H) m)) : FnG P w K mg base (L2.CX P w) (k + 1) f fd ps (spF K ps.length (runB n m)) := by
  subst hn
  refine funG F S (fun vs H Q E ⟨al, B, h, ws, hr, r, l, p⟩ => r.length.symm.trans l) fun cdv A outer s H vs Q E hr h => ⟨_, hb cdv A outer s H E hr, ?_⟩
  obtain ⟨al, B, hh, ws, hr2, r, l, p⟩ := h
  exact ⟨al, B, _, hh, sim_start hr2 r, ps_run p fun _ _ _ _ _ z => z⟩
theorem fn_okD {x qual : Str} {params : Arguments} {body : List Stmt} {scope : Scope} {dvs : List V} {kws : List (Str × V)} {f : Addr} {fd : FuncData} {N ps : List Str} {k n : Nat} {m : SS} (F : FunD K x qual params body scope dvs kws f fd) (S : FnScope N ps scope) (hn : N.length = n)
    (hb : ∀ (cdv : Value) (A : Around) (outer : List Env) (s : Shared) (H : Hp) (E : XK), RmG k (A.deeper (envOfC qual scope s.heap.objs.size f cdv)) →
      PSs (cxOf (L2.CX P w) P w K mg base N qual scope f cdv A outer s H E) body (tS K (fun cls d _ H => E cls d H) m)) : FnG P w K mg base (L2.CX P w) (k + 1) f fd ps (spF K ps.length (runB n m)) := by
  subst hn
  refine funDG F S (fun vs H Q E ⟨al, B, h, ws, hr, r, l, p⟩ => r.length.symm.trans l) fun cdv A outer s H vs Q E hr h => ⟨_, hb cdv A outer s H E hr, ?_⟩
  obtain ⟨al, B, hh, ws, hr2, r, l, p⟩ := h
  exact ⟨al, B, _, hh, sim_start hr2 r, ps_run p fun _ _ _ _ _ z => z⟩
/-- law itself -/
def spLaw (K : PySem.W.Frag) : Sp := fun vs H Q _ => ∃ (a : Addr) (ns : List Int), vs = [.ref a] ∧ SqL K H a (ns.map V.int) ∧ ns.length ≤ 63 ∧ (∀ z ∈ ns, Builtin.Int.intBits z ≤ 1048576) ∧ ∀ H', Q (.bl true) H'
theorem law_ok {x qual : Str} {st : Stmt} {f : Addr} {fd : FuncData} {N : List Str} {y : Str} {k n : Nat} {m : SS} (F : Fun K x qual st f fd) (S : FnScope N [y] (defScope st)) (hn : N.length = n)
    (hb : ∀ (cdv : Value) (A : Around) (outer : List Env) (s : Shared) (H : Hp) (E : XK), RmG k (A.deeper (envOfC qual (defScope st) s.heap.objs.size f cdv)) →
      PSs (cxOf CX0 P w K mg base N qual (defScope st) f cdv A outer s H E).nox (defBody st) (tS K W0 m))
    (hl : ∀ ns : List Int, ns.length ≤ 63 → (∀ z ∈ ns, Builtin.Int.intBits z ≤ 1048576) → ∃ h, runB n m [.scr ns] [] = .ok (.bl true) h) : FnG P w K mg base CX0 (k + 1) f fd [y] (spLaw K) := by
  subst hn
  refine funG0 F S (fun vs H Q E ⟨a, ns, e, _⟩ => by rw [e]; rfl) fun cdv A outer s H vs Q E hr h => ⟨_, hb cdv A outer s H E hr, ?_⟩
  obtain ⟨a, ns, rfl, sq, l, hbits, q⟩ := h
  have hr0 : HR K [] [] H [] := ⟨.nil, rfl, fun n a o e => by simp at e, fun a e => by simp at e, fun a e => by simp at e⟩
  have r0 : Rep K [] [] H (.scr ns) (.ref a) := by
    refine .scr ?_ (Nat.le_trans l (by decide))
    rcases sq with sq | sq
    · exact .inl ⟨sq, by simp, by simp⟩
    · exact .inr sq
  have S0 := sim_start (N := N) hr0 (.cons r0 .nil)
  refine ⟨[], [], _, [], S0, ps_run (sg := []) (Q := Q) ?_ fun _ _ _ _ _ z => z⟩
  obtain ⟨h', e⟩ := hl ns l hbits
  have e' : outOf (m ([Val.scr ns].map some ++ List.replicate (N.length - [Val.scr ns].length) none) []) = .ok (.bl true) h' := e
  rw [e']
  intro al' H' v _ _ rv
  cases rv
  exact q H'
theorem walk {l : PySem.W.OpenLaw} {q : Program} {loose : List Str} {XP : (Str → Option Value) → Heap → Prop} {YP : World → Heap → Prop} {d : DefRec} {K : Params → PySem.W.Frag} {x : Str} {k : Nat} (hn : l.most = some 63) (hdf : d.params.defaults = []) (hr : RmG k callerA)
    (hY : ∀ (w : World) (h : Heap), YP w h → (K w.params).In h)
    (F : ∀ (w : World) (mg : Str → Option Value) (fa : Addr) (h : Heap), (K w.params).In h → h.Ns mainGlobals mg → mg d.name = some (.ref fa) →
      ∃ fd : FuncData, (∀ (s : Shared) (u : Value), BindsTo s fd ⟨[u], []⟩ [(x, u)]) ∧ ∀ base : Heap, (K w.params).In base → base.Ns mainGlobals mg → FnG l.prog w (K w.params) mg base CX0 k fa fd [x] (spLaw (K w.params))) :
    PySem.W.WalkO q loose XP YP l.row.toRowW d [] (fun f vs => PySem.call f vs) :=
  walk_ofG (n := 63) (k := k) (x := x) (CX := fun _ => CX0) (sp := fun w => spLaw (K w.params)) hn (by decide) hdf hr hY F (fun _ _ a ns hl hb hS => ⟨a, ns, rfl, hS, hl, hb, fun _ => rfl⟩) fun _ _ _ _ _ z => z
end
/-! ### how arguments come -/
section
variable {K : PySem.W.Frag} {x qual : Str} {params : Arguments} {body : List Stmt} {scope : Scope} {kws : List (Str × V)} {f : Addr} {fd : FuncData} {ps : List Str}
theorem kbz_pos (b : Binds K fd ps []) : KBz K fd ps ps.length [] (fun ws _ => ws) := by
  refine ⟨fun us _ => us, fun vs _ => vs, ⟨fun s us ws X l1 l2 => ?_, fun r _ => r⟩, fun _ _ _ _ _ _ _ r _ => r⟩
  have q := b s us X (by rw [List.append_nil]; exact l1)
  rw [List.append_nil] at q
  exact q
/-- keyword-only parameters: ms lack, the others are written -/
theorem kbz_kw (F : FunD K x qual params body scope [] kws f fd) (n : Nat) (ks : List Str) (ms : List (Str × V)) (mw : List Val) (g : {α : Type} → List α → List α → List α → List α) (hk : kws ≠ []) (hms : ∀ q ∈ ms, q ∈ kws)
    (hrep : ∀ al B H, Reps K al B H mw (ms.map (·.2)))
    (hrel : ∀ {vs mz zs : List V} {us mv ws : List Value}, Vals vs us → Vals mz mv → Vals zs ws → Vals (g vs mz zs) (g us mv ws))
    (hrel2 : ∀ {al B : List Addr} {H : Hp} {vs mz zs : List V} {us mv ws : List Val}, Reps K al B H us vs → Reps K al B H mv mz → Reps K al B H ws zs → Reps K al B H (g us mv ws) (g vs mz zs))
    (h : ∀ (D : Addr) (doc pm : Value) (an : Option Addr) (cdv ct : Value) (us mv ws : List Value), us.length = n → mv.length = ms.length → ws.length = ks.length →
      KwChain D ((ms.map (·.1)).zip mv) (bindArgs (PySem.W.fnOf x qual params body scope .none (.ref D) doc pm an cdv ct) ⟨us, ks.zip ws⟩) (ps.zip (g us mv ws))) : KBz K fd ps n ks (fun us ws => g us mw ws) := by
  obtain ⟨oc, od, dV, kV, doc, pm, an, cdv, ct, osl, rfl, lk, hcd, hD, hK⟩ := F.ex
  rcases hD with ⟨_, rfl⟩ | ⟨e, _⟩
  · rcases hK with e | ⟨D, rfl, hq⟩
    · exact absurd e hk
    · obtain ⟨mv, hl, rk, hks⟩ := kwd_vals (ms := ms) fun q hm => hq q (hms q hm)
      refine ⟨fun us ws => g us mv ws, fun vs zs => g vs (ms.map (·.2)) zs, ⟨fun s us ws X l1 l2 => ?_, fun r1 r2 => hrel r1 rk r2⟩, fun al B H ws vs zs us r1 r2 => hrel2 r1 (hrep al B H) r2⟩
      exact BindsTo.of_looks fun M => KwChain.looks X hks (h D doc pm an cdv ct us mv ws l1 hl l2)
  · exact absurd rfl e
end
/-! ### in short -/
section
variable {X : Cx} {W : WX}
theorem ov (i : Nat) {x : Str} {pos : Pos} (hN : X.N[i]? = some x := by rfl) (hv : Vis X.env.scope x := by first | exact Or.inl rfl | exact Or.inr (Or.inl rfl) | exact Or.inr (Or.inr rfl)) (hd : (x == ("__debug__" : Str)) = false := by decide)
    (hcd : (x == ("__classdict__" : Str)) = false := by decide) : PE X (.Name x pos) (tE X.K W (sVar i)) := oe_var hN hv hd hcd
/-- a built-in class as a value -/
theorem oe_ty {x : Str} {n : String} {pos : Pos} (hg : Gl X x) (hm : X.mg x = none) (hv : bootBuiltins x = some (.type n)) (hn : x ≠ "__name__" := by decide) (hd : (x == ("__debug__" : Str)) = false := by decide) : PE X (.Name x pos) (tE X.K W (sC (.ty n))) :=
  oe_c (pe_bltn hg hm hv (v := .ty n) rfl hn hd) fun _ _ _ => .ty n
end
section
variable {K : PySem.W.Frag} {al B : List Addr} {H : Hp}
/-- a tuple of texts that stands in the written part -/
theorem rep_texts {T : Addr} {o : Obj} {its : Array Value} {n : Nat} {xs : List Str} (l : K.lookup T = some o) (c : o.cls = .type "tuple") (d : o.dict = none) (e : o.data = .seq its n) (r : Vals (xs.map V.str) its.toList) (z : xs.length ≤ sizeLine) : Rep K al B H (.tup (xs.map Val.str)) (.ref T) := by
  refine .tup (.inr ⟨o, its, n, l, c, d, e, ?_, r⟩) (by rw [List.length_map]; exact z) (Reps.map (fun x => .str x) xs)
  have q := r.length
  rw [List.length_map] at q
  have q2 : its.toList.length = its.size := Array.length_toList
  exact (q2.symm.trans q.symm) ▸ z
theorem rep_ints {T : Addr} {o : Obj} {its : Array Value} {n : Nat} {xs : List Int} (l : K.lookup T = some o) (c : o.cls = .type "tuple") (d : o.dict = none) (e : o.data = .seq its n) (r : Vals (xs.map V.int) its.toList) (z : xs.length ≤ sizeLine) : Rep K al B H (.tup (xs.map Val.int)) (.ref T) := by
  refine .tup (.inr ⟨o, its, n, l, c, d, e, ?_, r⟩) (by rw [List.length_map]; exact z) (Reps.map (fun x => .int x) xs)
  have q := r.length
  rw [List.length_map] at q
  have q2 : its.toList.length = its.size := Array.length_toList
  exact (q2.symm.trans q.symm) ▸ z
end
end Z
set_option Elab.async false
set_option maxRecDepth 100000
set_option linter.unusedVariables false
/-! ZC: chains of comparisons of any length; tests of comprehensions. -/
namespace Z
open PySem PySem.Spec PyProof.Rows L2
structure CH (X : Cx) (ops : List CmpOp) (es : List Expr) (t : V → TE) : Prop where
  run : ∀ (pos : Pos) (pins : List (Addr × Obj)) (s : Shared) (σ : L2.St) (H : Hp) (x : V) (u : Value) (Q : VK), Inv X pins σ H s → RelV x u → t x σ H Q → wpAny (model X.prog X.w) X.A (compareChain pos u ops (evalEach es X.env)) (EP X pins σ Q) X.xe s
  tst : ∀ (pos : Pos) (pins : List (Addr × Obj)) (s : Shared) (σ : L2.St) (H : Hp) (x : V) (u : Value) (Q : Bool → Hp → Prop), Inv X pins σ H s → RelV x u → t x σ H (fun z H' => ∃ k, z = .bl k ∧ Q k H') → wpAny (model X.prog X.w) X.A (testChain pos u ops (evalEach es X.env)) (TP X pins σ Q) X.xe s
section
variable {X : Cx} {a e e' : Expr} {es : List Expr} {op op' : CmpOp} {ops : List CmpOp} {r : R2} {ta te : TE} {t : V → TE} {pos : Pos}
theorem ch_last (ho : OpR X (compareOp op) r) (he : PE X e te) : CH X [op] [e] (fun x σ H Q => te σ H fun y H1 => r x y H1 Q) := by
  refine ⟨fun pos pins s σ H x u Q I rx h => ?_, fun pos pins s σ H x u Q I rx h => ?_⟩
  · exact chain_last (thn (he.run pins s σ H _ I h) fun v s1 ⟨y, H1, I1, r1, q1⟩ => ho pins s1 σ H1 x y u v Q I1 rx r1 q1)
  · refine test_last (thn (he.run pins s σ H _ I h) fun v s1 ⟨y, H1, I1, r1, q1⟩ => thn (ho pins s1 σ H1 x y u v _ I1 rx r1 q1) fun d s2 ⟨z, H2, I2, r2, k, ek, q2⟩ => ?_)
    subst ek
    cases r2
    exact wpAny_truthy_bool ⟨H2, I2, q2⟩
theorem ch_link (ho : OpR X (compareOp op) r) (he : PE X e te) (hr : CH X (op' :: ops) (e' :: es) t) :
    CH X (op :: op' :: ops) (e :: e' :: es) (fun x σ H Q => te σ H fun y H1 => r x y H1 fun z H2 => ∃ k, z = .bl k ∧ if k = true then t y σ H2 Q else Q (.bl false) H2) := by
  refine ⟨fun pos pins s σ H x u Q I rx h => ?_, fun pos pins s σ H x u Q I rx h => ?_⟩
  · refine chain_link (thn (he.run pins s σ H _ I h) fun v s1 ⟨y, H1, I1, r1, q1⟩ => thn (ho pins s1 σ H1 x y u v _ I1 rx r1 q1) fun d s2 ⟨z, H2, I2, r2, k, ek, q2⟩ => ?_)
    subst ek
    cases r2
    refine wpAny_truthy_bool ?_
    cases k with
    | false => exact ite_ff ⟨.bl false, H2, I2, rfl, q2⟩
    | true => exact ite_tt (hr.run pos pins s2 σ H2 y v Q I2 r1 q2)
  · refine test_link (thn (he.run pins s σ H _ I h) fun v s1 ⟨y, H1, I1, r1, q1⟩ => thn (ho pins s1 σ H1 x y u v _ I1 rx r1 q1) fun d s2 ⟨z, H2, I2, r2, k, ek, q2⟩ => ?_)
    subst ek
    cases r2
    refine wpAny_truthy_bool ?_
    cases k with
    | false =>
      obtain ⟨k', e', q'⟩ := q2
      cases e'
      exact ite_ff ⟨H2, I2, q'⟩
    | true => exact ite_tt (hr.tst pos pins s2 σ H2 y v Q I2 r1 q2)
theorem pe_ch {e1 e2 : Expr} (ha : PE X a ta) (hc : CH X (op :: op' :: ops) (e1 :: e2 :: es) t) (hm : lastMarks (op :: op' :: ops) (e1 :: e2 :: es) = false) : PE X (.Compare a (op :: op' :: ops) (e1 :: e2 :: es) pos) (fun σ H Q => ta σ H fun x H1 => t x σ H1 Q) :=
  ⟨fun pins s σ H Q I h => Compare_chain (thn (ha.run pins s σ H _ I h) fun v s1 ⟨x, H1, I1, r1, q1⟩ => hc.run _ pins s1 σ H1 x v Q I1 r1 q1) hm⟩
theorem pt_ch {e1 e2 : Expr} (ha : PE X a ta) (hc : CH X (op :: op' :: ops) (e1 :: e2 :: es) t) (hm : lastMarks (op :: op' :: ops) (e1 :: e2 :: es) = false) : PT X (.Compare a (op :: op' :: ops) (e1 :: e2 :: es) pos) (tTest fun σ H Q => ta σ H fun x H1 => t x σ H1 Q) :=
  ⟨fun pins s σ H Q I h => isTrue_chain (thn (ha.run pins s σ H _ I h) fun v s1 ⟨x, H1, I1, r1, q1⟩ => hc.tst _ pins s1 σ H1 x v Q I1 r1 q1) hm⟩
end
/-! own readings -/
abbrev SK := Val → SE
def kLast (f : Val → Val → M Val) (m : SE) : SK := fun a ro => bind (m ro) fun b => f a b
def kLink (f : Val → Val → M Val) (m : SE) (k : SK) : SK := fun a ro => bind (m ro) fun b => bind (f a b) fun z => match z with
  | .bl true => k b ro
  | .bl false => ret (.bl false)
  | _ => fail
def sChn (m : SE) (k : SK) : SE := fun ro => bind (m ro) fun a => k a ro
def tCK (K : PySem.W.Frag) (W : WX) (k : SK) : V → TE := fun v sg H Q => ∃ al B ro h w, Sim K al B ro h sg H ∧ Rep K al B H w v ∧ Po K B (fun al H => Rep K al B H) sg al H (k w ro h) W Q
section
variable {X : Cx} {W : WX} {a e e' : Expr} {es : List Expr} {op op' : CmpOp} {ops : List CmpOp} {r : R2} {m : SE} {f : Val → Val → M Val} {k : SK} {pos : Pos}
theorem CH.weak {t t' : V → TE} (h : CH X ops es t) (i : ∀ x sg H Q, t' x sg H Q → t x sg H Q) : CH X ops es t' :=
  ⟨fun pos pins s σ H x u Q I rx q => h.run pos pins s σ H x u Q I rx (i _ _ _ _ q), fun pos pins s σ H x u Q I rx q => h.tst pos pins s σ H x u Q I rx (i _ _ _ _ q)⟩
theorem ok_last (ho : OpR X (compareOp op) r) (lk : Lk2 X.K f r) (he : PE X e (tE X.K W m)) : CH X [op] [e] (tCK X.K W (kLast f m)) := by
  refine CH.weak (ch_last ho he) ?_
  rintro v sg H Q ⟨al, B, ro, h, w, S, r1, p⟩
  refine ⟨al, B, ro, h, S, Po.mono (Po.bind p) fun v2 H2 ⟨al2, h2, w2, st2, hr2, r2, p2⟩ => ?_⟩
  exact lk W al2 B sg H2 h2 w w2 v v2 Q hr2 (r1.step st2) r2 p2
theorem ok_link (ho : OpR X (compareOp op) r) (lk : Lk2 X.K f r) (he : PE X e (tE X.K W m)) (hr : CH X (op' :: ops) (e' :: es) (tCK X.K W k)) : CH X (op :: op' :: ops) (e :: e' :: es) (tCK X.K W (kLink f m k)) := by
  refine CH.weak (ch_link ho he hr) ?_
  rintro v sg H Q ⟨al, B, ro, h, w, S, r1, p⟩
  refine ⟨al, B, ro, h, S, Po.mono (Po.bind p) fun v2 H2 ⟨al2, h2, w2, st2, hr2, r2, p2⟩ => ?_⟩
  refine lk W al2 B sg H2 h2 w w2 v v2 _ hr2 (r1.step st2) r2 (Po.mono (Po.bind p2) fun v3 H3 ⟨al3, h3, w3, st3, hr3, r3, p3⟩ => ?_)
  split at p3
  · cases r3
    refine ⟨true, rfl, ?_⟩
    rw [if_pos rfl]
    exact ⟨al3, B, ro, h3, w2, (S.step st2 hr2).step st3 hr3, r2.step st3, p3⟩
  · cases r3
    refine ⟨false, rfl, ?_⟩
    rw [if_neg Bool.false_ne_true]
    exact Po.now p3 hr3 (.bl _)
  · exact p3.elim
theorem tE_chn {K : PySem.W.Frag} (sg : L2.St) (H : Hp) (Q : VK) (p : tE K W (sChn m k) sg H Q) : tE K W m sg H (fun x H1 => tCK K W k x sg H1 Q) := by
  obtain ⟨al, B, ro, h, S, p⟩ := p
  exact ⟨al, B, ro, h, S, Po.mono (Po.bind p) fun v1 H1 ⟨al1, h1, w1, st1, hr1, r1, p1⟩ => ⟨al1, B, ro, h1, w1, S.step st1 hr1, r1, p1⟩⟩
theorem oe_chn {e1 e2 : Expr} (ha : PE X a (tE X.K W m)) (hc : CH X (op :: op' :: ops) (e1 :: e2 :: es) (tCK X.K W k)) (hm : lastMarks (op :: op' :: ops) (e1 :: e2 :: es) = false := by rfl) : PE X (.Compare a (op :: op' :: ops) (e1 :: e2 :: es) pos) (tE X.K W (sChn m k)) :=
  PE.weak (pe_ch ha hc hm) tE_chn
theorem ot_chn {e1 e2 : Expr} (ha : PE X a (tE X.K W m)) (hc : CH X (op :: op' :: ops) (e1 :: e2 :: es) (tCK X.K W k)) (hm : lastMarks (op :: op' :: ops) (e1 :: e2 :: es) = false := by rfl) : PT X (.Compare a (op :: op' :: ops) (e1 :: e2 :: es) pos) (tT X.K W (asT (sChn m k))) :=
  PT.weak (pt_ch ha hc hm) (tT_as tE_chn)
def tYesZ : En → M Bool := fun _ => ret true
theorem PTs.weak {ifs : List Expr} {t t' : TT} (h : PTs X ifs t) (i : ∀ sg H Q, t' sg H Q → t sg H Q) : PTs X ifs t' := ⟨fun pins s sg H Q I q => h.run pins s sg H Q I (i _ _ _ q)⟩
theorem ots_nil : PTs X [] (tT X.K W tYesZ) := by
  refine PTs.weak pts_nil ?_
  rintro sg H Q ⟨al, B, ro, h, S, p⟩
  exact Po.now p S.hr rfl
theorem ots_one {c : Expr} {t : En → M Bool} (h : PT X c (tT X.K W t)) : PTs X [c] (tT X.K W t) := pts_one h
/-- [e for a in s if t for b in s2 if t2] -/
theorem oe_lc2 {elt tg iter tg1 iter1 : Expr} {ifs ifs1 : List Expr} {scope : Scope} {own : List (Str × Nat)} {vs1 : List Nat} {mi mi1 : SI} {g g1 : GM} {sl sl1 : List Nat} {t t1 : En → M Bool} (hc : X.calm = true) (hN : X.N.Nodup) (hi : PI X tg iter (tI X.K W mi)) (ok : BlkOk X.N X.env.scope scope own) (hv : ∀ i ∈ vs1, i ∈ own.map (·.2)) (hsl : ∀ i ∈ sl, i ∈ own.map (·.2)) (hsl1 : ∀ i ∈ sl1, i ∈ vs1)
    (hg : ∀ (s : Shared) (H : Hp) (C : Addr) (cl : List (Str × Addr)) (fp : List Addr), PG (X.blk s H scope (compEnvC scope cl C X.env) fp) tg (tG X.K sl g))
    (ht : ∀ (s : Shared) (H : Hp) (C : Addr) (cl : List (Str × Addr)) (fp : List Addr), PTs (X.blk s H scope (compEnvC scope cl C X.env) fp) ifs (tT X.K W0 t))
    (hi1 : ∀ (s : Shared) (H : Hp) (C : Addr) (cl : List (Str × Addr)) (fp : List Addr), PI (X.blk s H scope (compEnvC scope cl C X.env) fp) tg1 iter1 (tI X.K W0 mi1))
    (hg1 : ∀ (s : Shared) (H : Hp) (C : Addr) (cl : List (Str × Addr)) (fp : List Addr), PG (X.blk s H scope (compEnvC scope cl C X.env) fp) tg1 (tG X.K sl1 g1))
    (ht1 : ∀ (s : Shared) (H : Hp) (C : Addr) (cl : List (Str × Addr)) (fp : List Addr), PTs (X.blk s H scope (compEnvC scope cl C X.env) fp) ifs1 (tT X.K W0 t1))
    (he : ∀ (s : Shared) (H : Hp) (C : Addr) (cl : List (Str × Addr)) (fp : List Addr), PE (X.blk s H scope (compEnvC scope cl C X.env) fp) elt (tE X.K W0 m)) (hs : ∀ x, foldedSetIterable iter X.env x = pure x) (hs1 : ∀ env x, foldedSetIterable iter1 env x = pure x) :
    PE X (.ListComp elt [⟨tg, iter, ifs, 0⟩, ⟨tg1, iter1, ifs1, 0⟩] scope pos) (tE X.K W (sLc2 mi g t mi1 g1 t1 m (own.map (·.2)) vs1)) := PE.weak (pe_lc2 hc hN hi ok hv hg ht hi1 hg1 ht1 he hs hs1) (tE_lc2 hsl hsl1)
end
end Z
set_option Elab.async false
set_option maxRecDepth 100000
set_option linter.unusedVariables false
/-! ZG: what the printed texts lean on. -/
namespace Z
open PySem PySem.Spec PyProof.Rows L2
theorem zb_len : bootBuiltins "len" = some (.builtin "len") := by decide +kernel
theorem zb_abs : bootBuiltins "abs" = some (.builtin "abs") := by decide +kernel
theorem zb_max : bootBuiltins "max" = some (.builtin "max") := by decide +kernel
theorem zb_min : bootBuiltins "min" = some (.builtin "min") := by decide +kernel
theorem zb_all : bootBuiltins "all" = some (.builtin "all") := by decide +kernel
theorem zb_any : bootBuiltins "any" = some (.builtin "any") := by decide +kernel
theorem zb_isinstance : bootBuiltins "isinstance" = some (.builtin "isinstance") := by decide +kernel
theorem zb_int : bootBuiltins "int" = some (.type "int") := by decide +kernel
theorem zb_bool : bootBuiltins "bool" = some (.type "bool") := by decide +kernel
theorem zb_str : bootBuiltins "str" = some (.type "str") := by decide +kernel
theorem zb_list : bootBuiltins "list" = some (.type "list") := by decide +kernel
theorem zb_tuple : bootBuiltins "tuple" = some (.type "tuple") := by decide +kernel
theorem zb_dict : bootBuiltins "dict" = some (.type "dict") := by decide +kernel
theorem takesW {X : Cx} : Takes X W0 := fun _ _ ⟨_, _, _, _, _, _, _, _, _, _, _, _, _, _, _, _, z⟩ => z.elim
/-- a constant of the top -/
def Cst (K : PySem.W.Frag) (mg : Str → Option Value) (x : Str) (w : Val) : Prop := ∃ u v, mg x = some u ∧ RelV v u ∧ ∀ al B H, Rep K al B H w v
section
variable {X : Cx} {W : WX}
theorem oe_gl {x : Str} {w : Val} {pos : Pos} (hg : Gl X x) (c : Cst X.K X.mg x w) (hd : (x == ("__debug__" : Str)) = false := by decide) : PE X (.Name x pos) (tE X.K W (sC w)) := by
  obtain ⟨u, v, e, r, q⟩ := c
  exact oe_glob hg e r q hd
end
theorem cst_int {K : PySem.W.Frag} {mg : Str → Option Value} {x : Str} {i : Int} {t : Tok} (e : mg x = some (.int i t)) : Cst K mg x (.int i) := ⟨_, .int i, e, ⟨_, rfl⟩, fun _ _ _ => .int i⟩
theorem cst_str {K : PySem.W.Frag} {mg : Str → Option Value} {x : Str} {i : Str} {t : Tok} (e : mg x = some (.str i t)) : Cst K mg x (.str i) := ⟨_, .str i, e, ⟨_, rfl⟩, fun _ _ _ => .str i⟩
theorem vals_texts : ∀ {us : List Value} {xs : List Str}, (us.map fun u => match u with | .str y _ => some y | _ => none) = xs.map some → Vals (xs.map V.str) us
  | [], [], _ => .nil
  | [], _ :: _, h => by cases h
  | _ :: _, [], h => by cases h
  | u :: us, x :: xs, h => by
    rw [List.map_cons, List.map_cons] at h
    injection h with h1 h2
    refine .cons ?_ (vals_texts h2)
    cases u <;> first | (cases h1; done) | (cases h1; exact ⟨_, rfl⟩)
theorem cst_texts {K : PySem.W.Frag} {mg : Str → Option Value} {x : Str} {T : Addr} {o : Obj} {its : Array Value} {n : Nat} {xs : List Str} (e : mg x = some (.ref T)) (l : K.lookup T = some o) (c : o.cls = .type "tuple") (d : o.dict = none) (q : o.data = .seq its n)
    (r : (its.toList.map fun u => match u with | .str y _ => some y | _ => none) = xs.map some) (z : xs.length ≤ sizeLine) : Cst K mg x (.tup (xs.map Val.str)) :=
  ⟨_, .ref T, e, rfl, fun _ _ _ => rep_texts l c d q (vals_texts r) z⟩
/-- an exception's own class -/
structure ExcT (K : PySem.W.Frag) (mg : Str → Option Value) (x : Str) (C : Addr) (bm : List Value) (new : String) : Prop where
  g : mg x = some (.ref C)
  xP : PySem.W.excIn K C bm new = true
  kP : PySem.W.keepIn K (.ref C) = true
  bP : PySem.W.subIn K (.ref C) (.type "BaseException") = some true
  tP : PySem.W.typeIn K (.ref C) = some (.type "type")
  iP : PySem.W.isClsIn K C = true
  sP : PySem.W.subIn K (.ref C) (.ref C) = some true
theorem ExcT.self {K : PySem.W.Frag} {mg : Str → Option Value} {x : Str} {C : Addr} {bm : List Value} {new : String} (T : ExcT K mg x C bm new) : PySem.W.exmOne K (.ref C) (.ref C) = some true := by
  have e1 : (PySem.W.subIn K (.ref C) (.type "BaseException") == some true) = true := by rw [T.bP]; rfl
  have e2 : ((PySem.W.clsIn K C).isSome && PySem.W.typeIn K (.ref C) == some (.type "type")) = true := by
    have h2' : (PySem.W.clsIn K C).isSome = true := T.iP
    rw [h2', T.tP]; rfl
  show (if (PySem.W.subIn K (.ref C) (.type "BaseException") == some true) = true then (if ((PySem.W.clsIn K C).isSome && PySem.W.typeIn K (.ref C) == some (.type "type")) = true then PySem.W.subIn K (.ref C) (.ref C) else none) else none) = some true
  rw [if_pos e1, if_pos e2]
  exact T.sP
/-- except X, X the one class that may come -/
def only (C : Addr) : Value → Option Bool := fun v => match v with
  | .ref a => if a = C then some true else none
  | _ => none
theorem only_ok {K : PySem.W.Frag} {mg : Str → Option Value} {x : Str} {C : Addr} {bm : List Value} {new : String} (T : ExcT K mg x C bm new) (v : Value) (b : Bool) (h : only C v = some b) : PySem.W.exmOne K v (.ref C) = some b := by
  unfold only at h
  split at h
  · split at h
    · rename_i e
      cases h
      rw [e]
      exact T.self
    · cases h
  · cases h
end Z
set_option Elab.async false
set_option maxRecDepth 100000
set_option linter.unusedVariables false
/-! ZL: how the own evaluators go, step by step. -/
namespace Z
open PySem PySem.Spec PyProof.Rows L2
section
variable {β γ : Type} {ro : En} {h : HH}
@[simp] theorem outOf_nx : outOf (.go .nx ro h) = .ok .non h := rfl
@[simp] theorem outOf_ret {w : Val} : outOf (.go (.ret w) ro h) = .ok w h := rfl
@[simp] theorem outOf_ex {e : Ex} : outOf (.go (.ex e) ro h) = .ex e h := rfl
def sq (o : SO) (m : SS) : SO := match o with
  | .go .nx ro1 h1 => m ro1 h1
  | o => o
@[simp] theorem sq_nx {m : SS} : sq (.go .nx ro h) m = m ro h := rfl
@[simp] theorem sq_ret {m : SS} {w : Val} : sq (.go (.ret w) ro h) m = .go (.ret w) ro h := rfl
@[simp] theorem sq_ex {m : SS} {e : Ex} : sq (.go (.ex e) ro h) m = .go (.ex e) ro h := rfl
@[simp] theorem sq_brk {m : SS} : sq (.go .brk ro h) m = .go .brk ro h := rfl
@[simp] theorem sq_ct {m : SS} : sq (.go .ct ro h) m = .go .ct ro h := rfl
@[simp] theorem nSeq_e {a b : SS} : nSeq a b ro h = sq (a ro h) b := rfl
theorem sq_ite {p : Prop} [Decidable p] {x y : SO} {m : SS} : sq (if p then x else y) m = if p then sq x m else sq y m := by split <;> rfl
theorem outOf_ite {p : Prop} [Decidable p] {x y : SO} : outOf (if p then x else y) = if p then outOf x else outOf y := by split <;> rfl
@[simp] theorem nNext_e : nNext ro h = .go .nx ro h := rfl
@[simp] theorem nBrk_e : nBrk ro h = .go .brk ro h := rfl
@[simp] theorem nCt_e : nCt ro h = .go .ct ro h := rfl
@[simp] theorem nRetN_e : nRetN ro h = .go (.ret .non) ro h := rfl
@[simp] theorem sb_ok {a : β} {k : β → HH → SO} : sbind (.ok a h) ro k = k a h := rfl
@[simp] theorem sb_ex {e : Ex} {k : β → HH → SO} : sbind (.ex e h) ro k = .go (.ex e) ro h := rfl
@[simp] theorem nRet_e {m : SE} : nRet m ro h = sbind (m ro h) ro fun w h1 => .go (.ret w) ro h1 := rfl
@[simp] theorem nExpr_e {m : SE} : nExpr m ro h = sbind (m ro h) ro fun _ h1 => .go .nx ro h1 := rfl
@[simp] theorem nSet_e {i : Nat} {m : SE} : nSet i m ro h = sbind (m ro h) ro fun w h1 => .go .nx (ro.set i (some w)) h1 := rfl
@[simp] theorem nIf_e {c : En → M Bool} {a b : SS} : nIf c a b ro h = sbind (c ro h) ro fun k h1 => if k = true then a ro h1 else b ro h1 := rfl
@[simp] theorem nRaise_e {e : Ex} : nRaise e ro h = .go (.ex e) ro h := rfl
@[simp] theorem ob_ok {a : β} {f : β → M γ} : obind (.ok a h) f = f a h := rfl
@[simp] theorem ob_ex {e : Ex} {f : β → M γ} : obind (.ex e h : Out β) f = .ex e h := rfl
theorem ob_ite {p : Prop} [Decidable p] {x y : Out β} {f : β → M γ} : obind (if p then x else y) f = if p then obind x f else obind y f := by split <;> rfl
theorem sb_ite {p : Prop} [Decidable p] {x y : Out β} {k : β → HH → SO} : sbind (if p then x else y) ro k = if p then sbind x ro k else sbind y ro k := by split <;> rfl
@[simp] theorem ret_e {a : β} : (ret a : M β) h = .ok a h := rfl
@[simp] theorem bind_e {m : M β} {f : β → M γ} : bind m f h = obind (m h) f := rfl
@[simp] theorem sC_e {w : Val} : sC w ro h = .ok w h := rfl
@[simp] theorem sVar_e {i : Nat} {w : Val} (e : ro[i]? = some (some w)) : sVar i ro h = .ok w h := by unfold sVar; rw [e]
@[simp] theorem sVar_0 {w : Val} {r : En} : sVar 0 (some w :: r) h = .ok w h := rfl
@[simp] theorem sVar_1 {w : Val} {a : Option Val} {r : En} : sVar 1 (a :: some w :: r) h = .ok w h := rfl
@[simp] theorem sVar_2 {w : Val} {a b : Option Val} {r : En} : sVar 2 (a :: b :: some w :: r) h = .ok w h := rfl
@[simp] theorem sVar_s {i : Nat} {a : Option Val} {r : En} : sVar (i + 1) (a :: r) h = sVar i r h := rfl
@[simp] theorem sBin_e {f : Val → Val → M Val} {a b : SE} : sBin f a b ro h = obind (a ro h) fun x h1 => obind (b ro h1) fun y h2 => f x y h2 := rfl
@[simp] theorem sUn_e {f : Val → M Val} {a : SE} : sUn f a ro h = obind (a ro h) fun x h1 => f x h1 := rfl
@[simp] theorem aNil_e : aNil ro h = .ok [] h := rfl
@[simp] theorem aCons_e {m : SE} {r : En → M (List Val)} : aCons m r ro h = obind (m ro h) fun x h1 => obind (r ro h1) fun xs h2 => .ok (x :: xs) h2 := rfl
@[simp] theorem sArgs_e {f : List Val → M Val} {r : En → M (List Val)} : sArgs f r ro h = obind (r ro h) fun xs h1 => f xs h1 := rfl
@[simp] theorem sAnd_e {a b : SE} : sAnd a b ro h = obind (a ro h) fun w h1 => obind (truthy w h1) fun k h2 => if k = true then b ro h2 else .ok w h2 := by
  unfold sAnd
  show obind (a ro h) _ = obind (a ro h) _
  congr; funext w h1
  show obind (truthy w h1) _ = obind (truthy w h1) _
  congr; funext k h2
  cases k <;> rfl
@[simp] theorem sOr_e {a b : SE} : sOr a b ro h = obind (a ro h) fun w h1 => obind (truthy w h1) fun k h2 => if k = true then .ok w h2 else b ro h2 := by
  unfold sOr
  show obind (a ro h) _ = obind (a ro h) _
  congr; funext w h1
  show obind (truthy w h1) _ = obind (truthy w h1) _
  congr; funext k h2
  cases k <;> rfl
@[simp] theorem sNot_e {a : SE} : sNot a ro h = obind (a ro h) fun w h1 => obind (truthy w h1) fun k h2 => .ok (.bl (!k)) h2 := rfl
@[simp] theorem sIf_e {c : En → M Bool} {a b : SE} : sIf c a b ro h = obind (c ro h) fun k h1 => if k = true then a ro h1 else b ro h1 := by
  unfold sIf
  show obind (c ro h) _ = obind (c ro h) _
  congr; funext k h1
  cases k <;> rfl
@[simp] theorem tr_bl {b : Bool} : truthy (.bl b) h = .ok b h := rfl
@[simp] theorem tr_non : truthy .non h = .ok false h := rfl
@[simp] theorem cV_e {a : SE} : cV a ro h = obind (a ro h) fun w h1 => truthy w h1 := rfl
@[simp] theorem cAnd_e {a b : En → M Bool} : cAnd a b ro h = obind (a ro h) fun k h1 => if k = true then b ro h1 else .ok false h1 := by
  unfold cAnd
  show obind (a ro h) _ = obind (a ro h) _
  congr; funext k h1
  cases k <;> rfl
@[simp] theorem cOr_e {a b : En → M Bool} : cOr a b ro h = obind (a ro h) fun k h1 => if k = true then .ok true h1 else b ro h1 := by
  unfold cOr
  show obind (a ro h) _ = obind (a ro h) _
  congr; funext k h1
  cases k <;> rfl
@[simp] theorem cNot_e {a : En → M Bool} : cNot a ro h = obind (a ro h) fun k h1 => .ok (!k) h1 := rfl
def unB (w : Val) : M Bool := match w with
  | .bl b => ret b
  | _ => fail
@[simp] theorem unB_bl {b : Bool} : unB (.bl b) h = .ok b h := rfl
@[simp] theorem cBin_e {f : Val → Val → M Val} {a b : SE} : cBin f a b ro h = obind (a ro h) fun x h1 => obind (b ro h1) fun y h2 => obind (f x y h2) unB := by
  show obind (obind (a ro h) _) _ = _
  cases a ro h with
  | bad => rfl
  | ex _ _ => rfl
  | ok x h1 =>
    show obind (obind (b ro h1) _) _ = obind (b ro h1) _
    cases b ro h1 <;> rfl
@[simp] theorem asT_e {a : SE} : asT a ro h = obind (a ro h) unB := rfl
@[simp] theorem sChn_e {m : SE} {k : SK} : sChn m k ro h = obind (m ro h) fun a h1 => k a ro h1 := rfl
@[simp] theorem kLast_e {f : Val → Val → M Val} {m : SE} {a : Val} : kLast f m a ro h = obind (m ro h) fun b h1 => f a b h1 := rfl
def kIf (w : Val) (k : M Val) : M Val := match w with
  | .bl true => k
  | .bl false => ret (.bl false)
  | _ => fail
@[simp] theorem kIf_bl {b : Bool} {k : M Val} : kIf (.bl b) k h = if b = true then k h else .ok (.bl false) h := by cases b <;> rfl
@[simp] theorem kLink_e {f : Val → Val → M Val} {m : SE} {k : SK} {a : Val} : kLink f m k a ro h = obind (m ro h) fun b h1 => obind (f a b h1) fun z h2 => kIf z (k b ro) h2 := by
  show obind (m ro h) _ = obind (m ro h) _
  congr
@[simp] theorem sCall_e {F : List Val → M Val} {n m np : Nat} {gW : List Val → List Val → List Val} {ra rk : En → M (List Val)} : sCall F n m np gW ra rk ro h = obind (ra ro h) fun ws h1 => obind (rk ro h1) fun zs h2 => if ws.length = n ∧ zs.length = m ∧ (gW ws zs).length = np then F (gW ws zs) h2 else .bad := by
  show obind (ra ro h) _ = obind (ra ro h) _
  congr; funext ws h1
  show obind (rk ro h1) _ = obind (rk ro h1) _
  congr; funext zs h2
  by_cases c : ws.length = n ∧ zs.length = m ∧ (gW ws zs).length = np
  · rw [if_pos c, if_pos c]
  · rw [if_neg c, if_neg c]; rfl
@[simp] theorem oNone_e : oNone ro h = .ok none h := rfl
def unI (w : Val) : M (Option Int) := match w with
  | .int i => ret (some i)
  | _ => fail
@[simp] theorem unI_i {i : Int} : unI (.int i) h = .ok (some i) h := rfl
@[simp] theorem oSome_e {m : SE} : oSome m ro h = obind (m ro h) unI := rfl
@[simp] theorem sSl_e {m : SE} {lo hi : SO'} : sSl m lo hi ro h = obind (m ro h) fun w h1 => obind (lo ro h1) fun l h2 => obind (hi ro h2) fun u h3 => bSl w l u h3 := rfl
@[simp] theorem gNm_e {i : Nat} {w : Val} : gNm i w ro h = .go .nx (ro.set i (some w)) h := rfl
@[simp] theorem gsNil_e : gsNil [] ro h = .go .nx ro h := rfl
@[simp] theorem gsCons_nm {i : Nat} {r : List Val → En → HH → SO} {w : Val} {ws : List Val} : gsCons (gNm i) r (w :: ws) ro h = r ws (ro.set i (some w)) h := rfl
@[simp] theorem gTp_t {n : Nat} {g : List Val → En → HH → SO} {xs : List Val} : gTp n g (.tup xs) ro h = if xs.length = n then g xs ro h else .bad := rfl
@[simp] theorem tYesZ_e : tYesZ ro h = .ok true h := rfl
def asg (o : SO) : SO := match o with
  | .go .nx ro2 h2 => .go .nx ro2 h2
  | _ => .bad
@[simp] theorem asg_nx : asg (.go .nx ro h) = .go .nx ro h := rfl
@[simp] theorem nAsg_e {m : SE} {g : GM} : nAsg m g ro h = sbind (m ro h) ro fun w h1 => asg (g w ro h1) := rfl
@[simp] theorem iVal_e {m : SE} : iVal m ro h = obind (m ro h) fun w h1 => itmV w h1 := rfl
@[simp] theorem itmV_tup {xs : List Val} : itmV (.tup xs) h = .ok (.st xs, xs.length) h := rfl
@[simp] theorem itmV_lst {xs : List Val} : itmV (.lst xs) h = .ok (.st xs, xs.length) h := rfl
@[simp] theorem iEn_e {r : En → M (List Val)} : iEn r ro h = obind (r ro h) fun ws h1 => fEn ws h1 := rfl
@[simp] theorem fEn_tup {xs : List Val} : fEn [.tup xs] h = .ok (.st (prs 0 xs), xs.length) h := rfl
@[simp] theorem nFor_e {mi : SI} {g : GM} {b : SS} : nFor mi g b ro h = sbind (mi ro h) ro fun x h1 => turns g b x.1 x.2 0 ro h1 := rfl
@[simp] theorem iRgN_e {n : Nat} {r : En → M (List Val)} : iRgN n r ro h = obind (r ro h) fun ws h1 => if ws.length = n then fRg ws h1 else .bad := by
  show obind (r ro h) _ = obind (r ro h) _
  congr; funext ws h1
  split <;> rfl
end
/-! ### comprehensions over fixed items -/
theorem lc_list {g : GM} {t : En → M Bool} {m : SE} {ro : En} {h : HH} (f : Val → List Val) : ∀ (xs ys : List Val) (k i : Nat) (acc : List Val), ys.drop i = xs → k = xs.length →
    (∀ w ∈ xs, ∃ ro1, g w ro h = .go .nx ro1 h ∧ ((t ro1 h = .ok true h ∧ ∃ y, m ro1 h = .ok y h ∧ f w = [y]) ∨ (t ro1 h = .ok false h ∧ f w = []))) →
    lcTurns g t m ro (.st ys) k i acc h = .ok (acc ++ xs.flatMap f) h
  | [], ys, k, i, acc, e, hk, _ => by
    have en : ys[i]? = none := List.getElem?_eq_none (by have := congrArg List.length e; rw [List.length_drop] at this; simp at this; omega)
    subst hk
    unfold lcTurns
    show (match nxt (.st ys) i h with | some none => Out.ok acc h | _ => .bad) = _
    have : nxt (.st ys) i h = some none := by show some ys[i]? = _; rw [en]
    rw [this]; simp
  | x :: xs, ys, k, i, acc, e, hk, hf => by
    have es : ys[i]? = some x := by
      have := congrArg (fun l => l[0]?) e
      simpa using this
    have ed : ys.drop (i + 1) = xs := by
      have := congrArg List.tail e
      simpa using this
    have hk : k = xs.length + 1 := hk
    subst hk
    unfold lcTurns
    have : nxt (.st ys) i h = some (some x) := by show some ys[i]? = _; rw [es]
    rw [this]
    obtain ⟨ro1, e1, c⟩ := hf x List.mem_cons_self
    have ih := fun acc => lc_list f xs ys xs.length (i + 1) acc ed rfl fun w hw => hf w (List.mem_cons_of_mem _ hw)
    show (match g x ro h with | .go .nx ro1 h1 => _ | _ => Out.bad) = _
    rw [e1]
    rcases c with ⟨c1, y, c2, c3⟩ | ⟨c1, c3⟩
    · simp only [c1, c2, if_true]
      rw [ih, List.flatMap_cons, c3, List.append_assoc]
    · simp only [c1, Bool.false_eq_true, if_false]
      rw [ih, List.flatMap_cons, c3, List.nil_append]
/-- [e for x in xs] that changes nothing -/
theorem sLc_map {mi : SI} {i : Nat} {m : SE} {own : List Nat} {ro : En} {h : HH} {xs : List Val} {f : Val → Val} (e : mi ro h = .ok (.st xs, xs.length) h) (hf : ∀ w ∈ xs, m ((wipeN ro own).set i (some w)) h = .ok (f w) h) :
    sLc mi (gNm i) tYesZ m own ro h = .ok (.lst (xs.map f)) h := by
  show obind (mi ro h) _ = _
  rw [e]
  show obind (lcTurns (gNm i) tYesZ m (wipeN ro own) (.st xs) xs.length 0 [] h) _ = _
  have q := lc_list (g := gNm i) (t := tYesZ) (m := m) (ro := wipeN ro own) (h := h) (fun w => [f w]) xs xs xs.length 0 [] (by simp) rfl fun w hw => ⟨_, rfl, .inl ⟨rfl, _, hf w hw, rfl⟩⟩
  rw [q]
  simp only [List.nil_append, ← List.map_eq_flatMap, ob_ok, ret_e]
theorem sLc_filter {mi : SI} {i : Nat} {t : En → M Bool} {m : SE} {own : List Nat} {ro : En} {h : HH} {xs : List Val} {f : Val → Val} {q : Val → Bool} (e : mi ro h = .ok (.st xs, xs.length) h) (ht : ∀ w ∈ xs, t ((wipeN ro own).set i (some w)) h = .ok (q w) h) (hf : ∀ w ∈ xs, q w = true → m ((wipeN ro own).set i (some w)) h = .ok (f w) h) :
    sLc mi (gNm i) t m own ro h = .ok (.lst ((xs.filter q).map f)) h := by
  show obind (mi ro h) _ = _
  rw [e]
  show obind (lcTurns (gNm i) t m (wipeN ro own) (.st xs) xs.length 0 [] h) _ = _
  have z := lc_list (g := gNm i) (t := t) (m := m) (ro := wipeN ro own) (h := h) (fun w => if q w = true then [f w] else []) xs xs xs.length 0 [] (by simp) rfl fun w hw => ⟨_, rfl, ?_⟩
  · rw [z]
    have : ∀ xs : List Val, xs.flatMap (fun w => if q w = true then [f w] else []) = (xs.filter q).map f := by
      intro xs
      induction xs with
      | nil => rfl
      | cons x xs ih =>
        rw [List.flatMap_cons, ih, List.filter_cons]
        split <;> simp
    simp only [List.nil_append, this, ob_ok, ret_e]
  · cases c : q w with
    | true => exact .inl ⟨by rw [← c]; exact ht w hw, f w, hf w hw c, by simp⟩
    | false => exact .inr ⟨by rw [← c]; exact ht w hw, by simp⟩
theorem bls_map {β : Type} (f : β → Bool) : ∀ xs : List β, bls (xs.map fun w => Val.bl (f w)) = some (xs.map f)
  | [] => rfl
  | x :: xs => by
    show (bls (xs.map fun w => Val.bl (f w))).map _ = _
    rw [bls_map f xs]; rfl
theorem fAll_map {β : Type} (f : β → Bool) (xs : List β) (h : HH) : fAll [.lst (xs.map fun w => Val.bl (f w))] h = .ok (.bl (xs.all f)) h := by
  show (match bls (xs.map fun w => Val.bl (f w)) with | some bs => Out.ok (Val.bl (bs.all id)) h | none => .bad) = _
  rw [bls_map]
  simp [List.all_map, Function.comp_def]
theorem fAny_map {β : Type} (f : β → Bool) (xs : List β) (h : HH) : fAny [.lst (xs.map fun w => Val.bl (f w))] h = .ok (.bl (xs.any f)) h := by
  show (match bls (xs.map fun w => Val.bl (f w)) with | some bs => Out.ok (Val.bl (bs.any id)) h | none => .bad) = _
  rw [bls_map]
  simp [List.any_map, Function.comp_def]
/-! ### plain values -/
mutual
def pl : Val → Bool
  | .non => true
  | .bl _ => true
  | .int _ => true
  | .str x => PyData.strOk x && decide (x.length ≤ 1000)
  | .tup xs => decide (xs.length ≤ 1000) && pls xs
  | .lst xs => decide (xs.length ≤ 1000) && pls xs
  | _ => false
def pls : List Val → Bool
  | [] => true
  | x :: xs => pl x && pls xs
end
mutual
theorem pl_ok : ∀ w : Val, pl w = true → okV w = true
  | .non, _ => rfl
  | .bl _, _ => rfl
  | .int _, _ => rfl
  | .str x, e => by unfold pl at e; unfold okV; rw [Bool.and_eq_true] at e; exact e.1
  | .tup xs, e => by unfold pl at e; rw [Bool.and_eq_true] at e; unfold okV; exact pls_ok xs e.2
  | .lst xs, e => by unfold pl at e; rw [Bool.and_eq_true] at e; unfold okV; exact pls_ok xs e.2
  | .ref _, e => by cases e
  | .glo _, e => by cases e
  | .ty _, e => by cases e
  | .scr _, e => by cases e
theorem pls_ok : ∀ w : List Val, pls w = true → okVs w = true
  | [], _ => rfl
  | x :: xs, e => by
    unfold pls at e; unfold okVs
    rw [Bool.and_eq_true] at e ⊢
    exact ⟨pl_ok x e.1, pls_ok xs e.2⟩
end
theorem pls_mem : ∀ {xs : List Val}, pls xs = true → ∀ w ∈ xs, pl w = true
  | x :: xs, e, w, hw => by
    unfold pls at e
    rw [Bool.and_eq_true] at e
    rcases List.mem_cons.mp hw with rfl | hw
    · exact e.1
    · exact pls_mem e.2 w hw
theorem pls_append : ∀ {xs ys : List Val}, pls xs = true → pls ys = true → pls (xs ++ ys) = true
  | [], _, _, h => h
  | x :: xs, ys, e, h => by
    unfold pls at e
    rw [Bool.and_eq_true] at e
    show (pl x && pls (xs ++ ys)) = true
    rw [e.1, pls_append e.2 h]; rfl
theorem pls_of : ∀ {xs : List Val}, (∀ w ∈ xs, pl w = true) → pls xs = true
  | [], _ => rfl
  | x :: xs, h => by
    show (pl x && pls xs) = true
    rw [h x List.mem_cons_self, pls_of fun w hw => h w (List.mem_cons_of_mem _ hw)]; rfl
theorem pl_mem {xs : List Val} (e : pl (.tup xs) = true) : ∀ w ∈ xs, pl w = true := by
  unfold pl at e
  rw [Bool.and_eq_true] at e
  exact pls_mem e.2
theorem pl_len {xs : List Val} (e : pl (.tup xs) = true) : xs.length ≤ 1000 := by
  unfold pl at e
  rw [Bool.and_eq_true, decide_eq_true_eq] at e
  exact e.1
theorem pl_tup {xs : List Val} (l : xs.length ≤ 1000) (h : ∀ w ∈ xs, pl w = true) : pl (.tup xs) = true := by
  unfold pl
  rw [pls_of h, Bool.and_true, decide_eq_true_eq]
  exact l
theorem pl_memL {xs : List Val} (e : pl (.lst xs) = true) : ∀ w ∈ xs, pl w = true := by
  unfold pl at e
  rw [Bool.and_eq_true] at e
  exact pls_mem e.2
theorem pl_lst {xs : List Val} (l : xs.length ≤ 1000) (h : ∀ w ∈ xs, pl w = true) : pl (.lst xs) = true := by
  unfold pl
  rw [pls_of h, Bool.and_true, decide_eq_true_eq]
  exact l
def isInt : Val → Bool | .int _ => true | .bl _ => true | _ => false
def isBl : Val → Bool | .bl _ => true | _ => false
def isStr : Val → Bool | .str _ => true | _ => false
def isTup : Val → Bool | .tup _ => true | _ => false
def isLst : Val → Bool | .lst _ => true | _ => false
section
variable {w : Val} {h : HH}
theorem isi_int (e : pl w = true) : fIsi [w, .ty "int"] h = .ok (.bl (isInt w)) h := by cases w <;> first | rfl | cases e
theorem isi_bool (e : pl w = true) : fIsi [w, .ty "bool"] h = .ok (.bl (isBl w)) h := by cases w <;> first | rfl | cases e
theorem isi_str (e : pl w = true) : fIsi [w, .ty "str"] h = .ok (.bl (isStr w)) h := by cases w <;> first | rfl | cases e
theorem isi_tuple (e : pl w = true) : fIsi [w, .ty "tuple"] h = .ok (.bl (isTup w)) h := by cases w <;> first | rfl | cases e
theorem isi_list (e : pl w = true) : fIsi [w, .ty "list"] h = .ok (.bl (isLst w)) h := by cases w <;> first | rfl | cases e
@[simp] theorem bOrd_e {f : Int → Int → Bool} {i j : Int} : bOrd f (.int i) (.int j) h = .ok (.bl (f i j)) h := rfl
@[simp] theorem len_tup {xs : List Val} : fLen [.tup xs] h = .ok (.int (xs.length : Nat)) h := rfl
@[simp] theorem len_lst {xs : List Val} : fLen [.lst xs] h = .ok (.int (xs.length : Nat)) h := rfl
theorem len_str {x : Str} (l : x.length ≤ sizeLine) : fLen [.str x] h = .ok (.int (x.length : Nat)) h := by
  show (if x.length ≤ sizeLine then _ else _) = _
  rw [if_pos l]
theorem itmV_str {x : Str} (l : x.length ≤ sizeLine) : itmV (.str x) h = .ok (.st (signs x), (signs x).length) h := by
  show (if x.length ≤ sizeLine then _ else _) = _
  rw [if_pos l]
  have : (signs x).length = x.length := by unfold signs; rw [List.length_map]; rfl
  rw [this]
theorem pl_str {x : Str} (e : pl (.str x) = true) : x.length ≤ sizeLine := by
  unfold pl at e
  rw [Bool.and_eq_true, decide_eq_true_eq] at e
  have := sizeLine_eq
  omega
theorem bEq_q {a b : Val} {k : Bool} (n1 : ∀ n, a ≠ .ref n) (n2 : ∀ n, b ≠ .ref n) (e : quick a b = some k) : bEq a b h = .ok (.bl k) h := by
  unfold bEq
  have r1 : rd a h = some a := by cases a <;> first | rfl | exact absurd rfl (n1 _)
  have r2 : rd b h = some b := by cases b <;> first | rfl | exact absurd rfl (n2 _)
  rw [r1, r2]
  show (match veq a b with | some k => Out.ok (Val.bl k) h | none => .bad) = _
  unfold veq
  rw [e]
theorem bNe_q {a b : Val} {k : Bool} (n1 : ∀ n, a ≠ .ref n) (n2 : ∀ n, b ≠ .ref n) (e : quick a b = some k) : bNe a b h = .ok (.bl (!k)) h := by
  unfold bNe
  have r1 : rd a h = some a := by cases a <;> first | rfl | exact absurd rfl (n1 _)
  have r2 : rd b h = some b := by cases b <;> first | rfl | exact absurd rfl (n2 _)
  rw [r1, r2]
  show (match veq a b with | some k => Out.ok (Val.bl (!k)) h | none => .bad) = _
  unfold veq
  rw [e]
@[simp] theorem eq_ii {i j : Int} : bEq (.int i) (.int j) h = .ok (.bl (decide (i = j))) h := rfl
@[simp] theorem ne_ii {i j : Int} : bNe (.int i) (.int j) h = .ok (.bl (!decide (i = j))) h := rfl
@[simp] theorem eq_ss {i j : Str} : bEq (.str i) (.str j) h = .ok (.bl (decide (i = j))) h := rfl
@[simp] theorem ne_ss {i j : Str} : bNe (.str i) (.str j) h = .ok (.bl (!decide (i = j))) h := rfl
@[simp] theorem eq_bb {i j : Bool} : bEq (.bl i) (.bl j) h = .ok (.bl (decide (i = j))) h := rfl
@[simp] theorem ne_bb {i j : Bool} : bNe (.bl i) (.bl j) h = .ok (.bl (!decide (i = j))) h := rfl
@[simp] theorem is_non {w : Val} : bIs false w .non h = .ok (.bl (match w with | .non => true | _ => false)) h := by cases w <;> rfl
@[simp] theorem isnot_non {w : Val} : bIs true w .non h = .ok (.bl (match w with | .non => false | _ => true)) h := by cases w <;> rfl
@[simp] theorem add_ii {i j : Int} : bAdd (.int i) (.int j) h = .ok (.int (i + j)) h := rfl
@[simp] theorem sub_ii {i j : Int} : bSub (.int i) (.int j) h = .ok (.int (i - j)) h := rfl
@[simp] theorem neg_i {i : Int} : uNeg (.int i) h = .ok (.int (-i)) h := rfl
theorem mod_ii {i j : Int} (l : 0 < j) : bMod (.int i) (.int j) h = .ok (.int (i % j)) h := by
  show (if 0 < j then _ else _) = _
  rw [if_pos l]
theorem ix_t {xs : List Val} {i : Nat} {w : Val} (e : xs[i]? = some w) : bIx (.tup xs) (.int (i : Nat)) h = .ok w h := by
  have l : i < xs.length := (List.getElem?_eq_some_iff.mp e).1
  show (match L2.atI xs (i : Nat) with | some w => Out.ok w h | none => .bad) = _
  have : L2.atI xs (i : Nat) = some w := atI_nat e
  rw [this]
theorem ix_l {xs : List Val} {i : Nat} {w : Val} (e : xs[i]? = some w) : bIx (.lst xs) (.int (i : Nat)) h = .ok w h := by
  have l : i < xs.length := (List.getElem?_eq_some_iff.mp e).1
  show (match L2.atI xs (i : Nat) with | some w => Out.ok w h | none => .bad) = _
  have : L2.atI xs (i : Nat) = some w := atI_nat e
  rw [this]
@[simp] theorem ix_t0 {a : Val} {xs : List Val} : bIx (.tup (a :: xs)) (.int 0) h = .ok a h := ix_t (i := 0) rfl
@[simp] theorem ix_t1 {a b : Val} {xs : List Val} : bIx (.tup (a :: b :: xs)) (.int 1) h = .ok b h := ix_t (i := 1) rfl
@[simp] theorem ix_t2 {a b c : Val} {xs : List Val} : bIx (.tup (a :: b :: c :: xs)) (.int 2) h = .ok c h := ix_t (i := 2) rfl
theorem ix_r {n i : Nat} {xs : List Val} {w : Val} (e : h[n]? = some (.lst xs)) (e2 : xs[i]? = some w) : bIx (.ref n) (.int (i : Nat)) h = .ok w h := by
  have : items (.ref n) h = some xs := by unfold items; dsimp only; rw [e]
  show (match items (.ref n) h with | some xs => (match L2.atI xs (i : Nat) with | some w => Out.ok w h | none => .bad) | none => .bad) = _
  rw [this]
  dsimp only
  have : L2.atI xs (i : Nat) = some w := atI_nat e2
  rw [this]
end
end Z
namespace Z
open PySem PySem.Spec PyProof.Rows L2
/-! ### == () -/
def isUnit : Val → Bool
  | .tup [] => true
  | _ => false
theorem depth_nil : (toD (.tup [])).depth ≤ 64 := by decide
theorem eqv_nil {w : Val} (e : pl w = true) : PyData.eqv (toD w) (toD (.tup [])) = (isUnit w) := by
  cases w with
  | tup xs =>
    cases xs with
    | nil => rfl
    | cons x xs => rfl
  | _ => first | rfl | cases e
theorem bEq_unit {w : Val} {h : HH} (e : pl w = true) : bEq w (.tup []) h = .ok (.bl (isUnit w)) h := by
  have o := pl_ok w e
  have r1 : rd w h = some w := by cases w <;> first | rfl | cases e
  unfold bEq
  rw [r1]
  show (match veq w (.tup []) with | some k => Out.ok (Val.bl k) h | none => .bad) = _
  have : veq w (.tup []) = some (isUnit w) := by
    unfold veq
    have q : quick w (.tup []) = none := by cases w <;> rfl
    rw [q]
    dsimp only
    rw [if_pos ⟨o, rfl, Nat.le_trans (Nat.min_le_right _ _) depth_nil⟩, eqv_nil e]
  rw [this]
theorem bNe_unit {w : Val} {h : HH} (e : pl w = true) : bNe w (.tup []) h = .ok (.bl (!isUnit w)) h := by
  have o := pl_ok w e
  have r1 : rd w h = some w := by cases w <;> first | rfl | cases e
  unfold bNe
  rw [r1]
  show (match veq w (.tup []) with | some k => Out.ok (Val.bl (!k)) h | none => .bad) = _
  have : veq w (.tup []) = some (isUnit w) := by
    unfold veq
    have q : quick w (.tup []) = none := by cases w <;> rfl
    rw [q]
    dsimp only
    rw [if_pos ⟨o, rfl, Nat.le_trans (Nat.min_le_right _ _) depth_nil⟩, eqv_nil e]
  rw [this]
@[simp] theorem fTup_nil {h : HH} : fTup [] h = .ok (.tup []) h := rfl
theorem fTup_ok {xs : List Val} {h : HH} (l : xs.length ≤ 1000) : fTup xs h = .ok (.tup xs) h := by
  show (if xs.length ≤ sizeLine then _ else _) = _
  rw [if_pos (by have := sizeLine_eq; omega)]
theorem fLst_ok {xs : List Val} {h : HH} (l : xs.length ≤ 1000) : fLst xs h = .ok (.lst xs) h := by
  show (if xs.length ≤ sizeLine then _ else _) = _
  rw [if_pos (by have := sizeLine_eq; omega)]
theorem fNew_ok {xs : List Val} {h : HH} (l : xs.length ≤ 1000) : fNew xs h = .ok (.ref h.length) (h ++ [.lst xs]) := by
  show (if xs.length ≤ sizeLine then _ else _) = _
  rw [if_pos (by have := sizeLine_eq; omega)]
@[simp] theorem fTpl_l {xs : List Val} {h : HH} : fTpl [.lst xs] h = .ok (.tup xs) h := rfl
@[simp] theorem fTpl_t {xs : List Val} {h : HH} : fTpl [.tup xs] h = .ok (.tup xs) h := rfl
/-- in a list or a tuple of flat things -/
theorem in_l {w : Val} {xs : List Val} {h : HH} (f : flat w = true) (g : xs.all flat = true) : bIn false w (.lst xs) h = .ok (.bl (xs.any fun y => eqF y w)) h := by
  have : bIn false w (.lst xs) h = if flat w = true ∧ xs.all flat = true then .ok (.bl (xs.any fun y => eqF y w)) h else .bad := by cases w <;> rfl
  rw [this, if_pos ⟨f, g⟩]
theorem notin_l {w : Val} {xs : List Val} {h : HH} (f : flat w = true) (g : xs.all flat = true) : bIn true w (.lst xs) h = .ok (.bl (!xs.any fun y => eqF y w)) h := by
  have : bIn true w (.lst xs) h = if flat w = true ∧ xs.all flat = true then .ok (.bl (!xs.any fun y => eqF y w)) h else .bad := by cases w <;> rfl
  rw [this, if_pos ⟨f, g⟩]
theorem in_t {w : Val} {xs : List Val} {h : HH} (f : flat w = true) (g : xs.all flat = true) : bIn false w (.tup xs) h = .ok (.bl (xs.any fun y => eqF y w)) h := by
  have : bIn false w (.tup xs) h = if flat w = true ∧ xs.all flat = true then .ok (.bl (xs.any fun y => eqF y w)) h else .bad := by cases w <;> rfl
  rw [this, if_pos ⟨f, g⟩]
theorem notin_t {w : Val} {xs : List Val} {h : HH} (f : flat w = true) (g : xs.all flat = true) : bIn true w (.tup xs) h = .ok (.bl (!xs.any fun y => eqF y w)) h := by
  have : bIn true w (.tup xs) h = if flat w = true ∧ xs.all flat = true then .ok (.bl (!xs.any fun y => eqF y w)) h else .bad := by cases w <;> rfl
  rw [this, if_pos ⟨f, g⟩]
theorem cnt_t {w : Val} {xs : List Val} {h : HH} (f : flat w = true) (g : xs.all flat = true) : mCnt (.tup xs) [w] h = .ok (.int ((xs.countP fun z => eqF z w : Nat) : Int)) h := by
  show (if flat w = true ∧ xs.all flat = true then _ else _) = _
  rw [if_pos ⟨f, g⟩]
/-- [e for a in xs for b in ys(a)], each e true -/
theorem lc_true {g : GM} {m : SE} {ro : En} {h : HH} : ∀ (xs ys : List Val) (k i : Nat) (acc : List Val), ys.drop i = xs → k = xs.length →
    (∀ w ∈ xs, ∃ ro1, g w ro h = .go .nx ro1 h ∧ m ro1 h = .ok (.bl true) h) → lcTurns g tYesZ m ro (.st ys) k i acc h = .ok (acc ++ List.replicate xs.length (.bl true)) h := by
  intro xs ys k i acc e hk hf
  rw [lc_list (fun _ => [.bl true]) xs ys k i acc e hk fun w hw => by
    obtain ⟨ro1, e1, e2⟩ := hf w hw
    exact ⟨ro1, e1, .inl ⟨rfl, _, e2, rfl⟩⟩]
  have : ∀ xs : List Val, xs.flatMap (fun _ => [Val.bl true]) = List.replicate xs.length (.bl true) := by
    intro xs
    induction xs with
    | nil => rfl
    | cons x xs ih => rw [List.flatMap_cons, ih, List.length_cons, List.replicate_succ]; rfl
  rw [this]
theorem lc2_true {g : GM} {mi : SI} {g1 : GM} {m : SE} {vs1 : List Nat} {ro : En} {h : HH} : ∀ (xs ys : List Val) (k i n : Nat), ys.drop i = xs → k = xs.length → n + 100 * xs.length ≤ 100000 →
    (∀ w ∈ xs, ∃ ro1 zs, g w ro h = .go .nx ro1 h ∧ mi ro1 h = .ok (.st zs, zs.length) h ∧ zs.length ≤ 100 ∧ ∀ z ∈ zs, ∃ ro2, g1 z (wipeN ro1 vs1) h = .go .nx ro2 h ∧ m ro2 h = .ok (.bl true) h) →
    ∃ n', lc2 g tYesZ mi g1 tYesZ m vs1 ro (.st ys) k i (List.replicate n (.bl true)) h = .ok (List.replicate n' (.bl true)) h
  | [], ys, k, i, n, e, hk, _, _ => by
    have en : ys[i]? = none := List.getElem?_eq_none (by have := congrArg List.length e; rw [List.length_drop] at this; simp at this; omega)
    have hk : k = 0 := hk
    subst hk
    refine ⟨n, ?_⟩
    unfold lc2
    have : nxt (.st ys) i h = some none := by show some ys[i]? = _; rw [en]
    rw [this]
  | x :: xs, ys, k, i, n, e, hk, hn, hf => by
    have es : ys[i]? = some x := by
      have := congrArg (fun l => l[0]?) e
      simpa using this
    have ed : ys.drop (i + 1) = xs := by
      have := congrArg List.tail e
      simpa using this
    have hk : k = xs.length + 1 := hk
    subst hk
    unfold lc2
    have : nxt (.st ys) i h = some (some x) := by show some ys[i]? = _; rw [es]
    rw [this]
    obtain ⟨ro1, zs, e1, e2, hz, c⟩ := hf x List.mem_cons_self
    rw [List.length_cons] at hn
    obtain ⟨n', ih⟩ := lc2_true xs ys xs.length (i + 1) (n + zs.length) ed rfl (by omega) fun w hw => hf w (List.mem_cons_of_mem _ hw)
    refine ⟨n', ?_⟩
    have q := lc_true (g := g1) (m := m) (ro := wipeN ro1 vs1) (h := h) zs zs zs.length 0 (List.replicate n (.bl true)) (by simp) rfl c
    rw [List.replicate_append_replicate] at q
    simp only [e1, e2, tYesZ_e, if_true, List.length_replicate, q]
    rw [if_pos (by have := sizeLine_eq; omega)]
    exact ih
theorem sLc2_true {mi mi1 : SI} {g g1 : GM} {m : SE} {own vs1 : List Nat} {ro : En} {h : HH} {xs : List Val} (e : mi ro h = .ok (.st xs, xs.length) h) (l : xs.length ≤ 900)
    (hf : ∀ w ∈ xs, ∃ ro1 zs, g w (wipeN ro own) h = .go .nx ro1 h ∧ mi1 ro1 h = .ok (.st zs, zs.length) h ∧ zs.length ≤ 100 ∧ ∀ z ∈ zs, ∃ ro2, g1 z (wipeN ro1 vs1) h = .go .nx ro2 h ∧ m ro2 h = .ok (.bl true) h) :
    ∃ n, sLc2 mi g tYesZ mi1 g1 tYesZ m own vs1 ro h = .ok (.lst (List.replicate n (.bl true))) h := by
  obtain ⟨n, q⟩ := lc2_true (g := g) (mi := mi1) (g1 := g1) (m := m) (vs1 := vs1) (ro := wipeN ro own) (h := h) xs xs xs.length 0 0 (by simp) rfl (by omega) hf
  refine ⟨n, ?_⟩
  show obind (mi ro h) _ = _
  rw [e]
  show obind (lc2 g tYesZ mi1 g1 tYesZ m vs1 (wipeN ro own) (.st xs) xs.length 0 [] h) _ = _
  have z : lc2 g tYesZ mi1 g1 tYesZ m vs1 (wipeN ro own) (.st xs) xs.length 0 [] h = .ok (List.replicate n (.bl true)) h := q
  rw [z]
  rfl
theorem fAll_true (n : Nat) (h : HH) : fAll [.lst (List.replicate n (.bl true))] h = .ok (.bl true) h := by
  have e : List.replicate n (Val.bl true) = (List.replicate n ()).map fun _ => Val.bl true := by simp
  rw [e, fAll_map (fun _ => true)]
  simp
end Z
namespace Z
open PySem PySem.Spec PyProof.Rows L2
def mtT (f : Val → List Val → M Val) (ra : En → M (List Val)) (ro : En) (w : Val) : M Val := fun h => match w with
  | .tup xs => obind (ra ro h) fun ws => f (.tup xs) ws
  | _ => .bad
@[simp] theorem sMtT_e {f : Val → List Val → M Val} {mo : SE} {ra : En → M (List Val)} {ro : En} {h : HH} : sMtT f mo ra ro h = obind (mo ro h) fun w h1 => mtT f ra ro w h1 := rfl
@[simp] theorem mtT_t {f : Val → List Val → M Val} {ra : En → M (List Val)} {ro : En} {h : HH} {xs : List Val} : mtT f ra ro (.tup xs) h = obind (ra ro h) fun ws h1 => f (.tup xs) ws h1 := rfl
def mtL (f : Val → List Val → M Val) (ra : En → M (List Val)) (ro : En) (w : Val) : M Val := fun h => match w with
  | .ref n => match h[n]? with
    | some (.lst _) => obind (ra ro h) fun ws => f (.ref n) ws
    | _ => .bad
  | _ => .bad
@[simp] theorem sMtL_e {f : Val → List Val → M Val} {mo : SE} {ra : En → M (List Val)} {ro : En} {h : HH} : sMtL f mo ra ro h = obind (mo ro h) fun w h1 => mtL f ra ro w h1 := rfl
theorem mtL_r {f : Val → List Val → M Val} {ra : En → M (List Val)} {ro : En} {h : HH} {n : Nat} {xs : List Val} (e : h[n]? = some (.lst xs)) : mtL f ra ro (.ref n) h = obind (ra ro h) fun ws h1 => f (.ref n) ws h1 := by
  unfold mtL
  dsimp only
  rw [e]
end Z
namespace Z
open PySem PySem.Spec PyProof.Rows L2
theorem gSb_e {mo mi : SE} {w : Val} {ro : En} {h h1 h2 : HH} {n j : Nat} {i : Int} {xs : List Val} (e1 : mo ro h = .ok (.ref n) h1) (e2 : mi ro h1 = .ok (.int i) h2) (e3 : h2[n]? = some (.lst xs)) (e4 : ixN xs.length i = some j) :
    gSb mo mi w ro h = .go .nx ro (h2.set n (.lst (xs.set j w))) := by
  unfold gSb
  rw [e1]
  dsimp only
  rw [e2]
  dsimp only
  rw [e3]
  dsimp only
  rw [e4]
theorem div_ii {i j : Int} {h : HH} (l : 0 < j) (u : j < 2 ^ 60) : bDiv (.int i) (.int j) h = .ok (.int (i / j)) h := by
  have c : CDivW i j := by
    refine ⟨l, ?_⟩
    have : j.natAbs < 2 ^ 60 := by omega
    have q : j.natAbs.log2 < 60 := (Nat.log2_lt (by omega)).mpr this
    omega
  show (if CDivW i j then _ else _) = _
  rw [if_pos c]
theorem mul_ii {i j : Int} {h : HH} (c : CMul i j) : bMul (.int i) (.int j) h = .ok (.int (i * j)) h := by
  show (if CMul i j then _ else _) = _
  rw [if_pos c]
theorem mul_iw {i j : Int} {h : HH} (c : CMul i j ∨ CMulW i j) : bMul (.int i) (.int j) h = .ok (.int (i * j)) h := by
  show (if CMul i j then _ else if CMulW i j then _ else _) = _
  by_cases d : CMul i j
  · rw [if_pos d]
  · rw [if_neg d, if_pos (c.resolve_left d)]
theorem bits_le {i : Int} {n : Nat} (u : i.natAbs < 2 ^ n) : Builtin.Int.intBits i ≤ n := by
  have b : ∀ x : Int, x.natAbs ≠ 0 → Builtin.Int.intBits x ≤ x.natAbs.log2 + 1 := fun x _ => by
    unfold Builtin.Int.intBits
    first
      | omega
      | (split <;> omega)
  by_cases z : i.natAbs = 0
  · have : i = 0 := by omega
    subst this
    exact Nat.zero_le _
  · have q : i.natAbs.log2 < n := (Nat.log2_lt z).mpr u
    have := b i z
    omega
theorem pow_ii {i : Int} {j n : Nat} {h : HH} (u : i.natAbs < 2 ^ n) (l : n * j ≤ 100000) : bPow (.int i) (.int (j : Nat)) h = .ok (.int (i ^ j)) h := by
  have c : CPowW i (j : Nat) := by
    refine ⟨by omega, ?_⟩
    have q := bits_le u
    have : Builtin.Int.intBits i * j ≤ n * j := Nat.mul_le_mul_right j q
    have e : ((Builtin.Int.intBits i : Nat) : Int) * (j : Nat) = ((Builtin.Int.intBits i * j : Nat) : Int) := by push_cast; rfl
    rw [e]
    omega
  show (if CPowW i (j : Nat) then _ else _) = _
  rw [if_pos c]
  rfl
/-- a bag of draws: the number's rest, the mix, the steps done -/
def Bag (b c : Nat) (h : HH) : Prop := ∃ f l s : Int, h[b]? = some (.lst [.int f, .int l, .int s]) ∧ 0 ≤ f ∧ 0 ≤ l ∧ l ≤ 2 ^ 40 ∧ 0 ≤ s ∧ s ≤ (c : Nat)
theorem Bag.mono {b c c' : Nat} {h : HH} (B : Bag b c h) (l : c ≤ c') : Bag b c' h := by
  obtain ⟨f, m, s, e, a1, a2, a3, a4, a5⟩ := B
  exact ⟨f, m, s, e, a1, a2, a3, a4, by omega⟩
theorem set_get {h : HH} {b : Nat} {x y : Ob} (e : h[b]? = some x) : (h.set b y)[b]? = some y := by
  rw [List.getElem?_set_self (List.getElem?_eq_some_iff.mp e).1]
end Z
namespace Z
open PySem PySem.Spec PyProof.Rows L2
theorem ix_any {xs : List Val} {v : Int} {h : HH} (h0 : 0 ≤ v) (h1 : v < (xs.length : Nat)) : ∃ w ∈ xs, bIx (.lst xs) (.int v) h = .ok w h := by
  obtain ⟨n, rfl⟩ := Int.eq_ofNat_of_zero_le h0
  have l : n < xs.length := by omega
  exact ⟨xs[n], List.getElem_mem l, ix_l (List.getElem?_eq_getElem l)⟩
theorem ix_anyT {xs : List Val} {v : Int} {h : HH} (h0 : 0 ≤ v) (h1 : v < (xs.length : Nat)) : ∃ w ∈ xs, bIx (.tup xs) (.int v) h = .ok w h := by
  obtain ⟨n, rfl⟩ := Int.eq_ofNat_of_zero_le h0
  have l : n < xs.length := by omega
  exact ⟨xs[n], List.getElem_mem l, ix_t (List.getElem?_eq_getElem l)⟩
/-- a loop that goes through to its end -/
theorem turns_inv {g : GM} {body : SS} {x : Itm} {n : Nat} (I : Nat → En → HH → Prop)
    (hn : ∀ i ro h, I i ro h → i < n → ∃ w ro1 h1 ro2 h2, nxt x i h = some (some w) ∧ g w ro h = .go .nx ro1 h1 ∧ body ro1 h1 = .go .nx ro2 h2 ∧ I (i + 1) ro2 h2)
    (he : ∀ ro h, I n ro h → nxt x n h = some none) : ∀ k i ro h, k + i = n → I i ro h → ∃ ro' h', turns g body x k i ro h = .go .nx ro' h' ∧ I n ro' h'
  | 0, i, ro, h, e, q => by
    have : i = n := by omega
    subst this
    refine ⟨ro, h, ?_, q⟩
    unfold turns
    rw [he ro h q]
  | k + 1, i, ro, h, e, q => by
    obtain ⟨w, ro1, h1, ro2, h2, e1, e2, e3, q2⟩ := hn i ro h q (by omega)
    obtain ⟨ro', h', e4, q3⟩ := turns_inv I hn he k (i + 1) ro2 h2 (by omega) q2
    refine ⟨ro', h', ?_, q3⟩
    unfold turns
    rw [e1]
    simp only [e2, e3]
    exact e4
theorem nums_get {n i : Nat} {lo : Int} (l : i < n) : (nums lo n)[i]? = some (.int (lo + (i : Nat))) := by
  unfold nums
  rw [List.getElem?_map, List.getElem?_range l]
  rfl
theorem nums_end {n : Nat} {lo : Int} : (nums lo n)[n]? = none := by
  unfold nums
  rw [List.getElem?_eq_none]
  simp
theorem fRg1 {n : Nat} {h : HH} (l : n ≤ 1000) : fRg [.int (n : Nat)] h = .ok (.st (nums 0 n), n) h := by
  have c : okR (n : Nat) = true ∧ (n : Int).toNat ≤ sizeLine := by
    refine ⟨?_, ?_⟩
    · unfold okR
      rw [decide_eq_true_eq]
      omega
    · have := sizeLine_eq
      omega
  have e : fRg [.int (n : Nat)] h = if okR (n : Nat) = true ∧ (n : Int).toNat ≤ sizeLine then .ok (.st (nums 0 (n : Int).toNat), (n : Int).toNat) h else .bad := rfl
  rw [e, if_pos c, Int.toNat_natCast]
theorem app_l {n : Nat} {xs : List Val} {y : Val} {h : HH} (e : h[n]? = some (.lst xs)) (l : xs.length ≤ 1000) : mApp (.ref n) [y] h = .ok .non (h.set n (.lst (xs ++ [y]))) := by
  show (match h[n]? with | some (.lst xs) => putL n (xs ++ [y]) .non h | _ => .bad) = _
  rw [e]
  show (if (xs ++ [y]).length ≤ sizeLine then _ else _) = _
  rw [if_pos (by rw [List.length_append, List.length_singleton]; have := sizeLine_eq; omega)]
theorem pop_l {n i : Nat} {xs : List Val} {y : Val} {h : HH} (e : h[n]? = some (.lst xs)) (e2 : xs[i]? = some y) (l : xs.length ≤ 1000) : mPopAt (.ref n) [.int (i : Nat)] h = .ok y (h.set n (.lst (xs.eraseIdx i))) := by
  have li := (List.getElem?_eq_some_iff.mp e2).1
  show (match h[n]? with
    | some (.lst xs) => if 0 ≤ ((i : Nat) : Int) ∧ ((i : Nat) : Int) < (xs.length : Nat) then (match xs[((i : Nat) : Int).toNat]? with
        | some y => putL n (xs.eraseIdx ((i : Nat) : Int).toNat) y h
        | none => .bad) else .bad
    | _ => .bad) = _
  rw [e]
  dsimp only
  rw [if_pos ⟨by omega, by omega⟩, Int.toNat_natCast, e2]
  show (if (xs.eraseIdx i).length ≤ sizeLine then _ else _) = _
  rw [if_pos (by have := L2.len_erase xs i; have := sizeLine_eq; omega)]
theorem len_r {n : Nat} {xs : List Val} {h : HH} (e : h[n]? = some (.lst xs)) : fLen [.ref n] h = .ok (.int (xs.length : Nat)) h := by
  show (match items (.ref n) h with | some xs => Out.ok (Val.int (xs.length : Nat)) h | none => .bad) = _
  have : items (.ref n) h = some xs := by unfold items; dsimp only; rw [e]
  rw [this]
theorem tpl_r {n : Nat} {xs : List Val} {h : HH} (e : h[n]? = some (.lst xs)) : fTpl [.ref n] h = .ok (.tup xs) h := by
  show (match h[n]? with | some (.lst xs) => Out.ok (Val.tup xs) h | _ => .bad) = _
  rw [e]
end Z
namespace Z
open PySem PySem.Spec PyProof.Rows L2
@[simp] theorem sl_t {xs : List Val} {lo hi : Option Int} {h : HH} : bSl (.tup xs) lo hi h = .ok (.tup (cutW xs lo hi)) h := rfl
theorem cut_mem {xs : List Val} {lo hi : Option Int} {w : Val} (h : w ∈ cutW xs lo hi) : w ∈ xs := List.mem_of_mem_drop (List.mem_of_mem_take h)
theorem cut_pl {xs : List Val} {lo hi : Option Int} (h : ∀ w ∈ xs, pl w = true) : ∀ w ∈ cutW xs lo hi, pl w = true := fun w hw => h w (cut_mem hw)
theorem add_tt {xs ys : List Val} {h : HH} (l : xs.length + ys.length ≤ 10000) : bAdd (.tup xs) (.tup ys) h = .ok (.tup (xs ++ ys)) h := by
  show (if xs.length + ys.length ≤ sizeLine then Out.ok (Val.tup (xs ++ ys)) h else .bad) = _
  rw [if_pos (by have := sizeLine_eq; omega)]
theorem lof_t {xs : List Val} {h : HH} (l : xs.length ≤ 1000) : fLof [.tup xs] h = .ok (.lst xs) h := by
  show (if xs.length ≤ sizeLine then Out.ok (Val.lst xs) h else .bad) = _
  rw [if_pos (by have := sizeLine_eq; omega)]
theorem pl_app {xs ys : List Val} (h1 : ∀ w ∈ xs, pl w = true) (h2 : ∀ w ∈ ys, pl w = true) : ∀ w ∈ xs ++ ys, pl w = true := fun w hw => by
  rcases List.mem_append.mp hw with hw | hw
  · exact h1 w hw
  · exact h2 w hw
theorem pl_one {a : Val} (h : pl a = true) : ∀ w ∈ [a], pl w = true := fun w hw => by rw [List.mem_singleton.mp hw]; exact h
theorem pl_3 {a b c : Val} (h1 : pl a = true) (h2 : pl b = true) (h3 : pl c = true) : pl (.tup [a, b, c]) = true := by
  refine pl_tup (by simp) fun w hw => ?_
  simp only [List.mem_cons, List.not_mem_nil, or_false] at hw
  rcases hw with rfl | rfl | rfl <;> assumption
end Z
set_option Elab.async false
set_option maxRecDepth 100000
set_option linter.unusedVariables false
/-! ZR: repr of plain data, texts times numbers, split, join, count of fixed lists, in range, is True. -/
namespace Z
open PySem PySem.Spec PyProof.Rows L2
theorem zb_repr : bootBuiltins "repr" = some (.builtin "repr") := by first | rfl | decide +kernel
theorem zb_range : bootBuiltins "range" = some (.type "range") := by first | rfl | decide +kernel
section
variable {X : Cx}
def rRepr (K : PySem.W.Frag) : List V → Hp → VK → Prop := fun xs H Q => ∃ x d, xs = [x] ∧ Dp K H x d ∧ d.canLay0 = true ∧ d.showable = true ∧ d.depth ≤ 60 ∧ d.shown.length ≤ sizeLine ∧ Q (.str d.shown) H
theorem call_reprD (hg : X.A.guards = some []) (hu : X.A.units + 64 < cLine) : CallR X (.builtin "repr") (rRepr X.K) := by
  intro pins s σ H xs us Q I r h
  obtain ⟨x, d, rfl, hd, hl, hs, hdp, hz, q⟩ := h
  obtain ⟨v, rfl, rx⟩ := vals1 r
  obtain ⟨as, r1⟩ := Dp.reads I d x v hd rx
  have fin : ∀ h' u tk, (∀ b o, s.heap.get? b = some o → h'.get? b = some o) → EP X pins σ Q (.str d.shown u) { s with heap := h', toks := tk } :=
    fun h' u tk k => ⟨.str d.shown, H, I.kept k, ⟨u, rfl⟩, q⟩
  have nd := PyData.noDict_hsm (as := as) (PyData.hasDict_of_canLay d hl)
  cases d with
  | none => cases r1; exact PySem.P.repr_of_none (fin s.heap _ _ fun _ _ e => e)
  | bool b => cases r1; exact PySem.P.repr_of_bool (fin s.heap _ _ fun _ _ e => e)
  | int i => cases r1; exact PySem.P.repr_of_int (by simpa [PyData.showable] using hs) (fin s.heap _ _ fun _ _ e => e)
  | str y => cases r1; exact PySem.P.repr_of_str (fin s.heap _ _ fun _ _ e => e) (by simpa only [PyData.shown] using hz)
  | list xs =>
    obtain ⟨a, rfl⟩ := isRef_of_reads r1 rfl
    exact repr_of_reads' r1 hs nd hg (by omega) (fun _ _ e => e) fin hz
  | tuple xs =>
    obtain ⟨a, rfl⟩ := isRef_of_reads r1 rfl
    exact repr_of_reads' r1 hs nd hg (by omega) (fun _ _ e => e) fin hz
  | dict kvs => simp [PyData.canLay0] at hl
end
def fRepr (ws : List Val) : M Val := fun h => match ws with
  | [w] => match rd w h with
    | some a => if okV a = true ∧ (toD a).showable = true ∧ (toD a).depth ≤ 60 ∧ (toD a).shown.length ≤ sizeLine then .ok (.str (toD a).shown) h else .bad
    | none => .bad
  | _ => .bad
theorem lk_repr {K : PySem.W.Frag} : Lks K fRepr (rRepr K) := by
  intro W al B sg H h ws vs Q hr rs p
  unfold fRepr at p
  split at p
  · rename_i w
    obtain ⟨v, rfl, r⟩ := rs.one
    cases e1 : rd w h with
    | none => rw [e1] at p; exact p.elim
    | some a =>
      rw [e1] at p
      dsimp only at p
      split at p
      · rename_i c
        exact ⟨v, _, rfl, rd_dp hr r e1 c.1, lay_of _ c.1, c.2.1, c.2.2.1, c.2.2.2, Po.now p hr (.str _)⟩
      · exact p.elim
  · exact p.elim
/-! ### a text times a number -/
def timesS (x : Str) (n : Nat) : Str := ⟨(List.replicate n x.cps.toList).flatten.toArray⟩
def rMulS : R2 := fun x y H Q => ∃ (a : Str) (k : Nat), x = .str a ∧ y = .int k ∧ a.length ≤ 1000 ∧ k ≤ 1000 ∧ Q (.str (timesS a k)) H
theorem foldl_cat : ∀ (l : List (Array Nat)) (a : Array Nat), l.foldl (· ++ ·) a = (a.toList ++ (l.map Array.toList).flatten).toArray
  | [], a => by simp
  | b :: l, a => by
    show l.foldl (· ++ ·) (a ++ b) = _
    rw [foldl_cat l (a ++ b)]
    simp
theorem rep_len {β : Type} (l : List β) : ∀ n, (List.replicate n l).flatten.length = n * l.length
  | 0 => by simp
  | n + 1 => by
    rw [List.replicate_succ, List.flatten_cons, List.length_append, rep_len l n, Nat.succ_mul, Nat.add_comm]
theorem op_mulS {X : Cx} : OpR X (binaryOp .Mult) rMulS := by
  intro pins s σ H x y v u Q I rx ry h
  obtain ⟨a, k, rfl, rfl, ha, hk, q⟩ := h
  obtain ⟨t, rfl⟩ := rx
  obtain ⟨t2, rfl⟩ := ry
  have hz := sizeLine_eq
  have hm : a.length * k ≤ 1000000 := Nat.mul_le_mul ha hk
  refine PySem.P.mul_str ?_ ?_ ?_ ?_
  · have h1 : ¬ ((k : Int) < -(2 ^ 63 : Int)) := by omega
    have h2 : ¬ ((k : Int) ≥ 2 ^ 63) := by omega
    rw [decide_eq_false h1, decide_eq_false h2]; rfl
  · intro h1 _ h3
    have : (1000 : Int) ≤ (2 ^ 63 - 1) / (k : Int) := by
      rw [Int.le_ediv_iff_mul_le (by omega)]
      omega
    omega
  · intro _ _
    rw [Int.toNat_natCast]
    simp only [Builtin.Str.tooLong, decide_eq_false_iff_not]
    omega
  · by_cases h1 : (k : Int) < 1
    · rw [if_pos h1]
      have : k = 0 := by omega
      subst this
      exact ⟨by decide, .str _, H, I.tok _, ⟨_, rfl⟩, q⟩
    · rw [if_neg h1]
      by_cases h2 : ((k : Int) == 1 || a.length == 0) = true
      · rw [if_pos h2]
        have e : timesS a k = a := by
          unfold timesS
          simp only [Bool.or_eq_true, beq_iff_eq] at h2
          rcases h2 with h2 | h2
          · have : k = 1 := by omega
            subst this
            simp
          · have : a.cps = #[] := Array.size_eq_zero_iff.mp h2
            obtain ⟨c⟩ := a
            simp only at this
            subst this
            simp
        rw [e] at q
        exact ⟨.str _, H, I, ⟨t, rfl⟩, q⟩
      · rw [if_neg h2]
        have e : (⟨(List.replicate (k : Int).toNat a.cps).foldl (· ++ ·) #[]⟩ : Str) = timesS a k := by
          unfold timesS
          rw [foldl_cat, Int.toNat_natCast]
          simp
        rw [e]
        refine ⟨?_, .str _, H, I.tok _, ⟨_, rfl⟩, q⟩
        show (timesS a k).cps.size ≤ sizeLine
        unfold timesS
        simp only [List.size_toArray, rep_len]
        have : k * a.length ≤ 1000000 := by rw [Nat.mul_comm]; exact hm
        have e3 : a.cps.toList.length = a.length := rfl
        rw [e3]
        omega
def bMulS (w1 w2 : Val) : M Val := fun h => match w1, w2 with
  | .str x, .int k => if 0 ≤ k ∧ k ≤ 1000 ∧ x.length ≤ 1000 then .ok (.str (timesS x k.toNat)) h else .bad
  | w1, w2 => bMul w1 w2 h
theorem lk_mulS {K : PySem.W.Frag} : Lk2 K bMulS (fun x y H Q => rMulS x y H Q ∨ rI CMul (fun i j => .int (i * j)) x y H Q ∨ rI CMulW (fun i j => .int (i * j)) x y H Q) := by
  intro W al B sg H h w1 w2 v1 v2 Q hr r1 r2 p
  unfold bMulS at p
  split at p
  · cases r1; cases r2
    split at p
    · rename_i k c
      obtain ⟨n, rfl⟩ := Int.eq_ofNat_of_zero_le c.1
      exact .inl ⟨_, n, rfl, rfl, c.2.2, by omega, Po.now p hr (.str _)⟩
    · exact p.elim
  · exact .inr (lk_mul W al B sg H h w1 w2 v1 v2 Q hr r1 r2 p)
theorem op_mulSZ {X : Cx} : OpR X (binaryOp .Mult) (fun x y H Q => rMulS x y H Q ∨ rI CMul (fun i j => .int (i * j)) x y H Q ∨ rI CMulW (fun i j => .int (i * j)) x y H Q) := op_mulS.or op_mulZ
/-! ### x.split(y), x.join(ys) -/
section
variable {X : Cx} {W : WX} {o e : Expr} {mo m : SE} {name : Str} {id : String} {apos cpos pos : Pos}
def sSm (f : Val → Val → M Val) (mo m : SE) : SE := fun ro => bind (mo ro) fun w => match w with
  | .str x => bind (m ro) fun y => f (.str x) y
  | _ => fail
theorem oe_sm1 {r : V → List V → Hp → VK → Prop} {f : Val → Val → M Val} (slot : Slot "str" name id) (hty : typeOf (.builtin id) = pure (.type "method_descriptor")) (hm : MtR X id r)
    (lk : ∀ (W : WX) al B sg H h x w v (Q : VK), HR X.K al B H h → Rep X.K al B H w v → Po X.K B (fun al H => Rep X.K al B H) sg al H (f (.str x) w h) W Q → r (.str x) [v] H Q)
    (ho : PE X o (tE X.K W mo)) (he : PE X e (tE X.K W m)) (hs : starEach [e] X.env = [(false, eval e X.env)]) (hbase : attributeBase o name X.env (eval o X.env) = eval o X.env) (hline : (apos.endLine == pos.line) = true) :
    PE X (.Call (.Attribute o name apos) [e] [] pos) (tE X.K W (sSm f mo m)) := by
  refine PE.weak (pe_m1 slot hty hm ho he hs hbase hline) ?_
  rintro sg H Q ⟨al, B, ro, h, S, p⟩
  refine ⟨al, B, ro, h, S, Po.mono (Po.bind p) fun v H1 ⟨al1, h1, w, st, hr, r1, q⟩ => ?_⟩
  cases r1 with
  | str x =>
    refine ⟨⟨x, rfl⟩, al1, B, ro, h1, S.step st hr, Po.mono (Po.bind q) fun u H2 ⟨al2, h2, w2, st2, hr2, r2, q2⟩ => ?_⟩
    exact lk W al2 B sg H2 h2 x w2 u Q hr2 r2 q2
  | _ => exact q.elim
def rSplit : V → List V → Hp → VK → Prop := fun x xs H Q => ∃ a b, x = .str a ∧ xs = [.str b] ∧ (b.length == 0) = false ∧ a.length + 2 ≤ sizeLine ∧ rNewStrs (Txt.split a b) H Q
def mSplit (w1 w2 : Val) : M Val := fun h => match w1, w2 with
  | .str a, .str b => if (b.length == 0) = false ∧ a.length ≤ 100000 then .ok (.lst ((Txt.split a b).map Val.str)) h else .bad
  | _, _ => .bad
theorem lk_split {K : PySem.W.Frag} : ∀ (W : WX) al B sg H h x w v (Q : VK), HR K al B H h → Rep K al B H w v → Po K B (fun al H => Rep K al B H) sg al H (mSplit (.str x) w h) W Q → rSplit (.str x) [v] H Q := by
  intro W al B sg H h x w v Q hr r p
  cases r with
  | str b =>
    unfold mSplit at p
    dsimp only at p
    split at p
    · rename_i c
      have hz := sizeLine_eq
      refine ⟨x, b, rfl, rfl, c.1, by omega, fun q hq => ?_⟩
      have l : (Txt.split x b).length ≤ sizeLine := Nat.le_trans (PyProof.Rows.split_le x b) (by omega)
      exact p al _ _ (Stp.lay hq) (hr.lay hq) (.lst (At1.lay hr hq) (by rw [List.length_map]; exact l) (Reps.map (fun x => .str x) _))
    · exact p.elim
  | _ => exact p.elim
def rJoin (K : PySem.W.Frag) : V → List V → Hp → VK → Prop := fun x xs H Q => ∃ a p, ∃ ys : List Str, x = .str a ∧ xs = [.ref p] ∧ (SqL K H p (ys.map V.str) ∨ SqT K H p (ys.map V.str)) ∧ (ys.map (·.length)).sum + ys.length * a.length ≤ 16777216 ∧ Q (.str (Txt.join a ys)) H
def mJoin (w1 w2 : Val) : M Val := fun h => match w1, w2 with
  | .str a, w2 => match items w2 h with
    | some xs => match txts xs with
      | some ys => if (ys.map (·.length)).sum + ys.length * a.length ≤ 16777216 then .ok (.str (Txt.join a ys)) h else .bad
      | none => .bad
    | none => .bad
  | _, _ => .bad
theorem lk_join {K : PySem.W.Frag} : ∀ (W : WX) al B sg H h x w v (Q : VK), HR K al B H h → Rep K al B H w v → Po K B (fun al H => Rep K al B H) sg al H (mJoin (.str x) w h) W Q → rJoin K (.str x) [v] H Q := by
  intro W al B sg H h x w v Q hr r p
  unfold mJoin at p
  dsimp only at p
  cases e : items w h with
  | none => rw [e] at p; exact p.elim
  | some xs =>
    rw [e] at p
    dsimp only at p
    obtain ⟨a, vs, rfl, q, s⟩ := items_sq hr r e
    cases e2 : txts xs with
    | none => rw [e2] at p; exact p.elim
    | some ys =>
      rw [e2] at p
      dsimp only at p
      split at p
      · rename_i c
        have := txts_rep s e2
        subst this
        exact ⟨x, a, ys, rfl, rfl, q, c, Po.now p hr (.str _)⟩
      · exact p.elim
end
/-! ### xs.count(y), xs a list that stays -/
section
variable {X : Cx} {W : WX} {o e : Expr} {mo m : SE} {ra : En → M (List Val)} {apos cpos pos : Pos}
def rCntF (K : PySem.W.Frag) : V → List V → Hp → VK → Prop := fun x xs H Q => ∃ p ys y, x = .ref p ∧ xs = [y] ∧ SqL K H p ys ∧ flatV y = true ∧ ys.all flatV = true ∧ Q (.int ((ys.countP fun z => eqV z y : Nat) : Int)) H
theorem mt_cntF : MtR X "list.count" (rCntF X.K) := by
  intro pins s σ H x xs v us Q I rx rxs h
  obtain ⟨p, ys, y, rfl, rfl, hs, fy, fs, q⟩ := h
  cases rx
  obtain ⟨u, rfl, ru⟩ := vals1 rxs
  obtain ⟨its, r', ⟨⟨cls, dd, data, sl⟩, n, ho, hc, hdn, hd⟩, hlen⟩ := I.list hs
  simp only at hc hd
  subst hc hd
  refine call_meets PySem.F.slot_list_count ⟨_, ho, rfl⟩ PySem.F.entry_list_count (PySem.F.args_list_count_2 _ _) (SeqAt.list_countAt p its.toArray n dd sl u (eqU y))
    ⟨ho, fun z hz => mem_eqAt ru fy r' fs z (by simpa using hz), ⟨.int _, H, I.tok _, ⟨s.toks, ?_⟩, q⟩⟩
  show Value.int ((its.toArray.toList.countP (eqU y) : Nat) : Int) s.toks = _
  rw [show its.toArray.toList = its from rfl, countP_eqU r' fs]
def mCntL (w : Val) (ws : List Val) : M Val := fun h => match w, ws with
  | .lst xs, [y] => if flat y = true ∧ xs.all flat = true then .ok (.int ((xs.countP fun z => eqF z y : Nat) : Int)) h else .bad
  | _, _ => .bad
def sMtI (f : Val → List Val → M Val) (mo : SE) (ra : En → M (List Val)) : SE := fun ro => bind (mo ro) fun w h => match w with
  | .lst xs => bind (ra ro) (fun ws => f (.lst xs) ws) h
  | _ => .bad
theorem oe_cntL (ho : PE X o (tE X.K W mo)) (ha : PA X [e] (tA X.K W ra)) (hbase : attributeBase o "count" X.env (eval o X.env) = eval o X.env)
    (hfew : ((backTo cpos (starEach [e] X.env)).all (fun x => !x.1) && (backToKw cpos (keywordEach [] X.env)).all (fun x => x.1.isSome) && decide (([e] : List Expr).length + ([] : List Keyword).length + (if ([] : List Keyword).isEmpty then 0 else 1) < 30)) = true)
    (hline : (apos.endLine == cpos.line) = true) (hs : starEach [e] X.env = (false, eval e X.env) :: starEach [] X.env) (hplain : (backTo cpos (starEach [] X.env)).any (·.1) = false) :
    PE X (.Call (.Attribute o "count" apos) [e] [] cpos) (tE X.K W (sMtI mCntL mo ra)) := by
  refine PE.weak (pe_bm PySem.F.plainAttrs_list PySem.F.slot_list_count PySem.F.type_list_count mt_cntF ho ha hbase hfew hline hs hplain) ?_
  rintro sg H Q ⟨al, B, ro, h, S, p⟩
  refine ⟨al, B, ro, h, S, Po.mono (Po.bind p) fun v H1 ⟨al1, h1, w, st, hr, r1, q⟩ => ?_⟩
  cases r1 with
  | lst a l s =>
    refine ⟨.inl ⟨rfl, _, SqL.of a.1⟩, al1, B, ro, h1, S.step st hr, Po.mono (Po.bind q) fun vs H2 ⟨al2, h2, ws, st2, hr2, rs, q2⟩ => ?_⟩
    unfold mCntL at q2
    split at q2
    · rename_i e1
      cases e1
      obtain ⟨y, rfl, ry⟩ := rs.one
      split at q2
      · rename_i c
        refine ⟨_, _, y, rfl, rfl, SqL.of (a.step st2).1, flat_rep ry c.1, flats_rep (s.step st2) c.2, ?_⟩
        rw [cnt_rep ry c.1 (s.step st2) c.2]
        exact Po.now q2 hr2 (.int _)
      · exact q2.elim
    · exact q2.elim
  | _ => exact q.elim
end
/-! ### x is True -/
def bIsB (neg : Bool) (w1 w2 : Val) : M Val := fun h => match w2 with
  | .bl b => .ok (.bl (neg ^^ (match w1 with | .bl a => a == b | _ => false))) h
  | _ => .bad
def rIsB (neg : Bool) : R2 := fun x y H Q => ∃ b, y = .bl b ∧ Q (.bl (neg ^^ decide (x = .bl b))) H
theorem op_isB {X : Cx} : OpR X (compareOp .Is) (rIsB false) := by
  intro pins s σ H x y v u Q I rx ry h
  obtain ⟨b, rfl, q⟩ := h
  cases ry
  cases x with
  | bl z => cases rx; cases z <;> cases b <;> exact wpAny_pure (fin_bl I q rfl)
  | _ => first
    | (cases rx; cases b <;> exact wpAny_pure (fin_bl I q rfl))
    | (obtain ⟨t, rfl⟩ := rx; cases b <;> exact wpAny_pure (fin_bl I q rfl))
theorem op_isnotB {X : Cx} : OpR X (compareOp .IsNot) (rIsB true) := by
  intro pins s σ H x y v u Q I rx ry h
  obtain ⟨b, rfl, q⟩ := h
  cases ry
  cases x with
  | bl z => cases rx; cases z <;> cases b <;> exact wpAny_pure (fin_bl I q rfl)
  | _ => first
    | (cases rx; cases b <;> exact wpAny_pure (fin_bl I q rfl))
    | (obtain ⟨t, rfl⟩ := rx; cases b <;> exact wpAny_pure (fin_bl I q rfl))
theorem lk_isB {K : PySem.W.Frag} (neg : Bool) : Lk2 K (bIsB neg) (rIsB neg) := by
  intro W al B sg H h w1 w2 v1 v2 Q hr r1 r2 p
  unfold bIsB at p
  split at p
  · cases r2
    rename_i b
    refine ⟨b, rfl, ?_⟩
    have q := Po.now p hr (.bl _)
    cases r1 with
    | bl c => cases c <;> cases b <;> simpa using q
    | _ => simpa using q
  · exact p.elim
/-! ### x in range(a, b) -/
section
variable {X : Cx} {W : WX} {x a b : Expr} {mx : SE} {ra : En → M (List Val)} {pos rpos npos : Pos}
def sInR (neg : Bool) (mx : SE) (ra : En → M (List Val)) : SE := fun ro => bind (mx ro) fun w => bind (ra ro) fun ws => match w, ws with
  | .int i, [.int lo, .int hi] => ret (.bl (neg ^^ decide (lo ≤ i ∧ i < hi)))
  | _, _ => fail
def rInR (neg : Bool) : R2 := fun x y H Q => ∃ i a lo hi, x = V.int i ∧ y = V.ref a ∧ H a = some (.rng lo hi) ∧ Q (.bl (neg ^^ decide (lo ≤ i ∧ i < hi))) H
theorem op_inR : OpR X (compareOp .In) (rInR false) := by
  intro pins s σ H x y v u Q I rx ry h
  obtain ⟨i, a, lo, hi, e1, e2, e3, q⟩ := h
  exact op_in_rng pins s σ H x y v u Q I rx ry ⟨i, a, lo, hi, e1, e2, e3, by simpa using q⟩
theorem op_notInR : OpR X (compareOp .NotIn) (rInR true) := by
  intro pins s σ H x y v u Q I rx ry h
  obtain ⟨i, a, lo, hi, rfl, rfl, ha, q⟩ := h
  obtain ⟨k, rfl⟩ := rx
  obtain rfl : u = Value.ref a := ry
  obtain ⟨t1, t2, t3, ho⟩ := I.hok a _ ha
  show wpAny _ _ (do return Value.bool (!(← contains (Value.ref a) (Value.int i k)))) _ _ s
  refine wpAny_bind (wpAny_contains_slot (T := "range") ⟨_, ho, rfl⟩ F.slot_range_contains (call_meets F.slot_range_contains ⟨_, ho, rfl⟩ F.entry_range_contains (F.args_range_contains_2 _ _) (q_contains a lo hi i t1 t2 t3 k) ⟨ho, ?_⟩))
  refine wpAny_truthy_bool (wpAny_pure ⟨.bl _, H, I, rfl, ?_⟩)
  rw [place1]
  simpa using q
theorem tE_inR {neg : Bool} (sg : L2.St) (H : Hp) (Q : VK) (p : tE X.K W (sInR neg mx ra) sg H Q) : tOp (rInR neg) (tE X.K W mx) (tCB (fun vs H Q => ∃ i j, vs = [V.int i, V.int j] ∧ ∀ p, H p = none → Q (.ref p) (upd H p (.rng i j))) (tA X.K W ra)) sg H Q := by
  obtain ⟨al, B, ro, h, S, p⟩ := p
  refine ⟨al, B, ro, h, S, Po.mono (Po.bind p) fun v1 H1 ⟨al1, h1, w1, st1, hr1, r1, p1⟩ => ?_⟩
  refine ⟨al1, B, ro, h1, S.step st1 hr1, Po.mono (Po.bind p1) fun v2 H2 ⟨al2, h2, w2, st2, hr2, r2, p2⟩ => ?_⟩
  split at p2
  · rename_i i lo hi _
    cases r1
    obtain ⟨a, b, rfl, ra, rb⟩ := r2.two
    cases ra; cases rb
    exact ⟨lo, hi, rfl, fun q hq => ⟨i, q, lo, hi, rfl, rfl, upd_same, p2 al2 _ _ (Stp.lay hq) (hr2.lay hq) (.bl _)⟩⟩
  · exact p2.elim
theorem oe_inR {op : CmpOp} {neg : Bool} (ho : OpR X (compareOp op) (rInR neg)) (hm : behindInMarks op (.Call (.Name "range" npos) [a, b] [] rpos) = false) (hg : Gl X "range") (hmg : X.mg "range" = none) (hx : PE X x (tE X.K W mx)) (ha : PA X [a, b] (tA X.K W ra))
    (he : starEach [a, b] X.env = (false, eval a X.env) :: starEach [b] X.env) (hpl : (backTo rpos (starEach [b] X.env)).any (·.1) = false) : PE X (.Compare x [op] [.Call (.Name "range" npos) [a, b] [] rpos] pos) (tE X.K W (sInR neg mx ra)) :=
  PE.weak (pe_cmpR ho hx (pe_callTy cr_range2 hg hmg zb_range ha (by decide) (by decide) he hpl) hm) tE_inR
theorem ot_inR {op : CmpOp} {neg : Bool} (ho : OpR X (compareOp op) (rInR neg)) (hm : behindInMarks op (.Call (.Name "range" npos) [a, b] [] rpos) = false) (hg : Gl X "range") (hmg : X.mg "range" = none) (hx : PE X x (tE X.K W mx)) (ha : PA X [a, b] (tA X.K W ra))
    (he : starEach [a, b] X.env = (false, eval a X.env) :: starEach [b] X.env) (hpl : (backTo rpos (starEach [b] X.env)).any (·.1) = false) : PT X (.Compare x [op] [.Call (.Name "range" npos) [a, b] [] rpos] pos) (tT X.K W (asT (sInR neg mx ra))) := by
  refine PT.weak (pt_cmpR ho hx (pe_callTy cr_range2 hg hmg zb_range ha (by decide) (by decide) he hpl) hm) ?_
  rintro sg H Q ⟨al, B, ro, h, S, p⟩
  refine tE_inR sg H _ ⟨al, B, ro, h, S, Po.mono (Po.bind p) fun v1 H1 ⟨al1, h1, w1, st1, hr1, r1, p1⟩ => ?_⟩
  cases r1 <;> first | exact p1.elim | exact ⟨_, rfl, Po.now p1 hr1 rfl⟩
end
end Z
set_option Elab.async false
set_option maxRecDepth 100000
set_option linter.unusedVariables false
set_option linter.unusedSimpArgs false
/-! ZM: evaluation lemmas for ZR's things. -/
namespace Z
open PySem PySem.Spec PyProof.Rows L2
@[simp] theorem sSm_s {f : Val → Val → M Val} {mo m : SE} {ro : En} {h : HH} : sSm f mo m ro h = obind (mo ro h) fun w h1 => (match w with | .str x => bind (m ro) fun y => f (.str x) y | _ => fail) h1 := rfl
def mtI (f : Val → List Val → M Val) (ra : En → M (List Val)) (ro : En) (w : Val) : M Val := fun h => match w with
  | .lst xs => obind (ra ro h) fun ws => f (.lst xs) ws
  | _ => .bad
@[simp] theorem sMtI_e {f : Val → List Val → M Val} {mo : SE} {ra : En → M (List Val)} {ro : En} {h : HH} : sMtI f mo ra ro h = obind (mo ro h) fun w h1 => mtI f ra ro w h1 := rfl
@[simp] theorem mtI_l {f : Val → List Val → M Val} {ra : En → M (List Val)} {ro : En} {h : HH} {xs : List Val} : mtI f ra ro (.lst xs) h = obind (ra ro h) fun ws h1 => f (.lst xs) ws h1 := rfl
def inRv (neg : Bool) (w : Val) (ws : List Val) : M Val := match w, ws with
  | .int i, [.int lo, .int hi] => ret (.bl (neg ^^ decide (lo ≤ i ∧ i < hi)))
  | _, _ => fail
@[simp] theorem sInR_e {neg : Bool} {mx : SE} {ra : En → M (List Val)} {ro : En} {h : HH} : sInR neg mx ra ro h = obind (mx ro h) fun w h1 => obind (ra ro h1) fun ws h2 => inRv neg w ws h2 := rfl
@[simp] theorem inRv_e {neg : Bool} {i lo hi : Int} {h : HH} : inRv neg (.int i) [.int lo, .int hi] h = .ok (.bl (neg ^^ decide (lo ≤ i ∧ i < hi))) h := rfl
theorem cntL_t {w : Val} {xs : List Val} {h : HH} (f : flat w = true) (g : xs.all flat = true) : mCntL (.lst xs) [w] h = .ok (.int ((xs.countP fun z => eqF z w : Nat) : Int)) h := by
  show (if flat w = true ∧ xs.all flat = true then _ else _) = _
  rw [if_pos ⟨f, g⟩]
/-! texts joined by nothing -/
theorem str_of_tl {x : Str} {l : List Nat} (e : x.cps.toList = l) : x = ⟨l.toArray⟩ := by
  subst e
  obtain ⟨c⟩ := x
  rfl
theorem joinL_nil : ∀ ls : List (List Nat), TL.joinL [] ls = ls.flatten
  | [] => rfl
  | [p] => by simp [TL.joinL]
  | p :: q :: r => by
    show p ++ ([] ++ TL.joinL [] (q :: r)) = _
    rw [joinL_nil (q :: r)]
    simp
theorem join_one (cs : List Nat) : Txt.join "" (cs.map fun c => (⟨#[c]⟩ : Str)) = ⟨cs.toArray⟩ := by
  refine str_of_tl ?_
  show TL.tl (Txt.join "" _) = cs
  rw [TL.join_eq, TL.tl_join, List.map_map]
  show TL.joinL [] _ = cs
  rw [joinL_nil]
  induction cs with
  | nil => rfl
  | cons c cs ih =>
    rw [List.map_cons, List.flatten_cons, ih]
    rfl
/-! comprehensions, more of them -/
theorem sLc_gen {mi : SI} {g : GM} {m : SE} {own : List Nat} {ro : En} {h : HH} {xs : List Val} (f : Val → Val) (e : mi ro h = .ok (.st xs, xs.length) h) (hf : ∀ w ∈ xs, ∃ ro1, g w (wipeN ro own) h = .go .nx ro1 h ∧ m ro1 h = .ok (f w) h) :
    sLc mi g tYesZ m own ro h = .ok (.lst (xs.map f)) h := by
  show obind (mi ro h) _ = _
  rw [e]
  show obind (lcTurns g tYesZ m (wipeN ro own) (.st xs) xs.length 0 [] h) _ = _
  have q := lc_list (g := g) (t := tYesZ) (m := m) (ro := wipeN ro own) (h := h) (fun w => [f w]) xs xs xs.length 0 [] (by simp) rfl fun w hw => by
    obtain ⟨ro1, e1, e2⟩ := hf w hw
    exact ⟨ro1, e1, .inl ⟨rfl, _, e2, rfl⟩⟩
  rw [q]
  simp only [List.nil_append, ← List.map_eq_flatMap, ob_ok, ret_e]
theorem lc2_gen {g : GM} {mi : SI} {g1 : GM} {m : SE} {vs1 : List Nat} {ro : En} {h : HH} (F : Val → List Val) : ∀ (xs ys : List Val) (k i : Nat) (acc : List Val), ys.drop i = xs → k = xs.length → acc.length + 1000 * xs.length ≤ 1000000 →
    (∀ w ∈ xs, ∃ ro1 zs f, g w ro h = .go .nx ro1 h ∧ mi ro1 h = .ok (.st zs, zs.length) h ∧ zs.length ≤ 1000 ∧ F w = zs.map f ∧ ∀ z ∈ zs, ∃ ro2, g1 z (wipeN ro1 vs1) h = .go .nx ro2 h ∧ m ro2 h = .ok (f z) h) →
    lc2 g tYesZ mi g1 tYesZ m vs1 ro (.st ys) k i acc h = .ok (acc ++ xs.flatMap F) h
  | [], ys, k, i, acc, e, hk, _, _ => by
    have en : ys[i]? = none := List.getElem?_eq_none (by have := congrArg List.length e; rw [List.length_drop] at this; simp at this; omega)
    have hk : k = 0 := hk
    subst hk
    unfold lc2
    have : nxt (.st ys) i h = some none := by show some ys[i]? = _; rw [en]
    rw [this]
    simp
  | x :: xs, ys, k, i, acc, e, hk, hn, hf => by
    have es : ys[i]? = some x := by
      have := congrArg (fun l => l[0]?) e
      simpa using this
    have ed : ys.drop (i + 1) = xs := by
      have := congrArg List.tail e
      simpa using this
    have hk : k = xs.length + 1 := hk
    subst hk
    unfold lc2
    have : nxt (.st ys) i h = some (some x) := by show some ys[i]? = _; rw [es]
    rw [this]
    obtain ⟨ro1, zs, f, e1, e2, hz, eF, c⟩ := hf x List.mem_cons_self
    rw [List.length_cons] at hn
    have q := lc_list (g := g1) (t := tYesZ) (m := m) (ro := wipeN ro1 vs1) (h := h) (fun w => [f w]) zs zs zs.length 0 acc (by simp) rfl fun w hw => by
      obtain ⟨ro2, a1, a2⟩ := c w hw
      exact ⟨ro2, a1, .inl ⟨rfl, _, a2, rfl⟩⟩
    rw [← List.map_eq_flatMap] at q
    have ih := lc2_gen F xs ys xs.length (i + 1) (acc ++ zs.map f) ed rfl (by rw [List.length_append, List.length_map]; omega) fun w hw => hf w (List.mem_cons_of_mem _ hw)
    simp only [e1, e2, tYesZ_e, if_true, q]
    rw [if_pos (by have := sizeLine_eq; omega)]
    rw [ih, List.flatMap_cons, eF, List.append_assoc]
theorem sLc2_gen {mi mi1 : SI} {g g1 : GM} {m : SE} {own vs1 : List Nat} {ro : En} {h : HH} {xs : List Val} (F : Val → List Val) (e : mi ro h = .ok (.st xs, xs.length) h) (l : xs.length ≤ 900)
    (hf : ∀ w ∈ xs, ∃ ro1 zs f, g w (wipeN ro own) h = .go .nx ro1 h ∧ mi1 ro1 h = .ok (.st zs, zs.length) h ∧ zs.length ≤ 1000 ∧ F w = zs.map f ∧ ∀ z ∈ zs, ∃ ro2, g1 z (wipeN ro1 vs1) h = .go .nx ro2 h ∧ m ro2 h = .ok (f z) h) :
    sLc2 mi g tYesZ mi1 g1 tYesZ m own vs1 ro h = .ok (.lst (xs.flatMap F)) h := by
  show obind (mi ro h) _ = _
  rw [e]
  show obind (lc2 g tYesZ mi1 g1 tYesZ m vs1 (wipeN ro own) (.st xs) xs.length 0 [] h) _ = _
  rw [lc2_gen F xs xs xs.length 0 [] (by simp) rfl (by simp; omega) hf]
  rfl
theorem bls_bl : ∀ bs : List Bool, bls (bs.map Val.bl) = some bs
  | [] => rfl
  | b :: bs => by
    show (bls (bs.map Val.bl)).map _ = _
    rw [bls_bl bs]; rfl
theorem fAll_bls (bs : List Bool) (h : HH) : fAll [.lst (bs.map Val.bl)] h = .ok (.bl (bs.all id)) h := by
  show (match bls (bs.map Val.bl) with | some bs => Out.ok (Val.bl (bs.all id)) h | none => .bad) = _
  rw [bls_bl]
/-! w == k, k a number -/
theorem bEq_any {w : Val} {k : Int} {h : HH} (e : pl w = true) : ∃ r, bEq w (.int k) h = .ok (.bl r) h := by
  have o := pl_ok w e
  have r1 : rd w h = some w := by cases w <;> first | rfl | cases e
  unfold bEq
  rw [r1]
  show ∃ r, (match veq w (.int k) with | some k => Out.ok (Val.bl k) h | none => .bad) = _
  unfold veq
  cases q : quick w (.int k) with
  | some b => exact ⟨b, rfl⟩
  | none =>
    dsimp only
    rw [if_pos ⟨o, rfl, Nat.le_trans (Nat.min_le_right _ _) (by unfold toD; unfold PyData.depth; omega)⟩]
    exact ⟨_, rfl⟩
/-! != [] -/
def isNil : Val → Bool
  | .lst [] => true
  | _ => false
theorem bNe_nil {xs : List Val} {h : HH} (e : pl (.lst xs) = true) : bNe (.lst xs) (.lst []) h = .ok (.bl (!xs.isEmpty)) h := by
  have o := pl_ok _ e
  show (match veq (.lst xs) (.lst []) with | some k => Out.ok (Val.bl (!k)) h | none => .bad) = _
  have : veq (.lst xs) (.lst []) = some xs.isEmpty := by
    show (if okV (.lst xs) = true ∧ okV (.lst []) = true ∧ min (toD (.lst xs)).depth (toD (.lst [])).depth ≤ 64 then some (PyData.eqv (toD (.lst xs)) (toD (.lst []))) else none) = _
    rw [if_pos ⟨o, rfl, Nat.le_trans (Nat.min_le_right _ _) (by decide)⟩]
    cases xs <;> rfl
  rw [this]
end Z
set_option Elab.async false
set_option maxRecDepth 100000
set_option linter.unusedVariables false
/-! ZX: targets with a star. -/
namespace Z
open PySem PySem.Spec PyProof.Rows L2
section
variable {prog : Program} {w : World} {A : Around} {E : Value → Shared → Prop} {s : Shared}
theorem walks_shift {I : Addr} {fp wr : List Addr} {n : Nat} {P : Nat → Value → Prop} {St : Nat → Heap → Prop} (W : Walks prog w A I fp wr (n + 1) P St) : Walks prog w A I fp wr n (fun i v => P (i + 1) v) (fun i h => St (i + 1) h) where
  sub := W.sub
  frame := fun i h h' st k => W.frame (i + 1) h h' st k
  item := fun i s Q E hi st hQ => W.item (i + 1) s Q E (Nat.succ_lt_succ hi) st hQ
  done := fun s Q E st hQ => W.done s Q E st hQ
  self := fun i s Q E st hQ => W.self (i + 1) s Q E st hQ
theorem items_tail {x : Value} {ys : List Value} {acc : Array Value} (h : ItemsOf (fun i v => (x :: ys).toArray[i + 1]? = some v) acc ys.length) : acc.toList = ys := by
  refine List.ext_getElem? fun j => ?_
  obtain ⟨h1, h2⟩ := h
  cases e : acc[j]? with
  | none =>
    have l : acc.size ≤ j := by
      by_cases c : j < acc.size
      · rw [Array.getElem?_eq_getElem c] at e; cases e
      · omega
    rw [Array.getElem?_toList, e, List.getElem?_eq_none (by omega)]
  | some v =>
    have q := h2 j v e
    rw [Array.getElem?_toList, e]
    simpa using q.symm
/-- what stands behind the first item -/
def StarQ (s : Shared) (x : Value) (ys : List Value) (Q : List Value → Shared → Prop) : Prop := ∀ (h' : Heap) (tk : Nat), (∀ b o, s.heap.get? b = some o → h'.get? b = some o) → Q [x, .ref h'.objs.size] { s with heap := h'.push { cls := .type "list", data := .seq ys.toArray }, toks := tk }
theorem star_end {I : Addr} {fp : List Addr} {x : Value} {ys : List Value} {T : String} {St : Nat → Heap → Prop} {s1 : Shared} {Q : List Value → Shared → Prop} (hTm : T = "str_ascii_iterator" ∨ T = "str_iterator" ∨ T = "list_iterator" ∨ T = "tuple_iterator")
    (W : Walks prog w A.in1 I fp [I] (ys.length + 1) (fun i v => (x :: ys).toArray[i]? = some v) St) (hT : ∀ i h, St i h → ∃ o, h.get? I = some o ∧ o.cls = .type T) (st : St 1 s1.heap) (hfp : ∀ b ∈ fp, b < s1.heap.objs.size) (hI : I ∈ fp) (hz : ys.length ≤ sizeLine)
    (hs : s1.gens = s.gens ∧ s1.drawn = s.drawn ∧ s1.os = s.os) (hk : ∀ b o, s.heap.get? b = some o → s1.heap.get? b = some o ∧ b ≠ I) (hQ : StarQ s x ys Q) :
    wpAny (model prog w) A (do
      let rest ← holding [x] (collect (.ref I))
      let after := 2 - 1 - 1
      if rest.length < after then
        rule "unpack.star.too-few"
        raiseError "ValueError" s!"not enough values to unpack (expected at least {2 - 1}, got {1 + rest.length})"
      let mid := rest.length - after
      return [x] ++ [← newList (rest.take mid)] ++ rest.drop mid) Q E s1 := by
  refine wpAny_bind (wpAny_holding (wpAny_collect_iter hTm (walks_shift W).toS (fun i s st => hT (i + 1) _ st) st hfp hI (fun s2 acc hm ha => ?_) hz))
  have ea := items_tail ha
  dsimp only
  rw [if_neg (by omega)]
  rw [ea]
  refine wpAny_bind (wpAny_newList ?_)
  have et : ys.take (ys.length - (2 - 1 - 1)) = ys := List.take_of_length_le (by omega)
  have ed : ys.drop (ys.length - (2 - 1 - 1)) = [] := List.drop_of_length_le (by omega)
  rw [et, ed]
  refine wpAny_pure ?_
  obtain ⟨h2, g2, d2, t2, os2⟩ := s2
  obtain ⟨hm1, hm2, hm3, hm4, _⟩ := hm
  obtain ⟨hs1, hs2, hs3⟩ := hs
  dsimp only at hm1 hm2 hm3 hm4
  obtain ⟨h0, g0, d0, t0, os0⟩ := s
  dsimp only at hs1 hs2 hs3 hk
  have q := hQ h2 t2 fun b o e => hm1 b o (by simpa using (hk b o e).2) (hk b o e).1
  have e1 : g2 = g0 := hm2.trans hs1
  have e2 : d2 = d0 := hm3.trans hs2
  have e3 : os2 = os0 := hm4.trans hs3
  subst e1 e2 e3
  exact q
theorem unpack_starL {l : Addr} {x : Value} {ys : List Value} {Q : List Value → Shared → Prop} (hh : A.handled = none) (hl : s.heap.IsList l (x :: ys).toArray) (hz : ys.length ≤ sizeLine) (hQ : StarQ s x ys Q) : wpAny (model prog w) A (unpackItems (.ref l) 2 (some 1)) Q E s := by
  have hlt : l < s.heap.objs.size := by obtain ⟨o, ho, _⟩ := hl; exact Heap.lt_size ho
  unfold unpackItems
  refine wpAny_bind ?_
  unfold notIterableAtAll
  refine wpAny_bind (wpAny_specialOf hl.typeIs slot_list_iter.lookup ?_)
  refine wpAny_pure ?_
  simp only [Bool.false_eq_true, if_false]
  refine wpAny_bind (wpAny_holding (wpAny_pyIter_list hl ?_))
  refine wpAny_bind (wpAny_holding (PySem.W.kun_draw (Nat.ne_of_lt hlt) 1 0 _ _ ⟨_, Heap.get?_push_size _ rfl, rfl, rfl⟩ (hl.push _) (by simp) fun h1 hit hs1 => ?_))
  have e1 : List.take 1 (List.drop 0 (x :: ys).toArray.toList) = [x] := by simp
  rw [e1, if_neg (by simp)]
  have hl1 : h1.IsList l (x :: ys).toArray := (hl.push _).extBut hs1.extBut (Nat.ne_of_lt hlt)
  have hit' : h1.IsListIter s.heap.objs.size l 1 := by simpa using hit
  refine star_end (s := s) (I := s.heap.objs.size) (fp := [s.heap.objs.size, l]) (T := "list_iterator") (.inr (.inr (.inl rfl))) (Walks.list (A := A.in1) hh s.heap.objs.size l (Nat.ne_of_lt hlt) (x :: ys).toArray) (fun i h st => ?_) ⟨hit', hl1⟩ (fun b hb => ?_) (by simp) hz ⟨rfl, rfl, rfl⟩ (fun b o e => ⟨?_, Nat.ne_of_lt (Heap.lt_size e)⟩) hQ
  · obtain ⟨o, ho, hc, _⟩ := st.1
    exact ⟨o, ho, hc⟩
  · simp only [List.mem_cons, List.not_mem_nil, or_false] at hb
    rcases hb with rfl | rfl
    · obtain ⟨o, ho, _⟩ := hit'; exact Heap.lt_size ho
    · obtain ⟨o, ho, _⟩ := hl1; exact Heap.lt_size ho
  · exact hs1.extBut b o (Nat.ne_of_lt (Heap.lt_size e)) (Heap.get?_push_of_some _ e)
theorem unpack_starT {l : Addr} {x : Value} {ys : List Value} {Q : List Value → Shared → Prop} (hh : A.handled = none) (hl : IsTup s.heap l (x :: ys).toArray) (hz : ys.length ≤ sizeLine) (hQ : StarQ s x ys Q) : wpAny (model prog w) A (unpackItems (.ref l) 2 (some 1)) Q E s := by
  have hlt : l < s.heap.objs.size := by obtain ⟨o, ho, _⟩ := hl; exact Heap.lt_size ho
  unfold unpackItems
  refine wpAny_bind ?_
  unfold notIterableAtAll
  refine wpAny_bind (wpAny_specialOf hl.typeIs slot_tuple_iter.lookup ?_)
  refine wpAny_pure ?_
  simp only [Bool.false_eq_true, if_false]
  refine wpAny_bind (wpAny_holding (iter_tuple hl ?_))
  refine wpAny_bind (wpAny_holding (PyProof.Rows.draw_tuple (Nat.ne_of_lt hlt) 1 0 _ _ ⟨_, Heap.get?_push_size _ rfl, rfl, rfl⟩ (hl.push _) (by simp) fun h1 hit hs1 => ?_))
  have e1 : List.take 1 (List.drop 0 (x :: ys).toArray.toList) = [x] := by simp
  rw [e1, if_neg (by simp)]
  have hl1 : IsTup h1 l (x :: ys).toArray := (hl.push _).extBut hs1.extBut (Nat.ne_of_lt hlt)
  have hit0 : IsTupIter h1 s.heap.objs.size l 1 := by simpa using hit
  have hit' : h1.IsTupleIter s.heap.objs.size l 1 := hit0
  refine star_end (s := s) (I := s.heap.objs.size) (fp := [s.heap.objs.size, l]) (T := "tuple_iterator") (.inr (.inr (.inr rfl))) (Walks.tuple (A := A.in1) hh s.heap.objs.size l (Nat.ne_of_lt hlt) (x :: ys).toArray) (fun i h st => ?_) ⟨hit', hl1⟩ (fun b hb => ?_) (by simp) hz ⟨rfl, rfl, rfl⟩ (fun b o e => ⟨?_, Nat.ne_of_lt (Heap.lt_size e)⟩) hQ
  · obtain ⟨o, ho, hc, _⟩ := st.1
    exact ⟨o, ho, hc⟩
  · simp only [List.mem_cons, List.not_mem_nil, or_false] at hb
    rcases hb with rfl | rfl
    · obtain ⟨o, ho, _⟩ := hit'; exact Heap.lt_size ho
    · obtain ⟨o, ho, _⟩ := hl1; exact Heap.lt_size ho
  · exact hs1.extBut b o (Nat.ne_of_lt (Heap.lt_size e)) (Heap.get?_push_of_some _ e)
end
def gStarK (K : PySem.W.Frag) (t : TGs) : TG := fun v sg H Q => ∃ a x ys, v = .ref a ∧ (SqL K H a (x :: ys) ∨ SqT K H a (x :: ys)) ∧ ∀ l, H l = none → t [x, .ref l] sg (upd H l (.lst ys)) Q
theorem pg_star {X : Cx} {t1 t2 : Expr} {t : TGs} {k : Nat} {sp pos : Pos} (hc : X.calm = true) (h : PGs X [t1, t2] t) (he : assignEach [t1, .Starred t2 sp] X.env = [(false, assign t1 X.env), (true, assign t2 X.env)]) (he2 : (assignEach [t1, t2] X.env).map (·.2) = [assign t1 X.env, assign t2 X.env]) :
    PG X (.Tuple [t1, .Starred t2 sp] k pos) (gStarK X.K t) := by
  refine ⟨fun pins s σ H v u Q I r hw => ?_⟩
  obtain ⟨a, x, ys, rfl, hq, hw⟩ := hw
  cases r
  rw [PyProof.Rows.assign_Tuple]
  refine wpAny_bind (wpAny_standAt ?_)
  unfold unpack
  rw [he]
  have fin : ∀ (vx : Value) (vys : List Value), RelV x vx → Vals ys vys → ys.length ≤ sizeLine → StarQ s vx vys fun items s' => wpAny (model X.prog X.w) X.A (assignInOrder [assign t1 X.env, assign t2 X.env] items) (fun _ s' => ∃ σ' H', Inv X pins σ' H' s' ∧ Q σ' H') X.xe s' := by
    intro vx vys rx rys hz h' tk k
    have I1 : Inv X pins σ H { s with heap := h', toks := tk } := I.kept (t' := tk) k
    have hn : H h'.objs.size = none := I1.hok.fresh (Nat.le_refl _)
    have I2 : Inv X pins σ (upd H h'.objs.size (.lst ys)) { s with heap := h'.push { cls := .type "list", data := .seq vys.toArray }, toks := tk } :=
      I1.laid (t' := tk) (fun b u e => Heap.get?_push_of_some _ e) (Nat.le_refl _) ⟨hz, vys, _, rys, Heap.get?_push_size _ rfl⟩
    have q := h.run pins _ σ _ [x, .ref h'.objs.size] [vx, .ref h'.objs.size] Q I2 (.cons rx (.cons rfl .nil)) (hw _ hn)
    rw [he2] at q
    exact q
  rcases hq with hq | hq
  · obtain ⟨its, rv, pl, hz⟩ := I.list hq
    cases rv with
    | @cons _ vx _ vys rx rys =>
      exact wpAny_bind (wpAny_holding (unpack_starL (I.ok.hd hc) pl.isList (by rw [← rys.length]; simp at hz; omega) (fin vx vys rx rys (by simp at hz; omega))))
  · obtain ⟨its, rv, ht, hz⟩ := I.tuple hq
    cases rv with
    | @cons _ vx _ vys rx rys =>
      exact wpAny_bind (wpAny_holding (unpack_starT (I.ok.hd hc) ht (by rw [← rys.length]; simp at hz; omega) (fin vx vys rx rys (by simp at hz; omega))))
/-- first, *rest = .. -/
def gSt (g : List Val → En → HH → SO) : GM := fun w ro h => match items w h with
  | some (x :: ys) => g [x, .lst ys] ro h
  | _ => .bad
theorem og_star {X : Cx} {t1 t2 : Expr} {sl : List Nat} {g : List Val → En → HH → SO} {k : Nat} {sp pos : Pos} (hc : X.calm = true) (h : PGs X [t1, t2] (tGs X.K sl g)) (he : assignEach [t1, .Starred t2 sp] X.env = [(false, assign t1 X.env), (true, assign t2 X.env)])
    (he2 : (assignEach [t1, t2] X.env).map (·.2) = [assign t1 X.env, assign t2 X.env]) : PG X (.Tuple [t1, .Starred t2 sp] k pos) (tG X.K sl (gSt g)) := by
  refine PG.weak (pg_star hc h he he2) ?_
  rintro v sg H Q ⟨al, B, ro, h, w, S, r, p⟩
  unfold gSt at p
  split at p
  · rename_i x ys e
    obtain ⟨a, vs, rfl, q, rs⟩ := items_sq S.hr r e
    cases rs with
    | cons rx rys =>
      refine ⟨a, _, _, rfl, q, fun l hl => ?_⟩
      have ly : ys.length ≤ sizeLine := by
        cases r with
        | tup _ l _ => cases e; simp at l; omega
        | lst _ l _ => cases e; simp at l; omega
        | scr _ l =>
          have e' : (List.map Val.int _) = x :: ys := Option.some.inj e
          have := congrArg List.length e'
          simp at this
          omega
        | ref q2 =>
          unfold items at e
          dsimp only at e
          split at e
          · rename_i e2
            cases e
            cases S.hr.ob _ _ _ q2 e2 with
            | lst _ l _ => simp at l; omega
          · cases e
        | _ => cases e
      refine ⟨al, B, ro, _, _, S.step (Stp.lay hl) (S.hr.lay hl), .cons (rx.step (Stp.lay hl)) (.cons (.lst (At1.lay S.hr hl) ly (rys.step (Stp.lay hl))) .nil), Pg.step p (Stp.lay hl)⟩
  · exact p.elim
end Z
set_option Elab.async false
set_option maxRecDepth 100000
set_option linter.unusedVariables false
/-! ZY: written dicts of defs, calls of a local name, str(x), zfill, startswith, extend, == of nested lists, what is never done. -/
namespace Z
open PySem PySem.Spec PyProof.Rows L2
/-! ### what is never done -/
def nBad : SS := fun _ _ => .bad
def sBad : SE := fun _ _ => .bad
theorem os_bad {X : Cx} {W : WX} {st : Stmt} : PS X st (tS X.K W nBad) := ⟨fun pins s sg H D I ⟨al, B, ro, h, S, p⟩ => p.elim⟩
theorem oe_bad {X : Cx} {W : WX} {e : Expr} : PE X e (tE X.K W sBad) := ⟨fun pins s sg H Q I ⟨al, B, ro, h, S, p⟩ => p.elim⟩
/-! ### a written dict -/
section
variable {X : Cx} {W : WX}
def bKin (neg : Bool) (d : Addr) (keys : List Str) (w1 w2 : Val) : M Val := fun h => match w1, w2 with
  | .str z, .glo e => if e = d ∧ z ∈ keys then .ok (.bl (!neg)) h else .bad
  | _, _ => .bad
def rKin (neg : Bool) (d : Addr) (keys : List Str) : R2 := fun x y H Q => ∃ z, x = .str z ∧ y = .ref d ∧ z ∈ keys ∧ Q (.bl (!neg)) H
theorem lk_kin {K : PySem.W.Frag} (neg : Bool) (d : Addr) (keys : List Str) : Lk2 K (bKin neg d keys) (rKin neg d keys) := by
  intro W al B sg H h w1 w2 v1 v2 Q hr r1 r2 p
  unfold bKin at p
  split at p
  · cases r1; cases r2
    split at p
    · rename_i c
      obtain ⟨rfl, c⟩ := c
      exact ⟨_, rfl, rfl, c, Po.now p hr (.bl _)⟩
    · exact p.elim
  · exact p.elim
theorem op_kin {d : Addr} {keys : List Str} {es : Array DictEntry} {n : Nat} (D : KDict X.K X.w d es n) (hk : ∀ z ∈ keys, ∃ v, PySem.W.nsIn X.K d z = some (some v)) : OpR X (compareOp .In) (rKin false d keys) := by
  intro pins s σ H x y v u Q I rx ry h
  obtain ⟨z, e1, e2, hz, q⟩ := h
  obtain ⟨v0, e3⟩ := hk z hz
  exact op_in_kd D pins s σ H x y v u Q I rx ry ⟨z, some v0, e1, e2, e3, q⟩
theorem op_notKin {d : Addr} {keys : List Str} {es : Array DictEntry} {n : Nat} (D : KDict X.K X.w d es n) (hk : ∀ z ∈ keys, ∃ v, PySem.W.nsIn X.K d z = some (some v)) : OpR X (compareOp .NotIn) (rKin true d keys) := by
  intro pins s σ H x y v u Q I rx ry h
  obtain ⟨z, e1, e2, hz, q⟩ := h
  obtain ⟨v0, e3⟩ := hk z hz
  exact op_notIn_kd D pins s σ H x y v u Q I rx ry ⟨z, some v0, e1, e2, e3, q⟩
def bKget (d : Addr) (kvs : List (Str × Addr)) (w1 w2 : Val) : M Val := fun h => match w1, w2 with
  | .glo e, .str z => if e = d then (match kvs.lookup z with
    | some a => .ok (.glo a) h
    | none => .bad) else .bad
  | _, _ => .bad
def rKget (d : Addr) (kvs : List (Str × Addr)) : R2 := fun x y H Q => ∃ z a, x = .ref d ∧ y = .str z ∧ kvs.lookup z = some a ∧ Q (.ref a) H
theorem lk_kget {K : PySem.W.Frag} (d : Addr) (kvs : List (Str × Addr)) : Lk2 K (bKget d kvs) (rKget d kvs) := by
  intro W al B sg H h w1 w2 v1 v2 Q hr r1 r2 p
  unfold bKget at p
  split at p
  · cases r1; cases r2
    split at p
    · rename_i c
      subst c
      split at p
      · rename_i a e
        exact ⟨_, a, rfl, rfl, e, Po.now p hr (.glo a)⟩
      · exact p.elim
    · exact p.elim
  · exact p.elim
theorem lookup_mem {β : Type} {z : Str} {a : β} : ∀ {kvs : List (Str × β)}, kvs.lookup z = some a → (z, a) ∈ kvs
  | [], h => by cases h
  | (k, b) :: r, h => by
    rw [List.lookup_cons] at h
    split at h
    · rename_i e
      cases h
      have : z = k := by simpa using e
      subst this
      exact List.mem_cons_self
    · exact List.mem_cons_of_mem _ (lookup_mem h)
theorem ix_kget {d : Addr} {kvs : List (Str × Addr)} {es : Array DictEntry} {n : Nat} (D : KDict X.K X.w d es n) (hk : ∀ q ∈ kvs, PySem.W.nsIn X.K d q.1 = some (some (.ref q.2))) : IxR X (rKget d kvs) := by
  intro value slice pins s σ H x y v u Q I rx ry h hs
  obtain ⟨z, a, e1, e2, e3, q⟩ := h
  exact ix_kdict value slice pins s σ H x y v u Q I rx ry ⟨d, z, .ref a, e1, e2, ⟨es, n, _, D.at_, D.lit, hk (z, a) (lookup_mem e3), rfl⟩, q⟩ hs
/-! ### a call of a local name that holds a def -/
def disp (L : List (Addr × (List Val → M Val))) (a : Addr) : Option (List Val → M Val) := match L with
  | [] => none
  | (b, F) :: r => if a = b then some F else disp r a
def sCallL (i np : Nat) (L : List (Addr × (List Val → M Val))) (ra : En → M (List Val)) : SE := fun ro => bind (sVar i ro) fun w => match w with
  | .glo a => match disp L a with
    | some F => bind (ra ro) fun ws => if ws.length = np then F ws else fail
    | none => fail
  | _ => fail
theorem disp_mem {L : List (Addr × (List Val → M Val))} {a : Addr} {F : List Val → M Val} (h : disp L a = some F) : (a, F) ∈ L := by
  induction L with
  | nil => cases h
  | cons q r ih =>
    obtain ⟨b, G⟩ := q
    unfold disp at h
    split at h
    · rename_i e; cases h; subst e; exact List.mem_cons_self
    · exact List.mem_cons_of_mem _ (ih h)
theorem oe_callL {k i np : Nat} {L : List (Addr × (List Val → M Val))} {x : Str} {ra : En → M (List Val)} {e : Expr} {es : List Expr} {p pos : Pos} (hr : RmG k X.A) (tk : Takes X W)
    (hL : ∀ a F, (a, F) ∈ L → ∃ fd ps, ps.length = np ∧ FnG X.prog X.w X.K X.mg X.base (L2.CX X.prog X.w) k a fd ps (spF X.K ps.length F) ∧ PySem.W.keepIn X.K (.ref a) = true ∧ KBz X.K fd ps np [] (fun ws _ => ws))
    (hv : PE X (.Name x p) (tE X.K W (sVar i))) (ha : PA X (e :: es) (tA X.K W ra)) (he : starEach (e :: es) X.env = (false, eval e X.env) :: starEach es X.env) (hpl : (backTo pos (starEach es X.env)).any (·.1) = false) :
    PE X (.Call (.Name x p) (e :: es) [] pos) (tE X.K W (sCallL i np L ra)) := by
  refine ⟨fun pins s sg H Q I h => ?_⟩
  obtain ⟨al, B, ro, h, S, q⟩ := h
  refine wpAny_Call_Name_kw (thn (hv.run pins s sg H _ I ⟨al, B, ro, h, S, Po.mono (Po.bind q) fun v H1 z => z⟩) fun u s1 ⟨v, H1, I1, r1, al1, h1, w1, st1, hr1, rw1, p1⟩ => ?_)
  cases rw1 with
  | glo a =>
    cases r1
    dsimp only at p1
    cases ed : disp L a with
    | none => rw [ed] at p1; exact p1.elim
    | some F =>
      rw [ed] at p1
      obtain ⟨fd, ps, lps, G, hk, hb⟩ := hL a F (disp_mem ed)
      obtain ⟨g, gV, hb, hrel⟩ := hb.ex
      refine PySem.W.callWith_K (h₀ := X.base) I.ok.mod.kin hk (thn (ha.run pos pins s1 sg H1 _ I1 ⟨al1, B, ro, h1, S.step st1 hr1, Po.mono (Po.bind p1) fun vs H2 z => z⟩) fun us s2 ⟨vs, H2, I2, r, al2, h2, w2, st2, hr2, r2, p2⟩ => ⟨I2.kIn, ?_⟩) he hpl
      by_cases c : w2.length = np
      · rw [if_pos c] at p2
        have z := run_call (W := W) (us := us) (ws := []) (ks := []) (E := fun cls d H' => W cls d sg H') G hr hb tk (fun _ _ _ z => z) I2 r .nil (r2.length.symm.trans c) rfl
          ⟨al2, B, h2, w2, hr2, hrel _ _ _ _ _ _ _ r2 .nil, c.trans lps.symm, Po.wish p2 fun _ _ _ z => z⟩
        exact z
      · rw [if_neg c] at p2
        exact p2.elim
  | _ => exact p1.elim
end
end Z
set_option Elab.async false
set_option maxRecDepth 100000
set_option linter.unusedVariables false
/-! ZW: int(text, 10), str(x), more methods of texts and lists, == of nested own lists. -/
namespace PySem
open PySem.W PySem.Calls PySem.NumText PyProof.Rows
set_option maxHeartbeats 4000000 in
theorem zw_gives10 {x : PySem.Str} {u t : Tok} {n : Int} (hl : x.length ≤ 640) (hn : PySem.intText? x = some n) : Gives (Builtin.«int.__new__» ⟨[.type "int", .str x u, .int 10 t], []⟩) (.int n) :=
  .of_wp fun M A E s Q h => by
    obtain ⟨hp, g, d, tk, os⟩ := s
    have f1 := F.conv_sub_int
    have f2 := F.madeHere_int
    have f6 : typeOf (.str x u) = pure (.type "str") := rfl
    have hs : (numSeenOf x).length ≤ 640 := Nat.le_trans (seen_length x) hl
    have hr : (int_private% "readNumeral") 0 10 (numSeenOf x) = (int_private% "Numeral.value") n ∧ ((numSeenOf x).length == (numTextOf x).length) = true := by
      rcases read0 x hs with ⟨m, h1, h2, h3⟩ | ⟨h1, _⟩
      · rw [hn] at h1
        injection h1 with h1
        subst h1
        exact ⟨h3, h2⟩
      · rw [hn] at h1
        cases h1
    have hk := KIN.Hid.mk (And.intro hs hr)
    clear hs hr hl hn
    repeat (any_goals (first
      | assumption
      | ((with_reducible show wpAny _ _ ((int_private% "intFromText") _ _ _) _ _ _); refine KIN.wp_text hk.out.1 hk.out.2.1 hk.out.2.2 ?_)
      | wp_step))
    all_goals first | exact ⟨_, rfl, h⟩ | skip
end PySem
namespace Z
open PySem PySem.Spec PyProof.Rows L2
section
variable {X : Cx}
def rInt10 : List V → Hp → VK → Prop := fun xs H Q => ∃ a n, xs = [.str a, .int 10] ∧ PySem.intText? a = some n ∧ a.length ≤ 640 ∧ Q (.int n) H
theorem call_int10 : CallR X (.type "int") rInt10 := by
  intro pins s σ H xs us Q I r h
  obtain ⟨a, n, rfl, hn, hl, q⟩ := h
  obtain ⟨u, w', rfl, r1, r2⟩ := vals2 r
  obtain ⟨t1, rfl⟩ := r1
  obtain ⟨t2, rfl⟩ := r2
  exact callType_new F.called_int F.newNe_int (Hx.typeCall_int_2 _ _) (Hx.newCall_int_2 _ _) (fun obj => F.initArgs_range_2 obj _ _) F.entry_int_new (PySem.zw_gives10 hl hn).meets
    (show (Made.int n).post _ s from ⟨rfl, .int n, H, I.tok _, ⟨_, rfl⟩, q⟩)
end
def fInt10 (ws : List Val) : M Val := fun h => match ws with
  | [.str a, .int 10] => match PySem.intText? a with
    | some n => if a.length ≤ 640 then .ok (.int n) h else .bad
    | none => .bad
  | _ => .bad
theorem lk_int10 {K : PySem.W.Frag} : Lks K fInt10 rInt10 := by
  intro W al B sg H h ws vs Q hr rs p
  unfold fInt10 at p
  split at p
  · rename_i a
    obtain ⟨v1, v2, rfl, r1, r2⟩ := rs.two
    cases r1; cases r2
    split at p
    · rename_i n e
      split at p
      · rename_i c
        exact ⟨_, n, rfl, e, c, Po.now p hr (.int n)⟩
      · exact p.elim
    · exact p.elim
  · exact p.elim
def rIntS : List V → Hp → VK → Prop := fun xs H Q => ∃ a n, xs = [.str a] ∧ PySem.intText? a = some n ∧ a.length ≤ 640 ∧ Q (.int n) H
def fIntS (ws : List Val) : M Val := fun h => match ws with
  | [.str a] => match PySem.intText? a with
    | some n => if a.length ≤ 640 then .ok (.int n) h else .bad
    | none => .bad
  | _ => .bad
theorem lk_intS {K : PySem.W.Frag} : Lks K fIntS rIntS := by
  intro W al B sg H h ws vs Q hr rs p
  unfold fIntS at p
  split at p
  · rename_i a
    obtain ⟨v1, rfl, r1⟩ := rs.one
    cases r1
    split at p
    · rename_i n e
      split at p
      · rename_i c
        exact ⟨_, n, rfl, e, c, Po.now p hr (.int n)⟩
      · exact p.elim
    · exact p.elim
  · exact p.elim
/-! ### str(x) -/
def rStrZ : List V → Hp → VK → Prop := fun xs H Q => (∃ i, xs = [.int i] ∧ i.natAbs.log2 < 1920 ∧ Q (.str (toString i)) H) ∨ ∃ a, xs = [.str a] ∧ Q (.str a) H
theorem call_strZ {X : Cx} : CallR X (.type "str") rStrZ := by
  intro pins s σ H xs us Q I r h
  rcases h with h | h
  · exact call_str_int pins s σ H xs us Q I r h
  · exact SkE.call_str_str pins s σ H xs us Q I r h
def fStr (ws : List Val) : M Val := fun h => match ws with
  | [.int i] => if i.natAbs.log2 < 1920 then .ok (.str (toString i)) h else .bad
  | [.str a] => .ok (.str a) h
  | _ => .bad
theorem lk_str {K : PySem.W.Frag} : Lks K fStr rStrZ := by
  intro W al B sg H h ws vs Q hr rs p
  unfold fStr at p
  split at p
  · obtain ⟨v1, rfl, r1⟩ := rs.one
    cases r1
    split at p
    · rename_i c
      exact .inl ⟨_, rfl, c, Po.now p hr (.str _)⟩
    · exact p.elim
  · obtain ⟨v1, rfl, r1⟩ := rs.one
    cases r1
    exact .inr ⟨_, rfl, Po.now p hr (.str _)⟩
  · exact p.elim
/-! ### zfill, startswith -/
def mZfill (w1 w2 : Val) : M Val := fun h => match w1, w2 with
  | .str a, .int i => if PadOk i = true then .ok (.str (Txt.zfill a i)) h else .bad
  | _, _ => .bad
theorem lk_zfill {K : PySem.W.Frag} : ∀ (W : WX) al B sg H h x w v (Q : VK), HR K al B H h → Rep K al B H w v → Po K B (fun al H => Rep K al B H) sg al H (mZfill (.str x) w h) W Q → ∃ (a : Str) (i : Int), (V.str x) = .str a ∧ [v] = [.int i] ∧ PadOk i = true ∧ Q (.str (Txt.zfill a i)) H := by
  intro W al B sg H h x w v Q hr r p
  cases r with
  | int i =>
    unfold mZfill at p
    dsimp only at p
    split at p
    · rename_i c
      exact ⟨x, i, rfl, rfl, c, Po.now p hr (.str _)⟩
    · exact p.elim
  | _ => exact p.elim
def mStarts (w1 w2 : Val) : M Val := fun h => match w1, w2 with
  | .str a, .str b => .ok (.bl (Txt.startswith a b)) h
  | _, _ => .bad
theorem lk_starts {K : PySem.W.Frag} : ∀ (W : WX) al B sg H h x w v (Q : VK), HR K al B H h → Rep K al B H w v → Po K B (fun al H => Rep K al B H) sg al H (mStarts (.str x) w h) W Q → ∃ a b, (V.str x) = .str a ∧ [v] = [.str b] ∧ Q (.bl (Txt.startswith a b)) H := by
  intro W al B sg H h x w v Q hr r p
  cases r with
  | str b => exact ⟨x, b, rfl, rfl, Po.now p hr (.bl _)⟩
  | _ => exact p.elim
/-! ### xs.extend(ys) -/
def mExt (w : Val) (ws : List Val) : M Val := fun h => match w, ws with
  | .ref n, [.lst ys] => match h[n]? with
    | some (.lst xs) => putL n (xs ++ ys) .non h
    | _ => .bad
  | _, _ => .bad
theorem lk_ext {K : PySem.W.Frag} : ∀ (W : WX) al B sg H h w v ws vs (Q : VK), HR K al B H h → Rep K al B H w v → Reps K al B H ws vs → Po K B (fun al H => Rep K al B H) sg al H (mExt w ws h) W Q → rExtend v vs H Q := by
  intro W al B sg H h w v ws vs Q hr r rs p
  unfold mExt at p
  split at p
  · rename_i n ys
    obtain ⟨v1, rfl, r1⟩ := rs.one
    cases r with
    | ref e =>
      cases r1 with
      | lst a l s =>
        split at p
        · rename_i xs e2
          have hx := hr.ob _ _ _ e e2
          cases hx with
          | lst q l2 s2 =>
            refine ⟨_, _, _, _, rfl, rfl, q, a.1, ?_, put_own hr e (s2.append s) .non p⟩
            unfold putL at p
            split at p
            · rename_i c
              rw [List.length_append] at c
              rw [← s2.length, ← s.length]
              exact c
            · exact p.elim
        · exact p.elim
  · exact p.elim
/-! ### == of own lists within own lists -/
mutual
def rdD (h : HH) : Nat → Val → Option Val
  | 0, _ => none
  | n + 1, .ref i => match h[i]? with
    | some (.lst xs) => (rdDs h n xs).map .lst
    | _ => none
  | n + 1, .tup xs => (rdDs h n xs).map .tup
  | n + 1, .lst xs => (rdDs h n xs).map .lst
  | _ + 1, w => some w
def rdDs (h : HH) : Nat → List Val → Option (List Val)
  | 0, _ => none
  | _ + 1, [] => some []
  | n + 1, x :: xs => match rdD h n x, rdDs h n xs with
    | some y, some ys => some (y :: ys)
    | _, _ => none
end
theorem rdD_dp {K : PySem.W.Frag} {al B : List Addr} {H : Hp} {h : HH} (hr : HR K al B H h) : ∀ n, (∀ (w w' : Val) (v : V), Rep K al B H w v → rdD h n w = some w' → okV w' = true → Dp K H v (toD w')) ∧ (∀ (ws ws' : List Val) (vs : List V), Reps K al B H ws vs → rdDs h n ws = some ws' → okVs ws' = true → DpAll K H vs (toDs ws')) := by
  intro n
  induction n with
  | zero => exact ⟨fun _ _ _ _ e _ => (by unfold rdD at e; cases e), fun _ _ _ _ e _ => (by unfold rdDs at e; cases e)⟩
  | succ n ih =>
    refine ⟨fun w w' v r e o => ?_, fun ws ws' vs r e o => ?_⟩
    · cases r with
      | ref q =>
        unfold rdD at e
        split at e
        · rename_i xs e2
          obtain ⟨ys, e3, rfl⟩ := Option.map_eq_some_iff.mp e
          cases hr.ob _ _ _ q e2 with
          | lst q2 _ s =>
            unfold okV at o
            unfold toD
            exact .lst (SqL.of q2) (ih.2 _ _ _ s e3 o)
        · cases e
      | tup a l s =>
        unfold rdD at e
        obtain ⟨ys, e3, rfl⟩ := Option.map_eq_some_iff.mp e
        unfold okV at o
        unfold toD
        exact .tup (sqT_of a) (ih.2 _ _ _ s e3 o)
      | lst a l s =>
        unfold rdD at e
        obtain ⟨ys, e3, rfl⟩ := Option.map_eq_some_iff.mp e
        unfold okV at o
        unfold toD
        exact .lst (SqL.of a.1) (ih.2 _ _ _ s e3 o)
      | non => cases e; exact dp_of (al := al) (B := B) o .non
      | bl b => cases e; exact dp_of (al := al) (B := B) o (.bl b)
      | int b => cases e; exact dp_of (al := al) (B := B) o (.int b)
      | str b => cases e; exact dp_of (al := al) (B := B) o (.str b)
      | glo => cases e; exact dp_of (al := al) (B := B) o (.glo _)
      | ty => cases e; exact dp_of (al := al) (B := B) o (.ty _)
      | scr a l => cases e; exact dp_of o (.scr a l)
    · cases r with
      | nil => cases e; unfold toDs; exact .nil
      | cons a s =>
        unfold rdDs at e
        split at e
        · rename_i y ys e1 e2
          cases e
          unfold okVs at o
          rw [Bool.and_eq_true] at o
          unfold toDs
          exact .cons (ih.1 _ _ _ a e1 o.1) (ih.2 _ _ _ s e2 o.2)
        · cases e
def bEqD (neg : Bool) (w1 w2 : Val) : M Val := fun h => match rdD h 100000 w1, rdD h 100000 w2 with
  | some a, some b => if okV a = true ∧ okV b = true ∧ min (toD a).depth (toD b).depth ≤ 64 then .ok (.bl (if neg then !PyData.eqv (toD a) (toD b) else PyData.eqv (toD a) (toD b))) h else .bad
  | _, _ => .bad
theorem lk_eqD {K : PySem.W.Frag} (neg : Bool) : Lk2 K (bEqD neg) (rEqM K neg) := by
  intro W al B sg H h w1 w2 v1 v2 Q hr r1 r2 p
  unfold bEqD at p
  split at p
  · rename_i a b e1 e2
    split at p
    · rename_i c
      exact ⟨_, _, (rdD_dp hr _).1 _ _ _ r1 e1 c.1, (rdD_dp hr _).1 _ _ _ r2 e2 c.2.1, lay_of _ c.1, lay_of _ c.2.1, c.2.2, Po.now p hr (.bl _)⟩
    · exact p.elim
  · exact p.elim
end Z
namespace Z
open PySem PySem.Spec PyProof.Rows L2
section
variable {X : Cx}
theorem op_kinE {d : Addr} {keys : List Str} (D : ∃ es n, KDict X.K X.w d es n) (hk : ∀ z ∈ keys, ∃ v, PySem.W.nsIn X.K d z = some (some v)) : OpR X (compareOp .In) (rKin false d keys) := by
  obtain ⟨_, _, D⟩ := D
  exact op_kin D hk
theorem op_notKinE {d : Addr} {keys : List Str} (D : ∃ es n, KDict X.K X.w d es n) (hk : ∀ z ∈ keys, ∃ v, PySem.W.nsIn X.K d z = some (some v)) : OpR X (compareOp .NotIn) (rKin true d keys) := by
  obtain ⟨_, _, D⟩ := D
  exact op_notKin D hk
theorem ix_kgetE {d : Addr} {kvs : List (Str × Addr)} (D : ∃ es n, KDict X.K X.w d es n) (hk : ∀ q ∈ kvs, PySem.W.nsIn X.K d q.1 = some (some (.ref q.2))) : IxR X (rKget d kvs) := by
  obtain ⟨_, _, D⟩ := D
  exact ix_kget D hk
end
theorem fun_ne {K : PySem.W.Frag} {x q x' q' : Str} {st st' : Stmt} {f f' : Addr} {fd fd' : FuncData} (F : Fun K x q st f fd) (G : Fun K x' q' st' f' fd') (n : x ≠ x') : f ≠ f' := by
  rintro rfl
  obtain ⟨_, _, _, _, _, _, _, _, _, e1, l1, _⟩ := F.ex
  obtain ⟨_, _, _, _, _, _, _, _, _, e2, l2, _⟩ := G.ex
  rw [l1] at l2
  have z := Option.some.inj l2
  have z2 : Data.func _ = Data.func _ := congrArg Obj.data z
  have z3 := Data.func.inj z2
  have z4 := congrArg FuncData.name z3
  rw [e1, e2] at z4
  exact n z4
theorem keys_of {K : PySem.W.Frag} {d : Addr} {kvs : List (Str × Addr)} (hk : ∀ q ∈ kvs, PySem.W.nsIn K d q.1 = some (some (.ref q.2))) : ∀ z ∈ kvs.map (·.1), ∃ v, PySem.W.nsIn K d z = some (some v) := by
  intro z hz
  obtain ⟨q, hq, rfl⟩ := List.mem_map.mp hz
  exact ⟨_, hk q hq⟩
end Z
set_option Elab.async false
set_option maxRecDepth 100000
set_option linter.unusedVariables false
/-! ZV: int(text, 16), split into an own list. -/
namespace Z
open PySem PySem.Spec PyProof.Rows L2
def hexC (c : Nat) : Bool := (decide (48 ≤ c) && decide (c ≤ 57)) || (decide (97 ≤ c) && decide (c ≤ 102))
theorem hexC_is {c : Nat} (h : hexC c = true) : Hx.IsHex c := by
  unfold hexC at h
  rw [Bool.or_eq_true, Bool.and_eq_true, Bool.and_eq_true, decide_eq_true_eq, decide_eq_true_eq, decide_eq_true_eq, decide_eq_true_eq] at h
  unfold Hx.IsHex
  omega
def rIntX : List V → Hp → VK → Prop := fun xs H Q => rInt10 xs H Q ∨ rIntHex xs H Q
theorem call_intX {X : Cx} : CallR X (.type "int") rIntX := by
  intro pins s σ H xs us Q I r h
  rcases h with h | h
  · exact call_int10 pins s σ H xs us Q I r h
  · exact call_int_hex pins s σ H xs us Q I r h
def fIntX (ws : List Val) : M Val := fun h => match ws with
  | [.str a, .int 10] => match PySem.intText? a with
    | some n => if a.length ≤ 640 then .ok (.int n) h else .bad
    | none => .bad
  | [.str a, .int 16] => if a.cps.toList.all hexC = true ∧ a.cps.toList ≠ [] ∧ a.cps.toList.length ≤ 640 then .ok (.int ((Hx.hexNum a.cps.toList : Nat) : Int)) h else .bad
  | _ => .bad
theorem lk_intX {K : PySem.W.Frag} : Lks K fIntX rIntX := by
  intro W al B sg H h ws vs Q hr rs p
  unfold fIntX at p
  split at p
  · rename_i a
    obtain ⟨v1, v2, rfl, r1, r2⟩ := rs.two
    cases r1; cases r2
    split at p
    · rename_i n e
      split at p
      · rename_i c
        exact .inl ⟨_, n, rfl, e, c, Po.now p hr (.int n)⟩
      · exact p.elim
    · exact p.elim
  · rename_i a
    obtain ⟨v1, v2, rfl, r1, r2⟩ := rs.two
    cases r1; cases r2
    split at p
    · rename_i c
      refine .inr ⟨a.cps.toList, ?_, c.2.1, c.2.2, fun d hd => hexC_is (List.all_eq_true.mp c.1 d hd), Po.now p hr (.int _)⟩
      have : SX.S a.cps.toList = a := TL.mk_tl a
      rw [this]
    · exact p.elim
  · exact p.elim
def mSplitN (w1 w2 : Val) : M Val := fun h => match w1, w2 with
  | .str a, .str b => if (b.length == 0) = false ∧ a.length ≤ 100000 then .ok (.ref h.length) (h ++ [.lst ((Txt.split a b).map Val.str)]) else .bad
  | _, _ => .bad
theorem lk_splitN {K : PySem.W.Frag} : ∀ (W : WX) al B sg H h x w v (Q : VK), HR K al B H h → Rep K al B H w v → Po K B (fun al H => Rep K al B H) sg al H (mSplitN (.str x) w h) W Q → rSplit (.str x) [v] H Q := by
  intro W al B sg H h x w v Q hr r p
  cases r with
  | str b =>
    unfold mSplitN at p
    dsimp only at p
    split at p
    · rename_i c
      have hz := sizeLine_eq
      refine ⟨x, b, rfl, rfl, c.1, by omega, fun q hq => ?_⟩
      have l : (Txt.split x b).length ≤ sizeLine := Nat.le_trans (PyProof.Rows.split_le x b) (by omega)
      exact p _ _ _ (Stp.new hq) (hr.new hq (.lst upd_same (by rw [List.length_map]; exact l) (Reps.map (fun x => .str x) _))) (.ref (by rw [← hr.len, List.getElem?_concat_length]))
    · exact p.elim
  | _ => exact p.elim
end Z
set_option Elab.async false
set_option maxRecDepth 100000
set_option linter.unusedVariables false
namespace K68
open PySem PySem.Spec PyProof.Rows L2 Z
/-! printed: evaluators of the defs -/
def keys_READS : List Str := ["put", "get", "set", "look", "change", "call", "go", "if", "try"]
def kv_READS (C_read_name C_read_row_number C_read_worth : Addr) : List (Str × Addr) := [("put", C_read_worth), ("get", C_read_name), ("set", C_read_name), ("look", C_read_name), ("change", C_read_name), ("call", C_read_name), ("go", C_read_row_number), ("if", C_read_row_number), ("try", C_read_row_number)]
def c_ALONE : Val := .tup ((["add", "less", "times", "over", "same", "below", "twin", "swap", "away", "say", "back", "throw", "done", "lead", "turn"] : List Str).map Val.str)
def c_BARE : Val := .tup ((["add", "less", "times", "over", "same", "below", "twin", "swap", "away", "say", "back", "throw", "done", "lead", "turn"] : List Str).map Val.str)
def c_FIGURES : Val := .str "0123456789"
def c_LEADING : Val := .tup ((["go", "if", "try"] : List Str).map Val.str)
def c_LETTERS : Val := .str "abcdefghijklmnopqrstuvwxyz"
def c_MOST_FIGURES : Val := .int 40
def c_MOST_LETTERS : Val := .int 8
def c_MOST_LONG : Val := .int 60
def c_MOST_NAMES : Val := .int 3
def c_MOST_PARTS : Val := .int 8
def c_MOST_WORTH : Val := .int 1000000000000
def c_MOST_WRITTEN : Val := .int 100
def c_NAMED : Val := .tup ((["get", "set", "look", "change"] : List Str).map Val.str)
def c_SIXTEEN : Val := .str "0123456789abcdef"
def g_bz_are_unlike_names_1_most {α : Type} (us mv ws : List α) : List α := us ++ (ws ++ mv)
def g_bz_are_unlike_names_1_most_least {α : Type} (us mv ws : List α) : List α := us ++ (ws ++ mv)
def m_is_whole : SS := (nSeq (nRet (sAnd (sArgs fIsi (aCons (sVar 0) (aCons (sC (.ty "int")) aNil))) (sNot (sArgs fIsi (aCons (sVar 0) (aCons (sC (.ty "bool")) aNil)))))) nNext)
def F_is_whole : List Val → M Val := runB 1 m_is_whole
theorem e_is_whole (a0 : Val) (h : HH) : F_is_whole [a0] h = outOf (m_is_whole [some a0] h) := rfl
def m_is_worth : SS := (nSeq (nRet (sAnd (sCall F_is_whole 1 0 1 (fun ws _ => ws) (aCons (sVar 0) aNil) aNil) (sBin (bOrd fun i j => decide (i ≤ j)) (sArgs fAbs (aCons (sVar 0) aNil)) (sC c_MOST_WORTH)))) nNext)
def F_is_worth : List Val → M Val := runB 1 m_is_worth
theorem e_is_worth (a0 : Val) (h : HH) : F_is_worth [a0] h = outOf (m_is_worth [some a0] h) := rfl
def m_is_name : SS := (nSeq (nIf (cOr (cNot (cV (sArgs fIsi (aCons (sVar 0) (aCons (sC (.ty "str")) aNil))))) (cNot (asT (sChn (sC (.int 1)) (kLink (bOrd fun i j => decide (i ≤ j)) (sArgs fLen (aCons (sVar 0) aNil)) (kLast (bOrd fun i j => decide (i ≤ j)) (sC c_MOST_LETTERS))))))) (nSeq (nRet (sC (.bl false))) nNext) nNext) (nSeq (nRet (sArgs fAll (aCons (sLc (iVal (sVar 0)) (gNm 1) tYesZ (sBin (bIn false) (sVar 1) (sC c_LETTERS)) [1]) aNil))) nNext))
def F_is_name : List Val → M Val := runB 2 m_is_name
theorem e_is_name (a0 : Val) (h : HH) : F_is_name [a0] h = outOf (m_is_name [some a0, none] h) := rfl
def m_are_unlike_names : SS := (nSeq (nIf (cOr (cNot (cV (sArgs fIsi (aCons (sVar 0) (aCons (sC (.ty "tuple")) aNil))))) (cOr (cNot (asT (sChn (sVar 2) (kLink (bOrd fun i j => decide (i ≤ j)) (sArgs fLen (aCons (sVar 0) aNil)) (kLast (bOrd fun i j => decide (i ≤ j)) (sVar 1)))))) (cNot (cV (sArgs fAll (aCons (sLc (iVal (sVar 0)) (gNm 3) tYesZ (sCall F_is_name 1 0 1 (fun ws _ => ws) (aCons (sVar 3) aNil) aNil) [3]) aNil)))))) (nSeq (nRet (sC (.bl false))) nNext) nNext) (nSeq (nRet (sBin bEq (sUn uLset (sVar 0)) (sArgs fLen (aCons (sVar 0) aNil)))) nNext))
def F_are_unlike_names : List Val → M Val := runB 4 m_are_unlike_names
theorem e_are_unlike_names (a0 a1 a2 : Val) (h : HH) : F_are_unlike_names [a0, a1, a2] h = outOf (m_are_unlike_names [some a0, some a1, some a2, none] h) := rfl
def m_is_led_to : SS := (nSeq (nAsg (sVar 0) (gTp 2 (gsCons (gNm 3) (gsCons (gNm 4) gsNil)))) (nSeq (nIf (cOr (cNot (cV (sCall F_is_whole 1 0 1 (fun ws _ => ws) (aCons (sVar 4) aNil) aNil))) (cNot (asT (sChn (sC (.int 0)) (kLink (bOrd fun i j => decide (i ≤ j)) (sVar 4) (kLast (bOrd fun i j => decide (i < j)) (sArgs fLen (aCons (sVar 2) aNil)))))))) (nSeq (nRet (sC (.bl false))) nNext) nNext) (nSeq (nRet (sOr (sBin bNe (sVar 3) (sC (.str "try"))) (sBin bNe (sVar 4) (sBin bAdd (sVar 1) (sC (.int 1)))))) nNext)))
def F_is_led_to : List Val → M Val := runB 5 m_is_led_to
theorem e_is_led_to (a0 a1 a2 : Val) (h : HH) : F_is_led_to [a0, a1, a2] h = outOf (m_is_led_to [some a0, some a1, some a2, none, none] h) := rfl
def m_is_row : SS := (nSeq (nIf (cOr (cNot (cV (sArgs fIsi (aCons (sVar 0) (aCons (sC (.ty "tuple")) aNil))))) (cOr (cBin bEq (sVar 0) (sArgs fTup aNil)) (cNot (cV (sArgs fIsi (aCons (sBin bIx (sVar 0) (sC (.int 0))) (aCons (sC (.ty "str")) aNil))))))) (nSeq (nRet (sC (.bl false))) nNext) nNext) (nSeq (nIf (cBin (bIn false) (sBin bIx (sVar 0) (sC (.int 0))) (sC c_ALONE)) (nSeq (nRet (sBin bEq (sArgs fLen (aCons (sVar 0) aNil)) (sC (.int 1)))) nNext) nNext) (nSeq (nIf (cBin bNe (sArgs fLen (aCons (sVar 0) aNil)) (sC (.int 2))) (nSeq (nRet (sC (.bl false))) nNext) nNext) (nSeq (nIf (cBin bEq (sBin bIx (sVar 0) (sC (.int 0))) (sC (.str "put"))) (nSeq (nRet (sCall F_is_worth 1 0 1 (fun ws _ => ws) (aCons (sBin bIx (sVar 0) (sC (.int 1))) aNil) aNil)) nNext) nNext) (nSeq (nIf (cBin bEq (sBin bIx (sVar 0) (sC (.int 0))) (sC (.str "call"))) (nSeq (nRet (sAnd (sCall F_is_name 1 0 1 (fun ws _ => ws) (aCons (sBin bIx (sVar 0) (sC (.int 1))) aNil) aNil) (sBin (bIn false) (sBin bIx (sVar 0) (sC (.int 1))) (sVar 3)))) nNext) nNext) (nSeq (nIf (cBin (bIn false) (sBin bIx (sVar 0) (sC (.int 0))) (sC c_LEADING)) (nSeq (nRet (sCall F_is_led_to 3 0 3 (fun ws _ => ws) (aCons (sVar 0) (aCons (sVar 1) (aCons (sVar 2) aNil))) aNil)) nNext) nNext) (nSeq (nRet (sAnd (sBin (bIn false) (sBin bIx (sVar 0) (sC (.int 0))) (sC c_NAMED)) (sCall F_is_name 1 0 1 (fun ws _ => ws) (aCons (sBin bIx (sVar 0) (sC (.int 1))) aNil) aNil))) nNext)))))))
def F_is_row : List Val → M Val := runB 4 m_is_row
theorem e_is_row (a0 a1 a2 a3 : Val) (h : HH) : F_is_row [a0, a1, a2, a3] h = outOf (m_is_row [some a0, some a1, some a2, some a3] h) := rfl
def m_is_headed : SS := (nSeq (nIf (cOr (cNot (cV (sArgs fIsi (aCons (sVar 0) (aCons (sC (.ty "tuple")) aNil))))) (cOr (cBin bNe (sArgs fLen (aCons (sVar 0) aNil)) (sC (.int 3))) (cNot (cV (sCall F_is_name 1 0 1 (fun ws _ => ws) (aCons (sBin bIx (sVar 0) (sC (.int 0))) aNil) aNil))))) (nSeq (nRet (sC (.bl false))) nNext) nNext) (nSeq (nIf (cNot (cV (sCall F_are_unlike_names 1 1 3 (fun us ws => g_bz_are_unlike_names_1_most us [(.int 0)] ws) (aCons (sBin bIx (sVar 0) (sC (.int 1))) aNil) (aCons (sC c_MOST_NAMES) aNil)))) (nSeq (nRet (sC (.bl false))) nNext) nNext) (nSeq (nRet (sAnd (sArgs fIsi (aCons (sBin bIx (sVar 0) (sC (.int 2))) (aCons (sC (.ty "tuple")) aNil))) (sChn (sC (.int 1)) (kLink (bOrd fun i j => decide (i ≤ j)) (sArgs fLen (aCons (sBin bIx (sVar 0) (sC (.int 2))) aNil)) (kLast (bOrd fun i j => decide (i ≤ j)) (sC c_MOST_LONG)))))) nNext)))
def F_is_headed : List Val → M Val := runB 1 m_is_headed
theorem e_is_headed (a0 : Val) (h : HH) : F_is_headed [a0] h = outOf (m_is_headed [some a0] h) := rfl
def m_is_program : SS := (nSeq (nIf (cOr (cNot (cV (sArgs fIsi (aCons (sVar 0) (aCons (sC (.ty "tuple")) aNil))))) (cNot (cV (sArgs fAll (aCons (sLc (iVal (sVar 0)) (gNm 2) tYesZ (sCall F_is_headed 1 0 1 (fun ws _ => ws) (aCons (sVar 2) aNil) aNil) [2]) aNil))))) (nSeq (nRet (sC (.bl false))) nNext) nNext) (nSeq (nSet 1 (sArgs fTpl (aCons (sLc (iVal (sVar 0)) (gNm 2) tYesZ (sBin bIx (sVar 2) (sC (.int 0))) [2]) aNil))) (nSeq (nIf (cNot (cV (sCall F_are_unlike_names 1 2 3 (fun us ws => g_bz_are_unlike_names_1_most_least us [] ws) (aCons (sVar 1) aNil) (aCons (sC c_MOST_PARTS) (aCons (sC (.int 1)) aNil))))) (nSeq (nRet (sC (.bl false))) nNext) nNext) (nSeq (nRet (sArgs fAll (aCons (sLc2 (iVal (sVar 0)) (gTp 3 (gsCons (gNm 3) (gsCons (gNm 4) (gsCons (gNm 5) gsNil)))) tYesZ (iEn (aCons (sVar 5) aNil)) (gTp 2 (gsCons (gNm 6) (gsCons (gNm 7) gsNil))) tYesZ (sCall F_is_row 4 0 4 (fun ws _ => ws) (aCons (sVar 7) (aCons (sVar 6) (aCons (sVar 5) (aCons (sVar 1) aNil)))) aNil) [3, 4, 5, 6, 7] [6, 7]) aNil))) nNext))))
def F_is_program : List Val → M Val := runB 8 m_is_program
theorem e_is_program (a0 : Val) (h : HH) : F_is_program [a0] h = outOf (m_is_program [some a0, none, none, none, none, none, none, none] h) := rfl
def m_look_program : SS := (nSeq (nIf (cNot (cV (sCall F_is_program 1 0 1 (fun ws _ => ws) (aCons (sVar 0) aNil) aNil))) (nSeq nBad nNext) nNext) nNext)
def F_look_program : List Val → M Val := runB 1 m_look_program
theorem e_look_program (a0 : Val) (h : HH) : F_look_program [a0] h = outOf (m_look_program [some a0] h) := rfl
def m_show_row : SS := (nSeq (nRet (sSm mJoin (sC (.str " ")) (sBin bAdd (sArgs fLst (aCons (sSm mZfill (sArgs fStr (aCons (sVar 0) aNil)) (sC (.int 2))) aNil)) (sLc (iVal (sVar 1)) (gNm 2) tYesZ (sArgs fStr (aCons (sVar 2) aNil)) [2])))) nNext)
def F_show_row : List Val → M Val := runB 3 m_show_row
theorem e_show_row (a0 a1 : Val) (h : HH) : F_show_row [a0, a1] h = outOf (m_show_row [some a0, some a1, none] h) := rfl
def m_show_program : SS := (nSeq (nExpr (sCall F_look_program 1 0 1 (fun ws _ => ws) (aCons (sVar 0) aNil) aNil)) (nSeq (nSet 1 (sArgs fNew aNil)) (nSeq (nFor (iVal (sVar 0)) (gTp 3 (gsCons (gNm 2) (gsCons (gNm 3) (gsCons (gNm 4) gsNil)))) (nSeq (nExpr (sMtL mApp (sVar 1) (aCons (sSm mJoin (sC (.str " ")) (sBin bAdd (sArgs fTup (aCons (sC (.str "part")) (aCons (sVar 2) aNil))) (sVar 3))) aNil))) (nSeq (nExpr (sMtL mExt (sVar 1) (aCons (sLc (iEn (aCons (sVar 4) aNil)) (gTp 2 (gsCons (gNm 5) (gsCons (gNm 6) gsNil))) tYesZ (sCall F_show_row 2 0 2 (fun ws _ => ws) (aCons (sVar 5) (aCons (sVar 6) aNil)) aNil) [5, 6]) aNil))) nNext))) (nSeq (nRet (sSm mJoin (sC (.str "\n")) (sVar 1))) nNext))))
def F_show_program : List Val → M Val := runB 7 m_show_program
theorem e_show_program (a0 : Val) (h : HH) : F_show_program [a0] h = outOf (m_show_program [some a0, none, none, none, none, none, none] h) := rfl
def m_number_in : SS := (nSeq (nIf (cOr (cNot (asT (sChn (sC (.int 1)) (kLink (bOrd fun i j => decide (i ≤ j)) (sArgs fLen (aCons (sVar 0) aNil)) (kLast (bOrd fun i j => decide (i ≤ j)) (sC c_MOST_FIGURES)))))) (cNot (cV (sArgs fAll (aCons (sLc (iVal (sVar 0)) (gNm 2) tYesZ (sBin (bIn false) (sVar 2) (sVar 1)) [2]) aNil))))) (nSeq (nRet (sC .non)) nNext) nNext) (nSeq (nIf (cAnd (cBin bEq (sBin bIx (sVar 0) (sC (.int 0))) (sC (.str "0"))) (cBin (bOrd fun i j => decide (j < i)) (sArgs fLen (aCons (sVar 0) aNil)) (sC (.int 1)))) (nSeq (nRet (sC .non)) nNext) nNext) (nSeq (nRet (sArgs fIntX (aCons (sVar 0) (aCons (sArgs fLen (aCons (sVar 1) aNil)) aNil)))) nNext)))
def F_number_in : List Val → M Val := runB 3 m_number_in
theorem e_number_in (a0 a1 : Val) (h : HH) : F_number_in [a0, a1] h = outOf (m_number_in [some a0, some a1, none] h) := rfl
def m_read_row_number : SS := (nSeq (nRet (sCall F_number_in 2 0 2 (fun ws _ => ws) (aCons (sVar 0) (aCons (sC c_FIGURES) aNil)) aNil)) nNext)
def F_read_row_number : List Val → M Val := runB 1 m_read_row_number
theorem e_read_row_number (a0 : Val) (h : HH) : F_read_row_number [a0] h = outOf (m_read_row_number [some a0] h) := rfl
def m_read_worth : SS := (nSeq (nSet 1 (sIf (cV (sSm mStarts (sVar 0) (sC (.str "-")))) (sSl (sVar 0) (oSome (sC (.int 1))) oNone) (sVar 0))) (nSeq (nSet 2 (sIf (cV (sSm mStarts (sVar 1) (sC (.str "x")))) (sCall F_number_in 2 0 2 (fun ws _ => ws) (aCons (sSl (sVar 1) (oSome (sC (.int 1))) oNone) (aCons (sC c_SIXTEEN) aNil)) aNil) (sCall F_number_in 2 0 2 (fun ws _ => ws) (aCons (sVar 1) (aCons (sC c_FIGURES) aNil)) aNil))) (nSeq (nIf (cOr (cBin (bIs false) (sVar 2) (sC .non)) (cBin bEq (sVar 1) (sVar 0))) (nSeq (nRet (sVar 2)) nNext) nNext) (nSeq (nRet (sIf (cBin (bOrd fun i j => decide (j < i)) (sVar 2) (sC (.int 0))) (sUn uNeg (sVar 2)) (sC .non))) nNext))))
def F_read_worth : List Val → M Val := runB 3 m_read_worth
theorem e_read_worth (a0 : Val) (h : HH) : F_read_worth [a0] h = outOf (m_read_worth [some a0, none, none] h) := rfl
def m_read_name : SS := (nSeq (nRet (sIf (cV (sCall F_is_name 1 0 1 (fun ws _ => ws) (aCons (sVar 0) aNil) aNil)) (sVar 0) (sC .non))) nNext)
def F_read_name : List Val → M Val := runB 1 m_read_name
theorem e_read_name (a0 : Val) (h : HH) : F_read_name [a0] h = outOf (m_read_name [some a0] h) := rfl
def m_row_of (C_READS : Addr) (C_read_name : Addr) (C_read_row_number : Addr) (C_read_worth : Addr) : SS := (nSeq (nIf (cAnd (cBin bEq (sArgs fLen (aCons (sVar 0) aNil)) (sC (.int 1))) (cBin (bIn false) (sBin bIx (sVar 0) (sC (.int 0))) (sC c_BARE))) (nSeq (nRet (sArgs fTup (aCons (sBin bIx (sVar 0) (sC (.int 0))) aNil))) nNext) nNext) (nSeq (nIf (cOr (cBin bNe (sArgs fLen (aCons (sVar 0) aNil)) (sC (.int 2))) (cBin (bKin true C_READS keys_READS) (sBin bIx (sVar 0) (sC (.int 0))) (sC (.glo C_READS)))) (nSeq (nRet (sC .non)) nNext) nNext) (nSeq (nSet 1 (sBin (bKget C_READS (kv_READS C_read_name C_read_row_number C_read_worth)) (sC (.glo C_READS)) (sBin bIx (sVar 0) (sC (.int 0))))) (nSeq (nSet 2 (sCallL 1 1 [(C_read_worth, F_read_worth), (C_read_name, F_read_name), (C_read_row_number, F_read_row_number)] (aCons (sBin bIx (sVar 0) (sC (.int 1))) aNil))) (nSeq (nRet (sIf (cBin (bIs false) (sVar 2) (sC .non)) (sC .non) (sArgs fTup (aCons (sBin bIx (sVar 0) (sC (.int 0))) (aCons (sVar 2) aNil))))) nNext)))))
def F_row_of (C_READS : Addr) (C_read_name : Addr) (C_read_row_number : Addr) (C_read_worth : Addr) : List Val → M Val := runB 3 (m_row_of C_READS C_read_name C_read_row_number C_read_worth)
theorem e_row_of (C_READS : Addr) (C_read_name : Addr) (C_read_row_number : Addr) (C_read_worth : Addr) (a0 : Val) (h : HH) : F_row_of C_READS C_read_name C_read_row_number C_read_worth [a0] h = outOf (m_row_of C_READS C_read_name C_read_row_number C_read_worth [some a0, none, none] h) := rfl
def m_begins_part : SS := (nSeq (nIf (cOr (cBin (bEqD false) (sVar 1) (sArgs fLst aNil)) (cOr (cNot (cV (sArgs fAll (aCons (sLc (iVal (sVar 1)) (gNm 4) tYesZ (sCall F_is_name 1 0 1 (fun ws _ => ws) (aCons (sVar 4) aNil) aNil) [4]) aNil)))) (cAnd (cBin (bEqD true) (sVar 0) (sArgs fLst aNil)) (cBin (bEqD false) (sBin bIx (sBin bIx (sVar 0) (sUn uNeg (sC (.int 1)))) (sC (.int 2))) (sArgs fLst aNil))))) (nSeq (nRet (sC (.bl false))) nNext) nNext) (nSeq (nAsg (sVar 1) (gSt (gsCons (gNm 2) (gsCons (gNm 3) gsNil)))) (nSeq (nExpr (sMtL mApp (sVar 0) (aCons (sArgs fTup (aCons (sVar 2) (aCons (sArgs fTpl (aCons (sVar 3) aNil)) (aCons (sArgs fNew aNil) aNil)))) aNil))) (nSeq (nRet (sC (.bl true))) nNext))))
def F_begins_part : List Val → M Val := runB 5 m_begins_part
theorem e_begins_part (a0 a1 : Val) (h : HH) : F_begins_part [a0, a1] h = outOf (m_begins_part [some a0, some a1, none, none, none] h) := rfl
def m_stands (C_READS : Addr) (C_read_name : Addr) (C_read_row_number : Addr) (C_read_worth : Addr) : SS := (nSeq (nAsg (sVar 1) (gSt (gsCons (gNm 2) (gsCons (gNm 3) gsNil)))) (nSeq (nIf (cBin bEq (sVar 2) (sC (.str "part"))) (nSeq (nRet (sCall F_begins_part 2 0 2 (fun ws _ => ws) (aCons (sVar 0) (aCons (sVar 3) aNil)) aNil)) nNext) nNext) (nSeq (nIf (cOr (cBin (bEqD false) (sVar 0) (sArgs fLst aNil)) (cOr (cBin bEq (sArgs fLen (aCons (sBin bIx (sBin bIx (sVar 0) (sUn uNeg (sC (.int 1)))) (sC (.int 2))) aNil)) (sC c_MOST_WRITTEN)) (cBin bNe (sVar 2) (sSm mZfill (sArgs fStr (aCons (sArgs fLen (aCons (sBin bIx (sBin bIx (sVar 0) (sUn uNeg (sC (.int 1)))) (sC (.int 2))) aNil)) aNil)) (sC (.int 2)))))) (nSeq (nRet (sC (.bl false))) nNext) nNext) (nSeq (nSet 4 (sCall (F_row_of C_READS C_read_name C_read_row_number C_read_worth) 1 0 1 (fun ws _ => ws) (aCons (sVar 3) aNil) aNil)) (nSeq (nIf (cBin (bIs false) (sVar 4) (sC .non)) (nSeq (nRet (sC (.bl false))) nNext) nNext) (nSeq (nExpr (sMtL mApp (sBin bIx (sBin bIx (sVar 0) (sUn uNeg (sC (.int 1)))) (sC (.int 2))) (aCons (sVar 4) aNil))) (nSeq (nRet (sC (.bl true))) nNext)))))))
def F_stands (C_READS : Addr) (C_read_name : Addr) (C_read_row_number : Addr) (C_read_worth : Addr) : List Val → M Val := runB 5 (m_stands C_READS C_read_name C_read_row_number C_read_worth)
theorem e_stands (C_READS : Addr) (C_read_name : Addr) (C_read_row_number : Addr) (C_read_worth : Addr) (a0 a1 : Val) (h : HH) : F_stands C_READS C_read_name C_read_row_number C_read_worth [a0, a1] h = outOf (m_stands C_READS C_read_name C_read_row_number C_read_worth [some a0, some a1, none, none, none] h) := rfl
def m_read_program (C_READS : Addr) (C_read_name : Addr) (C_read_row_number : Addr) (C_read_worth : Addr) : SS := (nSeq (nIf (cNot (cV (sArgs fIsi (aCons (sVar 0) (aCons (sC (.ty "str")) aNil))))) (nSeq nBad nNext) nNext) (nSeq (nSet 1 (sArgs fNew aNil)) (nSeq (nSet 2 (sSm mSplit (sVar 0) (sC (.str "\n")))) (nSeq (nFor (iEn (aCons (sVar 2) aNil)) (gTp 2 (gsCons (gNm 3) (gsCons (gNm 4) gsNil))) (nSeq (nIf (cNot (cV (sCall (F_stands C_READS C_read_name C_read_row_number C_read_worth) 2 0 2 (fun ws _ => ws) (aCons (sVar 1) (aCons (sSm mSplit (sVar 4) (sC (.str " "))) aNil)) aNil))) (nSeq nBad nNext) nNext) nNext)) (nSeq (nIf (cBin (bEqD false) (sBin bIx (sBin bIx (sVar 1) (sUn uNeg (sC (.int 1)))) (sC (.int 2))) (sArgs fLst aNil)) (nSeq nBad nNext) nNext) (nSeq (nSet 5 (sArgs fTpl (aCons (sLc (iVal (sVar 1)) (gTp 3 (gsCons (gNm 6) (gsCons (gNm 7) (gsCons (gNm 8) gsNil)))) tYesZ (sArgs fTup (aCons (sVar 6) (aCons (sVar 7) (aCons (sArgs fTpl (aCons (sVar 8) aNil)) aNil)))) [6, 7, 8]) aNil))) (nSeq (nIf (cNot (cV (sCall F_is_program 1 0 1 (fun ws _ => ws) (aCons (sVar 5) aNil) aNil))) (nSeq nBad nNext) nNext) (nSeq (nRet (sVar 5)) nNext))))))))
def F_read_program (C_READS : Addr) (C_read_name : Addr) (C_read_row_number : Addr) (C_read_worth : Addr) : List Val → M Val := runB 9 (m_read_program C_READS C_read_name C_read_row_number C_read_worth)
theorem e_read_program (C_READS : Addr) (C_read_name : Addr) (C_read_row_number : Addr) (C_read_worth : Addr) (a0 : Val) (h : HH) : F_read_program C_READS C_read_name C_read_row_number C_read_worth [a0] h = outOf (m_read_program C_READS C_read_name C_read_row_number C_read_worth [some a0, none, none, none, none, none, none, none, none] h) := rfl
def m__law_bag : SS := (nSeq (nSet 2 (sC (.int 0))) (nSeq (nIf (cBin (bOrd fun i j => decide (i < j)) (sVar 1) (sArgs fLen (aCons (sVar 0) aNil))) (nSeq (nSet 2 (sArgs fAbs (aCons (sBin bIx (sVar 0) (sVar 1)) aNil))) nNext) nNext) (nSeq (nSet 3 (sBin bMod (sBin bPow (sBin bAdd (sBin bAdd (sBin bMod (sVar 2) (sC (.int 2147483629))) (sBin bMul (sC (.int 104729)) (sVar 1))) (sC (.int 17))) (sC (.int 5))) (sC (.int 2147483647)))) (nSeq (nFor (iRgN 1 (aCons (sArgs fMin (aCons (sArgs fLen (aCons (sVar 0) aNil)) (aCons (sC (.int 60)) aNil))) aNil)) (gNm 4) (nSeq (nSet 3 (sBin bMod (sBin bAdd (sBin bAdd (sBin bMul (sVar 3) (sC (.int 48271))) (sBin bMul (sBin bMod (sBin bIx (sVar 0) (sVar 4)) (sC (.int 2147483587))) (sBin bAdd (sVar 4) (sC (.int 3))))) (sVar 4)) (sC (.int 2147483629)))) nNext)) (nSeq (nIf (cBin (bOrd fun i j => decide (i < j)) (sVar 2) (sBin bPow (sC (.int 10)) (sC (.int 18)))) (nSeq (nSet 2 (sC (.int 0))) nNext) nNext) (nSeq (nRet (sArgs fNew (aCons (sVar 2) (aCons (sVar 3) aNil)))) nNext))))))
def F__law_bag : List Val → M Val := runB 5 m__law_bag
theorem e__law_bag (a0 a1 : Val) (h : HH) : F__law_bag [a0, a1] h = outOf (m__law_bag [some a0, some a1, none, none, none] h) := rfl
def m__law_take : SS := (nSeq (nIf (cBin (bOrd fun i j => decide (j < i)) (sBin bIx (sVar 0) (sC (.int 0))) (sC (.int 0))) (nSeq (nSet 2 (sBin bMod (sBin bIx (sVar 0) (sC (.int 0))) (sVar 1))) (nSeq (nAsg (sBin bDiv (sBin bIx (sVar 0) (sC (.int 0))) (sVar 1)) (gSb (sVar 0) (sC (.int 0)))) (nSeq (nRet (sVar 2)) nNext))) nNext) (nSeq (nAsg (sBin bMod (sBin bAdd (sBin bMul (sBin bIx (sVar 0) (sC (.int 1))) (sC (.int 48271))) (sC (.int 7919))) (sC (.int 2147483647))) (gSb (sVar 0) (sC (.int 1)))) (nSeq (nRet (sBin bMod (sBin bMod (sBin bMul (sBin bDiv (sBin bMod (sBin bPow (sBin bIx (sVar 0) (sC (.int 1))) (sC (.int 3))) (sC (.int 2147483587))) (sC (.int 7))) (sC (.int 69621))) (sC (.int 1073741789))) (sVar 1))) nNext)))
def F__law_take : List Val → M Val := runB 3 m__law_take
theorem e__law_take (a0 a1 : Val) (h : HH) : F__law_take [a0, a1] h = outOf (m__law_take [some a0, some a1, none] h) := rfl
def m__law_names : SS := (nSeq (nSet 2 (sC (.str "abcdefghijklmnopqrstuvwxyz"))) (nSeq (nSet 3 (sArgs fNew aNil)) (nSeq (nFor (iRgN 1 (aCons (sVar 1) aNil)) (gNm 4) (nSeq (nSet 5 (sBin bAdd (sSm mJoin (sC (.str "")) (sLc (iRgN 1 (aCons (sCall F__law_take 2 0 2 (fun ws _ => ws) (aCons (sVar 0) (aCons (sC (.int 8)) aNil)) aNil) aNil)) (gNm 8) tYesZ (sBin bIx (sVar 2) (sCall F__law_take 2 0 2 (fun ws _ => ws) (aCons (sVar 0) (aCons (sC (.int 26)) aNil)) aNil)) [8])) (sBin bIx (sC (.str "abcdefgh")) (sVar 4)))) (nSeq (nSet 6 (sArgs fLst (aCons (sC (.str "part")) (aCons (sC (.str "put")) (aCons (sC (.str "back")) (aCons (sC (.str "x")) (aCons (sC (.str "add")) (aCons (sC (.str "go")) (aCons (sC (.str "abcdefgh")) (aCons (sC (.str "say")) aNil)))))))))) (nSeq (nExpr (sMtL mApp (sVar 3) (aCons (sBin bIx (sArgs fLst (aCons (sVar 5) (aCons (sBin bIx (sVar 6) (sVar 4)) aNil))) (sArgs fInt (aCons (sBin bEq (sCall F__law_take 2 0 2 (fun ws _ => ws) (aCons (sVar 0) (aCons (sC (.int 3)) aNil)) aNil) (sC (.int 0))) aNil))) aNil))) nNext)))) (nSeq (nRet (sLc (iEn (aCons (sVar 3) aNil)) (gTp 2 (gsCons (gNm 4) (gsCons (gNm 7) gsNil))) (cBin (bIn true) (sVar 7) (sSl (sVar 3) oNone (oSome (sVar 4)))) (sVar 7) [4, 7])) nNext))))
def F__law_names : List Val → M Val := runB 9 m__law_names
theorem e__law_names (a0 a1 : Val) (h : HH) : F__law_names [a0, a1] h = outOf (m__law_names [some a0, some a1, none, none, none, none, none, none, none] h) := rfl
def m__law_worth : SS := (nSeq (nSet 1 (sCall F__law_take 2 0 2 (fun ws _ => ws) (aCons (sVar 0) (aCons (sC (.int 6)) aNil)) aNil)) (nSeq (nIf (cBin (bOrd fun i j => decide (i < j)) (sVar 1) (sC (.int 3))) (nSeq (nRet (sBin bSub (sCall F__law_take 2 0 2 (fun ws _ => ws) (aCons (sVar 0) (aCons (sC (.int 33)) aNil)) aNil) (sC (.int 16)))) nNext) nNext) (nSeq (nSet 2 (sBin bIx (sArgs fLst (aCons (sCall F__law_take 2 0 2 (fun ws _ => ws) (aCons (sVar 0) (aCons (sBin bPow (sC (.int 10)) (sC (.int 9))) aNil)) aNil) (aCons (sBin bPow (sC (.int 10)) (sC (.int 12))) (aCons (sBin bSub (sBin bPow (sC (.int 10)) (sC (.int 12))) (sCall F__law_take 2 0 2 (fun ws _ => ws) (aCons (sVar 0) (aCons (sBin bPow (sC (.int 10)) (sC (.int 6))) aNil)) aNil)) aNil)))) (sBin bSub (sVar 1) (sC (.int 3))))) (nSeq (nRet (sBin bMul (sVar 2) (sBin bIx (sArgs fLst (aCons (sC (.int 1)) (aCons (sUn uNeg (sC (.int 1))) aNil))) (sCall F__law_take 2 0 2 (fun ws _ => ws) (aCons (sVar 0) (aCons (sC (.int 2)) aNil)) aNil)))) nNext))))
def F__law_worth : List Val → M Val := runB 3 m__law_worth
theorem e__law_worth (a0 : Val) (h : HH) : F__law_worth [a0] h = outOf (m__law_worth [some a0, none, none] h) := rfl
def m__law_row : SS := (nSeq (nSet 4 (sCall F__law_take 2 0 2 (fun ws _ => ws) (aCons (sVar 0) (aCons (sC (.int 8)) aNil)) aNil)) (nSeq (nIf (cBin bEq (sVar 4) (sC (.int 0))) (nSeq (nRet (sArgs fTup (aCons (sC (.str "put")) (aCons (sCall F__law_worth 1 0 1 (fun ws _ => ws) (aCons (sVar 0) aNil) aNil) aNil)))) nNext) nNext) (nSeq (nIf (cBin bEq (sVar 4) (sC (.int 1))) (nSeq (nRet (sArgs fTup (aCons (sC (.str "call")) (aCons (sBin bIx (sVar 1) (sCall F__law_take 2 0 2 (fun ws _ => ws) (aCons (sVar 0) (aCons (sArgs fLen (aCons (sVar 1) aNil)) aNil)) aNil)) aNil)))) nNext) nNext) (nSeq (nIf (cBin bEq (sVar 4) (sC (.int 2))) (nSeq (nSet 6 (sCall F__law_take 2 0 2 (fun ws _ => ws) (aCons (sVar 0) (aCons (sVar 3) aNil)) aNil)) (nSeq (nSet 7 (sBin bIx (sArgs fLst (aCons (sC (.str "go")) (aCons (sC (.str "if")) (aCons (sC (.str "try")) aNil)))) (sCall F__law_take 2 0 2 (fun ws _ => ws) (aCons (sVar 0) (aCons (sC (.int 3)) aNil)) aNil))) (nSeq (nRet (sArgs fTup (aCons (sIf (cBin bNe (sVar 6) (sBin bAdd (sVar 2) (sC (.int 1)))) (sVar 7) (sC (.str "go"))) (aCons (sVar 6) aNil)))) nNext))) nNext) (nSeq (nIf (cBin bEq (sVar 4) (sC (.int 3))) (nSeq (nRet (sArgs fTup (aCons (sBin bIx (sArgs fLst (aCons (sC (.str "get")) (aCons (sC (.str "set")) (aCons (sC (.str "look")) (aCons (sC (.str "change")) aNil))))) (sCall F__law_take 2 0 2 (fun ws _ => ws) (aCons (sVar 0) (aCons (sC (.int 4)) aNil)) aNil)) (aCons (sBin bIx (sCall F__law_names 2 0 2 (fun ws _ => ws) (aCons (sVar 0) (aCons (sC (.int 3)) aNil)) aNil) (sC (.int 0))) aNil)))) nNext) nNext) (nSeq (nSet 5 (sArgs fLst (aCons (sC (.str "add")) (aCons (sC (.str "less")) (aCons (sC (.str "times")) (aCons (sC (.str "over")) (aCons (sC (.str "same")) (aCons (sC (.str "below")) (aCons (sC (.str "twin")) (aCons (sC (.str "swap")) (aCons (sC (.str "away")) (aCons (sC (.str "say")) (aCons (sC (.str "back")) (aCons (sC (.str "throw")) (aCons (sC (.str "done")) aNil))))))))))))))) (nSeq (nRet (sArgs fTup (aCons (sBin bIx (sBin bAdd (sVar 5) (sArgs fLst (aCons (sC (.str "lead")) (aCons (sC (.str "turn")) aNil)))) (sCall F__law_take 2 0 2 (fun ws _ => ws) (aCons (sVar 0) (aCons (sC (.int 15)) aNil)) aNil)) aNil))) nNext)))))))
def F__law_row : List Val → M Val := runB 8 m__law_row
theorem e__law_row (a0 a1 a2 a3 : Val) (h : HH) : F__law_row [a0, a1, a2, a3] h = outOf (m__law_row [some a0, some a1, some a2, some a3, none, none, none, none] h) := rfl
def m__law_program : SS := (nSeq (nSet 1 (sCall F__law_names 2 0 2 (fun ws _ => ws) (aCons (sVar 0) (aCons (sBin bIx (sArgs fLst (aCons (sC (.int 1)) (aCons (sC (.int 2)) (aCons (sC (.int 3)) (aCons (sC (.int 8)) aNil))))) (sCall F__law_take 2 0 2 (fun ws _ => ws) (aCons (sVar 0) (aCons (sC (.int 4)) aNil)) aNil)) aNil)) aNil)) (nSeq (nSet 2 (sArgs fNew aNil)) (nSeq (nFor (iVal (sVar 1)) (gNm 3) (nSeq (nSet 4 (sBin bAdd (sC (.int 1)) (sCall F__law_take 2 0 2 (fun ws _ => ws) (aCons (sVar 0) (aCons (sBin bIx (sArgs fLst (aCons (sC (.int 4)) (aCons (sC (.int 12)) (aCons (sC (.int 4)) (aCons (sC (.int 60)) aNil))))) (sCall F__law_take 2 0 2 (fun ws _ => ws) (aCons (sVar 0) (aCons (sC (.int 4)) aNil)) aNil)) aNil)) aNil))) (nSeq (nSet 5 (sArgs fTpl (aCons (sCall F__law_names 2 0 2 (fun ws _ => ws) (aCons (sVar 0) (aCons (sCall F__law_take 2 0 2 (fun ws _ => ws) (aCons (sVar 0) (aCons (sC (.int 4)) aNil)) aNil) aNil)) aNil) aNil))) (nSeq (nExpr (sMtL mApp (sVar 2) (aCons (sArgs fTup (aCons (sVar 3) (aCons (sVar 5) (aCons (sArgs fTpl (aCons (sLc (iRgN 1 (aCons (sVar 4) aNil)) (gNm 6) tYesZ (sCall F__law_row 4 0 4 (fun ws _ => ws) (aCons (sVar 0) (aCons (sVar 1) (aCons (sVar 6) (aCons (sVar 4) aNil)))) aNil) [6]) aNil)) aNil)))) aNil))) nNext)))) (nSeq (nRet (sArgs fTpl (aCons (sVar 2) aNil))) nNext))))
def F__law_program : List Val → M Val := runB 7 m__law_program
theorem e__law_program (a0 : Val) (h : HH) : F__law_program [a0] h = outOf (m__law_program [some a0, none, none, none, none, none, none] h) := rfl
def m__law_figures (R : List Val → M Val) : SS := (nSeq (nIf (cBin (bOrd fun i j => decide (i < j)) (sVar 0) (sC (.int 0))) (nSeq (nRet (sBin bAdd (sC (.str "-")) (sCall R 1 0 1 (fun ws _ => ws) (aCons (sBin bSub (sC (.int 0)) (sVar 0)) aNil) aNil))) nNext) nNext) (nSeq (nSet 1 (sBin bIx (sC (.str "0123456789")) (sBin bMod (sVar 0) (sC (.int 10))))) (nSeq (nWhile 20 (cBin (bOrd fun i j => decide (j < i)) (sVar 0) (sC (.int 9))) (nSeq (nSet 0 (sBin bDiv (sVar 0) (sC (.int 10)))) (nSeq (nSet 1 (sBin bAdd (sBin bIx (sC (.str "0123456789")) (sBin bMod (sVar 0) (sC (.int 10)))) (sVar 1))) nNext))) (nSeq (nRet (sVar 1)) nNext))))
def F__law_figures : Nat → List Val → M Val
  | 0 => fun _ => fail
  | n + 1 => runB 2 (m__law_figures (F__law_figures n))
theorem e__law_figures (n : Nat) (a0 : Val) (h : HH) : F__law_figures (n + 1) [a0] h = outOf (m__law_figures (F__law_figures n) [some a0, none] h) := rfl
def m__law_written : SS := (nSeq (nSet 1 (sArgs fNew aNil)) (nSeq (nFor (iVal (sVar 0)) (gTp 3 (gsCons (gNm 2) (gsCons (gNm 3) (gsCons (gNm 4) gsNil)))) (nSeq (nExpr (sMtL mApp (sVar 1) (aCons (sSm mJoin (sC (.str " ")) (sBin bAdd (sArgs fLst (aCons (sC (.str "part")) (aCons (sVar 2) aNil))) (sArgs fLof (aCons (sVar 3) aNil)))) aNil))) (nSeq (nFor (iEn (aCons (sVar 4) aNil)) (gTp 2 (gsCons (gNm 5) (gsCons (gNm 6) gsNil))) (nSeq (nSet 7 (sArgs fNew (aCons (sSl (sBin bAdd (sC (.str "0")) (sCall (F__law_figures 2) 1 0 1 (fun ws _ => ws) (aCons (sVar 5) aNil) aNil)) (oSome (sUn uNeg (sC (.int 2)))) oNone) (aCons (sBin bIx (sVar 6) (sC (.int 0))) aNil)))) (nSeq (nFor (iVal (sSl (sVar 6) (oSome (sC (.int 1))) oNone)) (gNm 8) (nSeq (nExpr (sMtL mApp (sVar 7) (aCons (sIf (cV (sArgs fIsi (aCons (sVar 8) (aCons (sC (.ty "str")) aNil)))) (sVar 8) (sCall (F__law_figures 2) 1 0 1 (fun ws _ => ws) (aCons (sVar 8) aNil) aNil)) aNil))) nNext)) (nSeq (nExpr (sMtL mApp (sVar 1) (aCons (sSm mJoin (sC (.str " ")) (sVar 7)) aNil))) nNext)))) nNext))) (nSeq (nRet (sSm mJoin (sC (.str "\n")) (sVar 1))) nNext)))
def F__law_written : List Val → M Val := runB 9 m__law_written
theorem e__law_written (a0 : Val) (h : HH) : F__law_written [a0] h = outOf (m__law_written [some a0, none, none, none, none, none, none, none, none] h) := rfl
def m__law_sixteen (R : List Val → M Val) : SS := (nSeq (nIf (cBin (bOrd fun i j => decide (i < j)) (sVar 0) (sC (.int 0))) (nSeq (nRet (sBin bAdd (sC (.str "-")) (sCall R 1 0 1 (fun ws _ => ws) (aCons (sBin bSub (sC (.int 0)) (sVar 0)) aNil) aNil))) nNext) nNext) (nSeq (nSet 1 (sBin bIx (sC (.str "0123456789abcdef")) (sBin bMod (sVar 0) (sC (.int 16))))) (nSeq (nWhile 20 (cBin (bOrd fun i j => decide (j < i)) (sVar 0) (sC (.int 15))) (nSeq (nSet 0 (sBin bDiv (sVar 0) (sC (.int 16)))) (nSeq (nSet 1 (sBin bAdd (sBin bIx (sC (.str "0123456789abcdef")) (sBin bMod (sVar 0) (sC (.int 16)))) (sVar 1))) nNext))) (nSeq (nRet (sBin bAdd (sC (.str "x")) (sVar 1))) nNext))))
def F__law_sixteen : Nat → List Val → M Val
  | 0 => fun _ => fail
  | n + 1 => runB 2 (m__law_sixteen (F__law_sixteen n))
theorem e__law_sixteen (n : Nat) (a0 : Val) (h : HH) : F__law_sixteen (n + 1) [a0] h = outOf (m__law_sixteen (F__law_sixteen n) [some a0, none] h) := rfl
def m__law_text : SS := (nSeq (nSet 2 (sSm mSplitN (sCall F__law_written 1 0 1 (fun ws _ => ws) (aCons (sVar 1) aNil) aNil) (sC (.str "\n")))) (nSeq (nFor (iEn (aCons (sArgs fLof (aCons (sVar 2) aNil)) aNil)) (gTp 2 (gsCons (gNm 3) (gsCons (gNm 4) gsNil))) (nSeq (nSet 5 (sSm mSplit (sVar 4) (sC (.str " ")))) (nSeq (nIf (cAnd (cBin bNe (sBin bIx (sVar 5) (sC (.int 0))) (sC (.str "part"))) (cAnd (cBin bEq (sBin bIx (sVar 5) (sC (.int 1))) (sC (.str "put"))) (cBin bEq (sCall F__law_take 2 0 2 (fun ws _ => ws) (aCons (sVar 0) (aCons (sC (.int 2)) aNil)) aNil) (sC (.int 0))))) (nSeq (nAsg (sSm mJoin (sC (.str " ")) (sBin bAdd (sSl (sVar 5) oNone (oSome (sC (.int 2)))) (sArgs fLst (aCons (sCall (F__law_sixteen 2) 1 0 1 (fun ws _ => ws) (aCons (sArgs fIntS (aCons (sBin bIx (sVar 5) (sC (.int 2))) aNil)) aNil) aNil) aNil)))) (gSb (sVar 2) (sVar 3))) nNext) nNext) nNext))) (nSeq (nRet (sSm mJoin (sC (.str "\n")) (sVar 2))) nNext)))
def F__law_text : List Val → M Val := runB 6 m__law_text
theorem e__law_text (a0 a1 : Val) (h : HH) : F__law_text [a0, a1] h = outOf (m__law_text [some a0, some a1, none, none, none, none] h) := rfl
def m_law (C_READS : Addr) (C_read_name : Addr) (C_read_row_number : Addr) (C_read_worth : Addr) : SS := (nSeq (nFor (iRgN 1 (aCons (sArgs fMax (aCons (sC (.int 2)) (aCons (sArgs fMin (aCons (sC (.int 5)) (aCons (sArgs fLen (aCons (sVar 0) aNil)) aNil))) aNil))) aNil)) (gNm 1) (nSeq (nSet 4 (sCall F__law_bag 2 0 2 (fun ws _ => ws) (aCons (sVar 0) (aCons (sVar 1) aNil)) aNil)) (nSeq (nSet 5 (sCall F__law_program 1 0 1 (fun ws _ => ws) (aCons (sVar 4) aNil) aNil)) (nSeq (nSet 6 (sCall F__law_text 2 0 2 (fun ws _ => ws) (aCons (sVar 4) (aCons (sVar 5) aNil)) aNil)) (nSeq (nIf (cBin (bOrd fun i j => decide (i ≤ j)) (sArgs fLen (aCons (sVar 6) aNil)) (sC (.int 6000))) (nSeq (nFor (iRgN 1 (aCons (sC (.int 2)) aNil)) (gNm 8) (nSeq (nSet 9 (sCall (F_read_program C_READS C_read_name C_read_row_number C_read_worth) 1 0 1 (fun ws _ => ws) (aCons (sVar 6) aNil) aNil)) (nSeq (nIf (cOr (cBin bNe (sArgs fRepr (aCons (sVar 9) aNil)) (sArgs fRepr (aCons (sVar 5) aNil))) (cBin bNe (sCall F_show_program 1 0 1 (fun ws _ => ws) (aCons (sVar 9) aNil) aNil) (sCall F__law_written 1 0 1 (fun ws _ => ws) (aCons (sVar 5) aNil) aNil))) (nSeq (nRet (sC (.bl false))) nNext) nNext) nNext))) nNext) nNext) nNext))))) (nSeq (nSet 2 (sArgs fLst (aCons (sC (.int 0)) (aCons (sC (.int 1)) (aCons (sC (.int 9)) (aCons (sC (.int 10)) (aCons (sC (.int 15)) (aCons (sC (.int 16)) (aCons (sC (.int 255)) (aCons (sC (.int 256)) (aCons (sBin bPow (sC (.int 10)) (sC (.int 12))) (aCons (sBin bSub (sBin bPow (sC (.int 10)) (sC (.int 12))) (sC (.int 1))) (aCons (sBin bPow (sC (.int 16)) (sC (.int 9))) aNil))))))))))))) (nSeq (nFor (iVal (sBin bAdd (sVar 2) (sLc (iVal (sVar 2)) (gNm 3) tYesZ (sBin bSub (sC (.int 0)) (sVar 3)) [3]))) (gNm 3) (nSeq (nFor (iVal (sArgs fLst (aCons (sCall (F__law_sixteen 2) 1 0 1 (fun ws _ => ws) (aCons (sVar 3) aNil) aNil) (aCons (sCall (F__law_figures 2) 1 0 1 (fun ws _ => ws) (aCons (sVar 3) aNil) aNil) aNil)))) (gNm 7) (nSeq (nIf (cBin bNe (sArgs fRepr (aCons (sCall (F_read_program C_READS C_read_name C_read_row_number C_read_worth) 1 0 1 (fun ws _ => ws) (aCons (sBin bAdd (sC (.str "part a b\n00 put ")) (sVar 7)) aNil) aNil) aNil)) (sArgs fRepr (aCons (sArgs fTup (aCons (sArgs fTup (aCons (sC (.str "a")) (aCons (sArgs fTup (aCons (sC (.str "b")) aNil)) (aCons (sArgs fTup (aCons (sArgs fTup (aCons (sC (.str "put")) (aCons (sVar 3) aNil))) aNil)) aNil)))) aNil)) aNil))) (nSeq (nRet (sC (.bl false))) nNext) nNext) nNext)) nNext)) (nSeq (nRet (sC (.bl true))) nNext))))
def F_law (C_READS : Addr) (C_read_name : Addr) (C_read_row_number : Addr) (C_read_worth : Addr) : List Val → M Val := runB 10 (m_law C_READS C_read_name C_read_row_number C_read_worth)
theorem e_law (C_READS : Addr) (C_read_name : Addr) (C_read_row_number : Addr) (C_read_worth : Addr) (a0 : Val) (h : HH) : F_law C_READS C_read_name C_read_row_number C_read_worth [a0] h = outOf (m_law C_READS C_read_name C_read_row_number C_read_worth [some a0, none, none, none, none, none, none, none, none, none] h) := rfl
end K68
set_option Elab.async false
set_option maxRecDepth 100000
set_option linter.unusedVariables false
namespace K68
open PySem PySem.Spec PyProof.Rows L2 Z
def top (i : Nat) : Stmt := PySem.Challenge.pw_watchedrun_k68_programs_read.main.body.getD i (.Pass ⟨0, 0, 0, 0⟩)
set_option maxHeartbeats 0
def D13 : {s : Stmt // s = top 13} := ⟨_, by conv => { rhs; whnf }⟩
def D14 : {s : Stmt // s = top 14} := ⟨_, by conv => { rhs; whnf }⟩
def D15 : {s : Stmt // s = top 15} := ⟨_, by conv => { rhs; whnf }⟩
def D16 : {s : Stmt // s = top 16} := ⟨_, by conv => { rhs; whnf }⟩
def D17 : {s : Stmt // s = top 17} := ⟨_, by conv => { rhs; whnf }⟩
def D18 : {s : Stmt // s = top 18} := ⟨_, by conv => { rhs; whnf }⟩
def D19 : {s : Stmt // s = top 19} := ⟨_, by conv => { rhs; whnf }⟩
def D20 : {s : Stmt // s = top 20} := ⟨_, by conv => { rhs; whnf }⟩
def D21 : {s : Stmt // s = top 21} := ⟨_, by conv => { rhs; whnf }⟩
def D28 : {s : Stmt // s = top 28} := ⟨_, by conv => { rhs; whnf }⟩
def D29 : {s : Stmt // s = top 29} := ⟨_, by conv => { rhs; whnf }⟩
def D30 : {s : Stmt // s = top 30} := ⟨_, by conv => { rhs; whnf }⟩
def D31 : {s : Stmt // s = top 31} := ⟨_, by conv => { rhs; whnf }⟩
def D32 : {s : Stmt // s = top 32} := ⟨_, by conv => { rhs; whnf }⟩
def D33 : {s : Stmt // s = top 33} := ⟨_, by conv => { rhs; whnf }⟩
def D35 : {s : Stmt // s = top 35} := ⟨_, by conv => { rhs; whnf }⟩
def D36 : {s : Stmt // s = top 36} := ⟨_, by conv => { rhs; whnf }⟩
def D37 : {s : Stmt // s = top 37} := ⟨_, by conv => { rhs; whnf }⟩
def D38 : {s : Stmt // s = top 38} := ⟨_, by conv => { rhs; whnf }⟩
def D40 : {s : Stmt // s = top 40} := ⟨_, by conv => { rhs; whnf }⟩
def D41 : {s : Stmt // s = top 41} := ⟨_, by conv => { rhs; whnf }⟩
def D42 : {s : Stmt // s = top 42} := ⟨_, by conv => { rhs; whnf }⟩
def D43 : {s : Stmt // s = top 43} := ⟨_, by conv => { rhs; whnf }⟩
def D44 : {s : Stmt // s = top 44} := ⟨_, by conv => { rhs; whnf }⟩
def D45 : {s : Stmt // s = top 45} := ⟨_, by conv => { rhs; whnf }⟩
def D46 : {s : Stmt // s = top 46} := ⟨_, by conv => { rhs; whnf }⟩
def D47 : {s : Stmt // s = top 47} := ⟨_, by conv => { rhs; whnf }⟩
def D48 : {s : Stmt // s = top 48} := ⟨_, by conv => { rhs; whnf }⟩
def D49 : {s : Stmt // s = top 49} := ⟨_, by conv => { rhs; whnf }⟩
def D50 : {s : Stmt // s = top 50} := ⟨_, by conv => { rhs; whnf }⟩
structure Txt (w : World) (K : PySem.W.Frag) (mg : Str → Option Value) where
  g_abs : mg "abs" = none
  g_all : mg "all" = none
  g_bool : mg "bool" = none
  g_enumerate : mg "enumerate" = none
  g_int : mg "int" = none
  g_isinstance : mg "isinstance" = none
  g_len : mg "len" = none
  g_list : mg "list" = none
  g_max : mg "max" = none
  g_min : mg "min" = none
  g_range : mg "range" = none
  g_repr : mg "repr" = none
  g_set : mg "set" = none
  g_str : mg "str" = none
  g_tuple : mg "tuple" = none
  k_ALONE : Cst K mg "ALONE" c_ALONE
  k_BARE : Cst K mg "BARE" c_BARE
  k_FIGURES : Cst K mg "FIGURES" c_FIGURES
  k_LEADING : Cst K mg "LEADING" c_LEADING
  k_LETTERS : Cst K mg "LETTERS" c_LETTERS
  k_MOST_FIGURES : Cst K mg "MOST_FIGURES" c_MOST_FIGURES
  k_MOST_LETTERS : Cst K mg "MOST_LETTERS" c_MOST_LETTERS
  k_MOST_LONG : Cst K mg "MOST_LONG" c_MOST_LONG
  k_MOST_NAMES : Cst K mg "MOST_NAMES" c_MOST_NAMES
  k_MOST_PARTS : Cst K mg "MOST_PARTS" c_MOST_PARTS
  k_MOST_WORTH : Cst K mg "MOST_WORTH" c_MOST_WORTH
  k_MOST_WRITTEN : Cst K mg "MOST_WRITTEN" c_MOST_WRITTEN
  k_NAMED : Cst K mg "NAMED" c_NAMED
  k_SIXTEEN : Cst K mg "SIXTEEN" c_SIXTEEN
  C_READS : Addr
  g_READS : mg "READS" = some (.ref C_READS)
  d_READS : ∃ es n, L2.KDict K w C_READS es n
  a_is_whole : Addr
  d_is_whole : FuncData
  F_is_whole : Fun K "is_whole" "is_whole" D13.1 a_is_whole d_is_whole
  g_is_whole : mg "is_whole" = some (.ref a_is_whole)
  a_is_worth : Addr
  d_is_worth : FuncData
  F_is_worth : Fun K "is_worth" "is_worth" D14.1 a_is_worth d_is_worth
  g_is_worth : mg "is_worth" = some (.ref a_is_worth)
  a_is_name : Addr
  d_is_name : FuncData
  F_is_name : Fun K "is_name" "is_name" D15.1 a_is_name d_is_name
  g_is_name : mg "is_name" = some (.ref a_is_name)
  a_are_unlike_names : Addr
  d_are_unlike_names : FuncData
  F_are_unlike_names : FunD K "are_unlike_names" "are_unlike_names" (defArgs D16.1) (defBody D16.1) (defScope D16.1) [] [("least", (.int 0))] a_are_unlike_names d_are_unlike_names
  g_are_unlike_names : mg "are_unlike_names" = some (.ref a_are_unlike_names)
  a_is_led_to : Addr
  d_is_led_to : FuncData
  F_is_led_to : Fun K "is_led_to" "is_led_to" D17.1 a_is_led_to d_is_led_to
  g_is_led_to : mg "is_led_to" = some (.ref a_is_led_to)
  a_is_row : Addr
  d_is_row : FuncData
  F_is_row : Fun K "is_row" "is_row" D18.1 a_is_row d_is_row
  g_is_row : mg "is_row" = some (.ref a_is_row)
  a_is_headed : Addr
  d_is_headed : FuncData
  F_is_headed : Fun K "is_headed" "is_headed" D19.1 a_is_headed d_is_headed
  g_is_headed : mg "is_headed" = some (.ref a_is_headed)
  a_is_program : Addr
  d_is_program : FuncData
  F_is_program : Fun K "is_program" "is_program" D20.1 a_is_program d_is_program
  g_is_program : mg "is_program" = some (.ref a_is_program)
  a_look_program : Addr
  d_look_program : FuncData
  F_look_program : Fun K "look_program" "look_program" D21.1 a_look_program d_look_program
  g_look_program : mg "look_program" = some (.ref a_look_program)
  a_show_row : Addr
  d_show_row : FuncData
  F_show_row : Fun K "show_row" "show_row" D28.1 a_show_row d_show_row
  g_show_row : mg "show_row" = some (.ref a_show_row)
  a_show_program : Addr
  d_show_program : FuncData
  F_show_program : Fun K "show_program" "show_program" D29.1 a_show_program d_show_program
  g_show_program : mg "show_program" = some (.ref a_show_program)
  a_number_in : Addr
  d_number_in : FuncData
  F_number_in : Fun K "number_in" "number_in" D30.1 a_number_in d_number_in
  g_number_in : mg "number_in" = some (.ref a_number_in)
  a_read_row_number : Addr
  d_read_row_number : FuncData
  F_read_row_number : Fun K "read_row_number" "read_row_number" D31.1 a_read_row_number d_read_row_number
  g_read_row_number : mg "read_row_number" = some (.ref a_read_row_number)
  a_read_worth : Addr
  d_read_worth : FuncData
  F_read_worth : Fun K "read_worth" "read_worth" D32.1 a_read_worth d_read_worth
  g_read_worth : mg "read_worth" = some (.ref a_read_worth)
  a_read_name : Addr
  d_read_name : FuncData
  F_read_name : Fun K "read_name" "read_name" D33.1 a_read_name d_read_name
  g_read_name : mg "read_name" = some (.ref a_read_name)
  a_row_of : Addr
  d_row_of : FuncData
  F_row_of : Fun K "row_of" "row_of" D35.1 a_row_of d_row_of
  g_row_of : mg "row_of" = some (.ref a_row_of)
  a_begins_part : Addr
  d_begins_part : FuncData
  F_begins_part : Fun K "begins_part" "begins_part" D36.1 a_begins_part d_begins_part
  g_begins_part : mg "begins_part" = some (.ref a_begins_part)
  a_stands : Addr
  d_stands : FuncData
  F_stands : Fun K "stands" "stands" D37.1 a_stands d_stands
  g_stands : mg "stands" = some (.ref a_stands)
  a_read_program : Addr
  d_read_program : FuncData
  F_read_program : Fun K "read_program" "read_program" D38.1 a_read_program d_read_program
  g_read_program : mg "read_program" = some (.ref a_read_program)
  a__law_bag : Addr
  d__law_bag : FuncData
  F__law_bag : Fun K "_law_bag" "_law_bag" D40.1 a__law_bag d__law_bag
  g__law_bag : mg "_law_bag" = some (.ref a__law_bag)
  a__law_take : Addr
  d__law_take : FuncData
  F__law_take : Fun K "_law_take" "_law_take" D41.1 a__law_take d__law_take
  g__law_take : mg "_law_take" = some (.ref a__law_take)
  a__law_names : Addr
  d__law_names : FuncData
  F__law_names : Fun K "_law_names" "_law_names" D42.1 a__law_names d__law_names
  g__law_names : mg "_law_names" = some (.ref a__law_names)
  a__law_worth : Addr
  d__law_worth : FuncData
  F__law_worth : Fun K "_law_worth" "_law_worth" D43.1 a__law_worth d__law_worth
  g__law_worth : mg "_law_worth" = some (.ref a__law_worth)
  a__law_row : Addr
  d__law_row : FuncData
  F__law_row : Fun K "_law_row" "_law_row" D44.1 a__law_row d__law_row
  g__law_row : mg "_law_row" = some (.ref a__law_row)
  a__law_program : Addr
  d__law_program : FuncData
  F__law_program : Fun K "_law_program" "_law_program" D45.1 a__law_program d__law_program
  g__law_program : mg "_law_program" = some (.ref a__law_program)
  a__law_figures : Addr
  d__law_figures : FuncData
  F__law_figures : Fun K "_law_figures" "_law_figures" D46.1 a__law_figures d__law_figures
  g__law_figures : mg "_law_figures" = some (.ref a__law_figures)
  a__law_written : Addr
  d__law_written : FuncData
  F__law_written : Fun K "_law_written" "_law_written" D47.1 a__law_written d__law_written
  g__law_written : mg "_law_written" = some (.ref a__law_written)
  a__law_sixteen : Addr
  d__law_sixteen : FuncData
  F__law_sixteen : Fun K "_law_sixteen" "_law_sixteen" D48.1 a__law_sixteen d__law_sixteen
  g__law_sixteen : mg "_law_sixteen" = some (.ref a__law_sixteen)
  a__law_text : Addr
  d__law_text : FuncData
  F__law_text : Fun K "_law_text" "_law_text" D49.1 a__law_text d__law_text
  g__law_text : mg "_law_text" = some (.ref a__law_text)
  a_law : Addr
  d_law : FuncData
  F_law : Fun K "law" "law" D50.1 a_law d_law
  g_law : mg "law" = some (.ref a_law)
  y_READS_put : PySem.W.nsIn K C_READS "put" = some (some (.ref a_read_worth))
  y_READS_get : PySem.W.nsIn K C_READS "get" = some (some (.ref a_read_name))
  y_READS_set : PySem.W.nsIn K C_READS "set" = some (some (.ref a_read_name))
  y_READS_look : PySem.W.nsIn K C_READS "look" = some (some (.ref a_read_name))
  y_READS_change : PySem.W.nsIn K C_READS "change" = some (some (.ref a_read_name))
  y_READS_call : PySem.W.nsIn K C_READS "call" = some (some (.ref a_read_name))
  y_READS_go : PySem.W.nsIn K C_READS "go" = some (some (.ref a_read_row_number))
  y_READS_if : PySem.W.nsIn K C_READS "if" = some (some (.ref a_read_row_number))
  y_READS_try : PySem.W.nsIn K C_READS "try" = some (some (.ref a_read_row_number))
set_option maxHeartbeats 400000
theorem kvs_READS {w : World} {K : PySem.W.Frag} {mg : Str → Option Value} (T : Txt w K mg) : ∀ q ∈ kv_READS T.a_read_name T.a_read_row_number T.a_read_worth, PySem.W.nsIn K T.C_READS q.1 = some (some (.ref q.2)) := by
  intro q hq
  simp only [kv_READS, List.mem_cons, List.not_mem_nil, or_false] at hq
  rcases hq with rfl | rfl | rfl | rfl | rfl | rfl | rfl | rfl | rfl
  · exact T.y_READS_put
  · exact T.y_READS_get
  · exact T.y_READS_set
  · exact T.y_READS_look
  · exact T.y_READS_change
  · exact T.y_READS_call
  · exact T.y_READS_go
  · exact T.y_READS_if
  · exact T.y_READS_try
section
variable {P : Program} {w : World} {K : PySem.W.Frag} {mg : Str → Option Value} {base : Heap}
theorem s_is_whole : FnScope ["thing"] ["thing"] (defScope D13.1) := ⟨rfl, rfl, rfl, by decide +kernel, rfl, by decide +kernel, by decide +kernel⟩
theorem bz_is_whole (T : Txt w K mg) : KBz K T.d_is_whole ["thing"] 1 [] (fun ws _ => ws) := kbz_pos (T.F_is_whole.binds fun _ _ _ _ _ _ us hl => match us, hl with | [_], _ => rfl)
theorem ok_is_whole (T : Txt w K mg) : FnG P w K mg base (L2.CX P w) 1 T.a_is_whole T.d_is_whole ["thing"] (spF K ["thing"].length F_is_whole) := by
  have S := s_is_whole
  refine fn_ok (N := ["thing"]) (ps := ["thing"]) (n := 1) (k := 0) (m := m_is_whole) T.F_is_whole S rfl (fun cdv A outer s H E hr => ?_)
  exact (os_cons (os_ret (oe_and (oe_callB call_isi lk_isi rfl T.g_isinstance zb_isinstance (oa_cons (ov 0) (oa_cons (oe_ty rfl T.g_int zb_int) oa_nil rfl) rfl) (by decide) (by decide) rfl rfl) (oe_one (oe_not (oe_callB call_isi lk_isi rfl T.g_isinstance zb_isinstance (oa_cons (ov 0) (oa_cons (oe_ty rfl T.g_bool zb_bool) oa_nil rfl) rfl) (by decide) (by decide) rfl rfl))))) os_nil)
theorem s_is_worth : FnScope ["thing"] ["thing"] (defScope D14.1) := ⟨rfl, rfl, rfl, by decide +kernel, rfl, by decide +kernel, by decide +kernel⟩
theorem bz_is_worth (T : Txt w K mg) : KBz K T.d_is_worth ["thing"] 1 [] (fun ws _ => ws) := kbz_pos (T.F_is_worth.binds fun _ _ _ _ _ _ us hl => match us, hl with | [_], _ => rfl)
theorem ok_is_worth (T : Txt w K mg) : FnG P w K mg base (L2.CX P w) 2 T.a_is_worth T.d_is_worth ["thing"] (spF K ["thing"].length F_is_worth) := by
  have S := s_is_worth
  refine fn_ok (N := ["thing"]) (ps := ["thing"]) (n := 1) (k := 1) (m := m_is_worth) T.F_is_worth S rfl (fun cdv A outer s H E hr => ?_)
  exact (os_cons (os_ret (oe_and (oe_call (ok_is_whole T) (hr.mono (by first | decide | omega)) rfl T.g_is_whole T.F_is_whole.kp (bz_is_whole T) (takes_of rfl rfl rfl rfl) (oa_cons (ov 0) oa_nil rfl) ok_nil rfl rfl rfl rfl (by decide) rfl rfl) (oe_one (oe_cmp op_le lk_ord rfl (oe_callB call_abs lk_abs rfl T.g_abs zb_abs (oa_cons (ov 0) oa_nil rfl) (by decide) (by decide) rfl rfl) (oe_gl rfl T.k_MOST_WORTH))))) os_nil)
theorem s_is_name : FnScope ["thing", "letter"] ["thing"] (defScope D15.1) := ⟨rfl, rfl, rfl, by decide +kernel, rfl, by decide +kernel, by decide +kernel⟩
theorem bz_is_name (T : Txt w K mg) : KBz K T.d_is_name ["thing"] 1 [] (fun ws _ => ws) := kbz_pos (T.F_is_name.binds fun _ _ _ _ _ _ us hl => match us, hl with | [_], _ => rfl)
theorem ok_is_name (T : Txt w K mg) : FnG P w K mg base (L2.CX P w) 1 T.a_is_name T.d_is_name ["thing"] (spF K ["thing"].length F_is_name) := by
  have S := s_is_name
  refine fn_ok (N := ["thing", "letter"]) (ps := ["thing"]) (n := 2) (k := 0) (m := m_is_name) T.F_is_name S rfl (fun cdv A outer s H E hr => ?_)
  exact (os_cons (os_if (PW.pt (ow_or (ot_not (ot_val (oe_callB call_isi lk_isi rfl T.g_isinstance zb_isinstance (oa_cons (ov 0) (oa_cons (oe_ty rfl T.g_str zb_str) oa_nil rfl) rfl) (by decide) (by decide) rfl rfl) (fun _ => rfl))) (ow_or1 (ot_not (ot_chn oe_int (ok_link op_le lk_ord (oe_callB call_len lk_len rfl T.g_len zb_len (oa_cons (ov 0) oa_nil rfl) (by decide) (by decide) rfl rfl) (ok_last op_le lk_ord (oe_gl rfl T.k_MOST_LETTERS)))))))) (os_cons (os_ret oe_bl) os_nil) os_nil) (os_cons (os_ret (oe_callB (cr_all rfl) lk_all rfl T.g_all zb_all (oa_cons (oe_lc (own := [("letter", 1)]) (sl := [1]) rfl S.nd (oi_val (ov 0)) (blkOk_by (N := ["thing", "letter"]) (sc := defScope D15.1) (own := [("letter", 1)]) (by decide +kernel)) (by decide) (fun _ _ _ _ _ => (og_name (i := 1) S.nd rfl (by first | exact Or.inl rfl | exact Or.inr rfl) (by first | exact Or.inl rfl | exact Or.inr rfl))) (fun _ _ _ _ _ => ots_nil) (fun _ _ _ _ _ => (oe_cmp op_inZ (lk_in false) rfl (ov 1) (oe_gl rfl T.k_LETTERS))) (fun _ => rfl)) oa_nil rfl) (by decide) (by decide) rfl rfl)) os_nil))
theorem s_are_unlike_names : FnScope ["thing", "most", "least", "one"] ["thing", "most", "least"] (defScope D16.1) := ⟨rfl, rfl, rfl, by decide +kernel, rfl, by decide +kernel, by decide +kernel⟩
theorem bz_are_unlike_names_1_most (T : Txt w K mg) : KBz K T.d_are_unlike_names ["thing", "most", "least"] 1 ["most"] (fun us ws => g_bz_are_unlike_names_1_most us [(.int 0)] ws) := by
  refine kbz_kw T.F_are_unlike_names 1 ["most"] [("least", (.int 0))] [(.int 0)] g_bz_are_unlike_names_1_most (by simp) (by simp) (fun _ _ _ => (.cons (.int 0) .nil)) ?_ ?_ ?_
  · intro _ _ _ _ _ _ r1 r2 r3; exact r1.append (r3.append r2)
  · intro _ _ _ _ _ _ _ _ _ r1 r2 r3; exact r1.append (r3.append r2)
  · intro D doc pm an cdv ct us mv ws l1 l2 l3
    match us, mv, ws, l1, l2, l3 with
    | [_], [_], [_], _, _, _ => exact ⟨_, _, _, _, _, _, rfl, rfl, rfl⟩
theorem bz_are_unlike_names_1_most_least (T : Txt w K mg) : KBz K T.d_are_unlike_names ["thing", "most", "least"] 1 ["most", "least"] (fun us ws => g_bz_are_unlike_names_1_most_least us [] ws) := by
  refine kbz_kw T.F_are_unlike_names 1 ["most", "least"] [] [] g_bz_are_unlike_names_1_most_least (by simp) (by simp) (fun _ _ _ => .nil) ?_ ?_ ?_
  · intro _ _ _ _ _ _ r1 r2 r3; exact r1.append (r3.append r2)
  · intro _ _ _ _ _ _ _ _ _ r1 r2 r3; exact r1.append (r3.append r2)
  · intro D doc pm an cdv ct us mv ws l1 l2 l3
    match us, mv, ws, l1, l2, l3 with
    | [_], [], [_, _], _, _, _ => exact rfl
theorem ok_are_unlike_names (T : Txt w K mg) : FnG P w K mg base (L2.CX P w) 2 T.a_are_unlike_names T.d_are_unlike_names ["thing", "most", "least"] (spF K ["thing", "most", "least"].length F_are_unlike_names) := by
  have S := s_are_unlike_names
  refine fn_okD (N := ["thing", "most", "least", "one"]) (ps := ["thing", "most", "least"]) (n := 4) (k := 1) (m := m_are_unlike_names) T.F_are_unlike_names S rfl (fun cdv A outer s H E hr => ?_)
  exact (os_cons (os_if (PW.pt (ow_or (ot_not (ot_val (oe_callB call_isi lk_isi rfl T.g_isinstance zb_isinstance (oa_cons (ov 0) (oa_cons (oe_ty rfl T.g_tuple zb_tuple) oa_nil rfl) rfl) (by decide) (by decide) rfl rfl) (fun _ => rfl))) (ow_or (ot_not (ot_chn (ov 2) (ok_link op_le lk_ord (oe_callB call_len lk_len rfl T.g_len zb_len (oa_cons (ov 0) oa_nil rfl) (by decide) (by decide) rfl rfl) (ok_last op_le lk_ord (ov 1))))) (ow_or1 (ot_not (ot_val (oe_callB (cr_all rfl) lk_all rfl T.g_all zb_all (oa_cons (oe_lc (own := [("one", 3)]) (sl := [3]) rfl S.nd (oi_val (ov 0)) (blkOk_by (N := ["thing", "most", "least", "one"]) (sc := defScope D16.1) (own := [("one", 3)]) (by decide +kernel)) (by decide) (fun _ _ _ _ _ => (og_name (i := 3) S.nd rfl (by first | exact Or.inl rfl | exact Or.inr rfl) (by first | exact Or.inl rfl | exact Or.inr rfl))) (fun _ _ _ _ _ => ots_nil) (fun _ _ _ _ _ => (oe_call (ok_is_name T) (hr.mono (by first | decide | omega)) rfl T.g_is_name T.F_is_name.kp (bz_is_name T) takesW (oa_cons (ov 3) oa_nil rfl) ok_nil rfl rfl rfl rfl (by decide) rfl rfl)) (fun _ => rfl)) oa_nil rfl) (by decide) (by decide) rfl rfl) (fun _ => rfl))))))) (os_cons (os_ret oe_bl) os_nil) os_nil) (os_cons (os_ret (oe_cmp (op_eqZ (hr.mono (Nat.zero_le _)).units) lk_eq rfl (oe_lset rfl rfl T.g_len rfl T.g_set (ov 0)) (oe_callB call_len lk_len rfl T.g_len zb_len (oa_cons (ov 0) oa_nil rfl) (by decide) (by decide) rfl rfl))) os_nil))
theorem s_is_led_to : FnScope ["thing", "at", "rows", "word", "goal"] ["thing", "at", "rows"] (defScope D17.1) := ⟨rfl, rfl, rfl, by decide +kernel, rfl, by decide +kernel, by decide +kernel⟩
theorem bz_is_led_to (T : Txt w K mg) : KBz K T.d_is_led_to ["thing", "at", "rows"] 3 [] (fun ws _ => ws) := kbz_pos (T.F_is_led_to.binds fun _ _ _ _ _ _ us hl => match us, hl with | [_, _, _], _ => rfl)
theorem ok_is_led_to (T : Txt w K mg) : FnG P w K mg base (L2.CX P w) 2 T.a_is_led_to T.d_is_led_to ["thing", "at", "rows"] (spF K ["thing", "at", "rows"].length F_is_led_to) := by
  have S := s_is_led_to
  refine fn_ok (N := ["thing", "at", "rows", "word", "goal"]) (ps := ["thing", "at", "rows"]) (n := 5) (k := 1) (m := m_is_led_to) T.F_is_led_to S rfl (fun cdv A outer s H E hr => ?_)
  exact (os_cons (os_asg (ov 0) (og_tup rfl (ogs_cons (og_name (i := 3) S.nd rfl (by first | exact Or.inl rfl | exact Or.inr rfl) (by first | exact Or.inl rfl | exact Or.inr rfl)) (ogs_cons (og_name (i := 4) S.nd rfl (by first | exact Or.inl rfl | exact Or.inr rfl) (by first | exact Or.inl rfl | exact Or.inr rfl)) ogs_nil rfl) rfl) rfl rfl) rfl rfl rfl) (os_cons (os_if (PW.pt (ow_or (ot_not (ot_val (oe_call (ok_is_whole T) (hr.mono (by first | decide | omega)) rfl T.g_is_whole T.F_is_whole.kp (bz_is_whole T) (takes_of rfl rfl rfl rfl) (oa_cons (ov 4) oa_nil rfl) ok_nil rfl rfl rfl rfl (by decide) rfl rfl) (fun _ => rfl))) (ow_or1 (ot_not (ot_chn oe_int (ok_link op_le lk_ord (ov 4) (ok_last op_lt lk_ord (oe_callB call_len lk_len rfl T.g_len zb_len (oa_cons (ov 2) oa_nil rfl) (by decide) (by decide) rfl rfl)))))))) (os_cons (os_ret oe_bl) os_nil) os_nil) (os_cons (os_ret (oe_or (oe_cmp (op_neZ (hr.mono (Nat.zero_le _)).units) lk_ne rfl (ov 3) oe_str) (oe_one (oe_cmp (op_neZ (hr.mono (Nat.zero_le _)).units) lk_ne rfl (ov 4) (oe_op op_addZ lk_add (ov 1) oe_int))))) os_nil)))
theorem s_is_row : FnScope ["thing", "at", "rows", "called"] ["thing", "at", "rows", "called"] (defScope D18.1) := ⟨rfl, rfl, rfl, by decide +kernel, rfl, by decide +kernel, by decide +kernel⟩
theorem bz_is_row (T : Txt w K mg) : KBz K T.d_is_row ["thing", "at", "rows", "called"] 4 [] (fun ws _ => ws) := kbz_pos (T.F_is_row.binds fun _ _ _ _ _ _ us hl => match us, hl with | [_, _, _, _], _ => rfl)
theorem ok_is_row (T : Txt w K mg) : FnG P w K mg base (L2.CX P w) 3 T.a_is_row T.d_is_row ["thing", "at", "rows", "called"] (spF K ["thing", "at", "rows", "called"].length F_is_row) := by
  have S := s_is_row
  refine fn_ok (N := ["thing", "at", "rows", "called"]) (ps := ["thing", "at", "rows", "called"]) (n := 4) (k := 2) (m := m_is_row) T.F_is_row S rfl (fun cdv A outer s H E hr => ?_)
  exact (os_cons (os_if (PW.pt (ow_or (ot_not (ot_val (oe_callB call_isi lk_isi rfl T.g_isinstance zb_isinstance (oa_cons (ov 0) (oa_cons (oe_ty rfl T.g_tuple zb_tuple) oa_nil rfl) rfl) (by decide) (by decide) rfl rfl) (fun _ => rfl))) (ow_or (ot_cmp (op_eqZ (hr.mono (Nat.zero_le _)).units) lk_eq rfl (ov 0) (oe_tup oa_nil)) (ow_or1 (ot_not (ot_val (oe_callB call_isi lk_isi rfl T.g_isinstance zb_isinstance (oa_cons (oe_ix ix_seq lk_ix (fun _ _ => rfl) (ov 0) oe_int) (oa_cons (oe_ty rfl T.g_str zb_str) oa_nil rfl) rfl) (by decide) (by decide) rfl rfl) (fun _ => rfl))))))) (os_cons (os_ret oe_bl) os_nil) os_nil) (os_cons (os_if (ot_cmp op_inZ (lk_in false) rfl (oe_ix ix_seq lk_ix (fun _ _ => rfl) (ov 0) oe_int) (oe_gl rfl T.k_ALONE)) (os_cons (os_ret (oe_cmp (op_eqZ (hr.mono (Nat.zero_le _)).units) lk_eq rfl (oe_callB call_len lk_len rfl T.g_len zb_len (oa_cons (ov 0) oa_nil rfl) (by decide) (by decide) rfl rfl) oe_int)) os_nil) os_nil) (os_cons (os_if (ot_cmp (op_neZ (hr.mono (Nat.zero_le _)).units) lk_ne rfl (oe_callB call_len lk_len rfl T.g_len zb_len (oa_cons (ov 0) oa_nil rfl) (by decide) (by decide) rfl rfl) oe_int) (os_cons (os_ret oe_bl) os_nil) os_nil) (os_cons (os_if (ot_cmp (op_eqZ (hr.mono (Nat.zero_le _)).units) lk_eq rfl (oe_ix ix_seq lk_ix (fun _ _ => rfl) (ov 0) oe_int) oe_str) (os_cons (os_ret (oe_call (ok_is_worth T) (hr.mono (by first | decide | omega)) rfl T.g_is_worth T.F_is_worth.kp (bz_is_worth T) (takes_of rfl rfl rfl rfl) (oa_cons (oe_ix ix_seq lk_ix (fun _ _ => rfl) (ov 0) oe_int) oa_nil rfl) ok_nil rfl rfl rfl rfl (by decide) rfl rfl)) os_nil) os_nil) (os_cons (os_if (ot_cmp (op_eqZ (hr.mono (Nat.zero_le _)).units) lk_eq rfl (oe_ix ix_seq lk_ix (fun _ _ => rfl) (ov 0) oe_int) oe_str) (os_cons (os_ret (oe_and (oe_call (ok_is_name T) (hr.mono (by first | decide | omega)) rfl T.g_is_name T.F_is_name.kp (bz_is_name T) (takes_of rfl rfl rfl rfl) (oa_cons (oe_ix ix_seq lk_ix (fun _ _ => rfl) (ov 0) oe_int) oa_nil rfl) ok_nil rfl rfl rfl rfl (by decide) rfl rfl) (oe_one (oe_cmp op_inZ (lk_in false) rfl (oe_ix ix_seq lk_ix (fun _ _ => rfl) (ov 0) oe_int) (ov 3))))) os_nil) os_nil) (os_cons (os_if (ot_cmp op_inZ (lk_in false) rfl (oe_ix ix_seq lk_ix (fun _ _ => rfl) (ov 0) oe_int) (oe_gl rfl T.k_LEADING)) (os_cons (os_ret (oe_call (ok_is_led_to T) (hr.mono (by first | decide | omega)) rfl T.g_is_led_to T.F_is_led_to.kp (bz_is_led_to T) (takes_of rfl rfl rfl rfl) (oa_cons (ov 0) (oa_cons (ov 1) (oa_cons (ov 2) oa_nil rfl) rfl) rfl) ok_nil rfl rfl rfl rfl (by decide) rfl rfl)) os_nil) os_nil) (os_cons (os_ret (oe_and (oe_cmp op_inZ (lk_in false) rfl (oe_ix ix_seq lk_ix (fun _ _ => rfl) (ov 0) oe_int) (oe_gl rfl T.k_NAMED)) (oe_one (oe_call (ok_is_name T) (hr.mono (by first | decide | omega)) rfl T.g_is_name T.F_is_name.kp (bz_is_name T) (takes_of rfl rfl rfl rfl) (oa_cons (oe_ix ix_seq lk_ix (fun _ _ => rfl) (ov 0) oe_int) oa_nil rfl) ok_nil rfl rfl rfl rfl (by decide) rfl rfl)))) os_nil)))))))
theorem s_is_headed : FnScope ["thing"] ["thing"] (defScope D19.1) := ⟨rfl, rfl, rfl, by decide +kernel, rfl, by decide +kernel, by decide +kernel⟩
theorem bz_is_headed (T : Txt w K mg) : KBz K T.d_is_headed ["thing"] 1 [] (fun ws _ => ws) := kbz_pos (T.F_is_headed.binds fun _ _ _ _ _ _ us hl => match us, hl with | [_], _ => rfl)
theorem ok_is_headed (T : Txt w K mg) : FnG P w K mg base (L2.CX P w) 3 T.a_is_headed T.d_is_headed ["thing"] (spF K ["thing"].length F_is_headed) := by
  have S := s_is_headed
  refine fn_ok (N := ["thing"]) (ps := ["thing"]) (n := 1) (k := 2) (m := m_is_headed) T.F_is_headed S rfl (fun cdv A outer s H E hr => ?_)
  exact (os_cons (os_if (PW.pt (ow_or (ot_not (ot_val (oe_callB call_isi lk_isi rfl T.g_isinstance zb_isinstance (oa_cons (ov 0) (oa_cons (oe_ty rfl T.g_tuple zb_tuple) oa_nil rfl) rfl) (by decide) (by decide) rfl rfl) (fun _ => rfl))) (ow_or (ot_cmp (op_neZ (hr.mono (Nat.zero_le _)).units) lk_ne rfl (oe_callB call_len lk_len rfl T.g_len zb_len (oa_cons (ov 0) oa_nil rfl) (by decide) (by decide) rfl rfl) oe_int) (ow_or1 (ot_not (ot_val (oe_call (ok_is_name T) (hr.mono (by first | decide | omega)) rfl T.g_is_name T.F_is_name.kp (bz_is_name T) (takes_of rfl rfl rfl rfl) (oa_cons (oe_ix ix_seq lk_ix (fun _ _ => rfl) (ov 0) oe_int) oa_nil rfl) ok_nil rfl rfl rfl rfl (by decide) rfl rfl) (fun _ => rfl))))))) (os_cons (os_ret oe_bl) os_nil) os_nil) (os_cons (os_if (ot_not (ot_val (oe_call (ok_are_unlike_names T) (hr.mono (by first | decide | omega)) rfl T.g_are_unlike_names T.F_are_unlike_names.kp (bz_are_unlike_names_1_most T) (takes_of rfl rfl rfl rfl) (oa_cons (oe_ix ix_seq lk_ix (fun _ _ => rfl) (ov 0) oe_int) oa_nil rfl) (ok_cons (oe_gl rfl T.k_MOST_NAMES) ok_nil) rfl rfl rfl rfl (by decide) rfl rfl) (fun _ => rfl))) (os_cons (os_ret oe_bl) os_nil) os_nil) (os_cons (os_ret (oe_and (oe_callB call_isi lk_isi rfl T.g_isinstance zb_isinstance (oa_cons (oe_ix ix_seq lk_ix (fun _ _ => rfl) (ov 0) oe_int) (oa_cons (oe_ty rfl T.g_tuple zb_tuple) oa_nil rfl) rfl) (by decide) (by decide) rfl rfl) (oe_one (oe_chn oe_int (ok_link op_le lk_ord (oe_callB call_len lk_len rfl T.g_len zb_len (oa_cons (oe_ix ix_seq lk_ix (fun _ _ => rfl) (ov 0) oe_int) oa_nil rfl) (by decide) (by decide) rfl rfl) (ok_last op_le lk_ord (oe_gl rfl T.k_MOST_LONG))))))) os_nil)))
theorem s_is_program : FnScope ["thing", "called", "part", "name", "names", "rows", "at", "row"] ["thing"] (defScope D20.1) := ⟨rfl, rfl, rfl, by decide +kernel, rfl, by decide +kernel, by decide +kernel⟩
theorem bz_is_program (T : Txt w K mg) : KBz K T.d_is_program ["thing"] 1 [] (fun ws _ => ws) := kbz_pos (T.F_is_program.binds fun _ _ _ _ _ _ us hl => match us, hl with | [_], _ => rfl)
theorem ok_is_program (T : Txt w K mg) : FnG P w K mg base (L2.CX P w) 4 T.a_is_program T.d_is_program ["thing"] (spF K ["thing"].length F_is_program) := by
  have S := s_is_program
  refine fn_ok (N := ["thing", "called", "part", "name", "names", "rows", "at", "row"]) (ps := ["thing"]) (n := 8) (k := 3) (m := m_is_program) T.F_is_program S rfl (fun cdv A outer s H E hr => ?_)
  exact (os_cons (os_if (PW.pt (ow_or (ot_not (ot_val (oe_callB call_isi lk_isi rfl T.g_isinstance zb_isinstance (oa_cons (ov 0) (oa_cons (oe_ty rfl T.g_tuple zb_tuple) oa_nil rfl) rfl) (by decide) (by decide) rfl rfl) (fun _ => rfl))) (ow_or1 (ot_not (ot_val (oe_callB (cr_all rfl) lk_all rfl T.g_all zb_all (oa_cons (oe_lc (own := [("part", 2)]) (sl := [2]) rfl S.nd (oi_val (ov 0)) (blkOk_by (N := ["thing", "called", "part", "name", "names", "rows", "at", "row"]) (sc := defScope D20.1) (own := [("part", 2)]) (by decide +kernel)) (by decide) (fun _ _ _ _ _ => (og_name (i := 2) S.nd rfl (by first | exact Or.inl rfl | exact Or.inr rfl) (by first | exact Or.inl rfl | exact Or.inr rfl))) (fun _ _ _ _ _ => ots_nil) (fun _ _ _ _ _ => (oe_call (ok_is_headed T) (hr.mono (by first | decide | omega)) rfl T.g_is_headed T.F_is_headed.kp (bz_is_headed T) takesW (oa_cons (ov 2) oa_nil rfl) ok_nil rfl rfl rfl rfl (by decide) rfl rfl)) (fun _ => rfl)) oa_nil rfl) (by decide) (by decide) rfl rfl) (fun _ => rfl)))))) (os_cons (os_ret oe_bl) os_nil) os_nil) (os_cons (os_set (i := 1) S.nd rfl (by first | exact Or.inl rfl | exact Or.inr rfl) (oe_callTy call_tupleF lk_tpl rfl T.g_tuple zb_tuple (oa_cons (oe_lc (own := [("part", 2)]) (sl := [2]) rfl S.nd (oi_val (ov 0)) (blkOk_by (N := ["thing", "called", "part", "name", "names", "rows", "at", "row"]) (sc := defScope D20.1) (own := [("part", 2)]) (by decide +kernel)) (by decide) (fun _ _ _ _ _ => (og_name (i := 2) S.nd rfl (by first | exact Or.inl rfl | exact Or.inr rfl) (by first | exact Or.inl rfl | exact Or.inr rfl))) (fun _ _ _ _ _ => ots_nil) (fun _ _ _ _ _ => (oe_ix ix_seq lk_ix (fun _ _ => rfl) (ov 2) oe_int)) (fun _ => rfl)) oa_nil rfl) (by decide) (by decide) rfl rfl) rfl (by first | exact Or.inl rfl | exact Or.inr rfl)) (os_cons (os_if (ot_not (ot_val (oe_call (ok_are_unlike_names T) (hr.mono (by first | decide | omega)) rfl T.g_are_unlike_names T.F_are_unlike_names.kp (bz_are_unlike_names_1_most_least T) (takes_of rfl rfl rfl rfl) (oa_cons (ov 1) oa_nil rfl) (ok_cons (oe_gl rfl T.k_MOST_PARTS) (ok_cons oe_int ok_nil)) rfl rfl rfl rfl (by decide) rfl rfl) (fun _ => rfl))) (os_cons (os_ret oe_bl) os_nil) os_nil) (os_cons (os_ret (oe_callB (cr_all rfl) lk_all rfl T.g_all zb_all (oa_cons (oe_lc2 (own := [("name", 3), ("names", 4), ("rows", 5), ("at", 6), ("row", 7)]) (vs1 := [6, 7]) (sl := [3, 4, 5]) (sl1 := [6, 7]) rfl S.nd (oi_val (ov 0)) (blkOk_by (N := ["thing", "called", "part", "name", "names", "rows", "at", "row"]) (sc := defScope D20.1) (own := [("name", 3), ("names", 4), ("rows", 5), ("at", 6), ("row", 7)]) (by decide +kernel)) (by decide) (by decide) (by decide) (fun _ _ _ _ _ => (og_tup rfl (ogs_cons (og_name (i := 3) S.nd rfl (by first | exact Or.inl rfl | exact Or.inr rfl) (by first | exact Or.inl rfl | exact Or.inr rfl)) (ogs_cons (og_name (i := 4) S.nd rfl (by first | exact Or.inl rfl | exact Or.inr rfl) (by first | exact Or.inl rfl | exact Or.inr rfl)) (ogs_cons (og_name (i := 5) S.nd rfl (by first | exact Or.inl rfl | exact Or.inr rfl) (by first | exact Or.inl rfl | exact Or.inr rfl)) ogs_nil rfl) rfl) rfl) rfl rfl)) (fun _ _ _ _ _ => ots_nil) (fun _ _ _ _ _ => (oi_en rfl T.g_enumerate (oa_cons (ov 5) oa_nil rfl))) (fun _ _ _ _ _ => (og_tup rfl (ogs_cons (og_name (i := 6) S.nd rfl (by first | exact Or.inl rfl | exact Or.inr rfl) (by first | exact Or.inl rfl | exact Or.inr rfl)) (ogs_cons (og_name (i := 7) S.nd rfl (by first | exact Or.inl rfl | exact Or.inr rfl) (by first | exact Or.inl rfl | exact Or.inr rfl)) ogs_nil rfl) rfl) rfl rfl)) (fun _ _ _ _ _ => ots_nil) (fun _ _ _ _ _ => (oe_call (ok_is_row T) (hr.mono (by first | decide | omega)) rfl T.g_is_row T.F_is_row.kp (bz_is_row T) takesW (oa_cons (ov 7) (oa_cons (ov 6) (oa_cons (ov 5) (oa_cons (ov 1) oa_nil rfl) rfl) rfl) rfl) ok_nil rfl rfl rfl rfl (by decide) rfl rfl)) (fun _ => rfl) (fun _ _ => rfl)) oa_nil rfl) (by decide) (by decide) rfl rfl)) os_nil))))
theorem s_look_program : FnScope ["thing"] ["thing"] (defScope D21.1) := ⟨rfl, rfl, rfl, by decide +kernel, rfl, by decide +kernel, by decide +kernel⟩
theorem bz_look_program (T : Txt w K mg) : KBz K T.d_look_program ["thing"] 1 [] (fun ws _ => ws) := kbz_pos (T.F_look_program.binds fun _ _ _ _ _ _ us hl => match us, hl with | [_], _ => rfl)
theorem ok_look_program (T : Txt w K mg) : FnG P w K mg base (L2.CX P w) 5 T.a_look_program T.d_look_program ["thing"] (spF K ["thing"].length F_look_program) := by
  have S := s_look_program
  refine fn_ok (N := ["thing"]) (ps := ["thing"]) (n := 1) (k := 4) (m := m_look_program) T.F_look_program S rfl (fun cdv A outer s H E hr => ?_)
  exact (os_cons (os_if (ot_not (ot_val (oe_call (ok_is_program T) (hr.mono (by first | decide | omega)) rfl T.g_is_program T.F_is_program.kp (bz_is_program T) (takes_of rfl rfl rfl rfl) (oa_cons (ov 0) oa_nil rfl) ok_nil rfl rfl rfl rfl (by decide) rfl rfl) (fun _ => rfl))) (os_cons os_bad os_nil) os_nil) os_nil)
theorem s_show_row : FnScope ["number", "row", "word"] ["number", "row"] (defScope D28.1) := ⟨rfl, rfl, rfl, by decide +kernel, rfl, by decide +kernel, by decide +kernel⟩
theorem bz_show_row (T : Txt w K mg) : KBz K T.d_show_row ["number", "row"] 2 [] (fun ws _ => ws) := kbz_pos (T.F_show_row.binds fun _ _ _ _ _ _ us hl => match us, hl with | [_, _], _ => rfl)
theorem ok_show_row (T : Txt w K mg) : FnG P w K mg base (L2.CX P w) 1 T.a_show_row T.d_show_row ["number", "row"] (spF K ["number", "row"].length F_show_row) := by
  have S := s_show_row
  refine fn_ok (N := ["number", "row", "word"]) (ps := ["number", "row"]) (n := 3) (k := 0) (m := m_show_row) T.F_show_row S rfl (fun cdv A outer s H E hr => ?_)
  exact (os_cons (os_ret (oe_sm1 PySem.F.slot_str_join PySem.F.type_str_join mt_join lk_join oe_str (oe_op op_addZ lk_add (oe_lst (oa_cons (oe_sm1 PySem.F.slot_str_zfill PySem.F.type_str_zfill mt_zfill lk_zfill (oe_callTy call_strZ lk_str rfl T.g_str zb_str (oa_cons (ov 0) oa_nil rfl) (by decide) (by decide) rfl rfl) oe_int rfl rfl rfl) oa_nil rfl)) (oe_lc (own := [("word", 2)]) (sl := [2]) rfl S.nd (oi_val (ov 1)) (blkOk_by (N := ["number", "row", "word"]) (sc := defScope D28.1) (own := [("word", 2)]) (by decide +kernel)) (by decide) (fun _ _ _ _ _ => (og_name (i := 2) S.nd rfl (by first | exact Or.inl rfl | exact Or.inr rfl) (by first | exact Or.inl rfl | exact Or.inr rfl))) (fun _ _ _ _ _ => ots_nil) (fun _ _ _ _ _ => (oe_callTy call_strZ lk_str rfl T.g_str zb_str (oa_cons (ov 2) oa_nil rfl) (by decide) (by decide) rfl rfl)) (fun _ => rfl))) rfl rfl rfl)) os_nil)
theorem s_show_program : FnScope ["program", "found", "name", "names", "rows", "number", "row"] ["program"] (defScope D29.1) := ⟨rfl, rfl, rfl, by decide +kernel, rfl, by decide +kernel, by decide +kernel⟩
theorem bz_show_program (T : Txt w K mg) : KBz K T.d_show_program ["program"] 1 [] (fun ws _ => ws) := kbz_pos (T.F_show_program.binds fun _ _ _ _ _ _ us hl => match us, hl with | [_], _ => rfl)
theorem ok_show_program (T : Txt w K mg) : FnG P w K mg base (L2.CX P w) 6 T.a_show_program T.d_show_program ["program"] (spF K ["program"].length F_show_program) := by
  have S := s_show_program
  refine fn_ok (N := ["program", "found", "name", "names", "rows", "number", "row"]) (ps := ["program"]) (n := 7) (k := 5) (m := m_show_program) T.F_show_program S rfl (fun cdv A outer s H E hr => ?_)
  exact (os_cons (os_expr (oe_call (ok_look_program T) (hr.mono (by first | decide | omega)) rfl T.g_look_program T.F_look_program.kp (bz_look_program T) (takes_of rfl rfl rfl rfl) (oa_cons (ov 0) oa_nil rfl) ok_nil rfl rfl rfl rfl (by decide) rfl rfl) rfl) (os_cons (os_set (i := 1) S.nd rfl (by first | exact Or.inl rfl | exact Or.inr rfl) (oe_new oa_nil) rfl (by first | exact Or.inl rfl | exact Or.inr rfl)) (os_cons (os_for (passes_of rfl) rfl (oi_val (ov 0)) (og_tup rfl (ogs_cons (og_name (i := 2) S.nd rfl (by first | exact Or.inl rfl | exact Or.inr rfl) (by first | exact Or.inl rfl | exact Or.inr rfl)) (ogs_cons (og_name (i := 3) S.nd rfl (by first | exact Or.inl rfl | exact Or.inr rfl) (by first | exact Or.inl rfl | exact Or.inr rfl)) (ogs_cons (og_name (i := 4) S.nd rfl (by first | exact Or.inl rfl | exact Or.inr rfl) (by first | exact Or.inl rfl | exact Or.inr rfl)) ogs_nil rfl) rfl) rfl) rfl rfl) (os_cons (os_expr (oe_mtL PySem.F.slot_list_append PySem.F.type_list_append mt_append lk_app (ov 1) (oa_cons (oe_sm1 PySem.F.slot_str_join PySem.F.type_str_join mt_join lk_join oe_str (oe_op op_addZ lk_add (oe_tup (oa_cons oe_str (oa_cons (ov 2) oa_nil rfl) rfl)) (ov 3)) rfl rfl rfl) oa_nil rfl)) rfl) (os_cons (os_expr (oe_mtL PySem.F.slot_list_extend PySem.F.type_list_extend mt_extend lk_ext (ov 1) (oa_cons (oe_lc (own := [("number", 5), ("row", 6)]) (sl := [5, 6]) rfl S.nd (oi_en rfl T.g_enumerate (oa_cons (ov 4) oa_nil rfl)) (blkOk_by (N := ["program", "found", "name", "names", "rows", "number", "row"]) (sc := defScope D29.1) (own := [("number", 5), ("row", 6)]) (by decide +kernel)) (by decide) (fun _ _ _ _ _ => (og_tup rfl (ogs_cons (og_name (i := 5) S.nd rfl (by first | exact Or.inl rfl | exact Or.inr rfl) (by first | exact Or.inl rfl | exact Or.inr rfl)) (ogs_cons (og_name (i := 6) S.nd rfl (by first | exact Or.inl rfl | exact Or.inr rfl) (by first | exact Or.inl rfl | exact Or.inr rfl)) ogs_nil rfl) rfl) rfl rfl)) (fun _ _ _ _ _ => ots_nil) (fun _ _ _ _ _ => (oe_call (ok_show_row T) (hr.mono (by first | decide | omega)) rfl T.g_show_row T.F_show_row.kp (bz_show_row T) takesW (oa_cons (ov 5) (oa_cons (ov 6) oa_nil rfl) rfl) ok_nil rfl rfl rfl rfl (by decide) rfl rfl)) (fun _ => rfl)) oa_nil rfl)) rfl) os_nil)) (fun _ => rfl)) (os_cons (os_ret (oe_sm1 PySem.F.slot_str_join PySem.F.type_str_join mt_join lk_join oe_str (ov 1) rfl rfl rfl)) os_nil))))
theorem s_number_in : FnScope ["text", "figures", "sign"] ["text", "figures"] (defScope D30.1) := ⟨rfl, rfl, rfl, by decide +kernel, rfl, by decide +kernel, by decide +kernel⟩
theorem bz_number_in (T : Txt w K mg) : KBz K T.d_number_in ["text", "figures"] 2 [] (fun ws _ => ws) := kbz_pos (T.F_number_in.binds fun _ _ _ _ _ _ us hl => match us, hl with | [_, _], _ => rfl)
theorem ok_number_in (T : Txt w K mg) : FnG P w K mg base (L2.CX P w) 1 T.a_number_in T.d_number_in ["text", "figures"] (spF K ["text", "figures"].length F_number_in) := by
  have S := s_number_in
  refine fn_ok (N := ["text", "figures", "sign"]) (ps := ["text", "figures"]) (n := 3) (k := 0) (m := m_number_in) T.F_number_in S rfl (fun cdv A outer s H E hr => ?_)
  exact (os_cons (os_if (PW.pt (ow_or (ot_not (ot_chn oe_int (ok_link op_le lk_ord (oe_callB call_len lk_len rfl T.g_len zb_len (oa_cons (ov 0) oa_nil rfl) (by decide) (by decide) rfl rfl) (ok_last op_le lk_ord (oe_gl rfl T.k_MOST_FIGURES))))) (ow_or1 (ot_not (ot_val (oe_callB (cr_all rfl) lk_all rfl T.g_all zb_all (oa_cons (oe_lc (own := [("sign", 2)]) (sl := [2]) rfl S.nd (oi_val (ov 0)) (blkOk_by (N := ["text", "figures", "sign"]) (sc := defScope D30.1) (own := [("sign", 2)]) (by decide +kernel)) (by decide) (fun _ _ _ _ _ => (og_name (i := 2) S.nd rfl (by first | exact Or.inl rfl | exact Or.inr rfl) (by first | exact Or.inl rfl | exact Or.inr rfl))) (fun _ _ _ _ _ => ots_nil) (fun _ _ _ _ _ => (oe_cmp op_inZ (lk_in false) rfl (ov 2) (ov 1))) (fun _ => rfl)) oa_nil rfl) (by decide) (by decide) rfl rfl) (fun _ => rfl)))))) (os_cons (os_ret oe_non) os_nil) os_nil) (os_cons (os_if (PW.pt (ow_and (ot_cmp (op_eqZ (hr.mono (Nat.zero_le _)).units) lk_eq rfl (oe_ix ix_seq lk_ix (fun _ _ => rfl) (ov 0) oe_int) oe_str) (ow_and1 (ot_cmp op_gt lk_ord rfl (oe_callB call_len lk_len rfl T.g_len zb_len (oa_cons (ov 0) oa_nil rfl) (by decide) (by decide) rfl rfl) oe_int)))) (os_cons (os_ret oe_non) os_nil) os_nil) (os_cons (os_ret (oe_callTy call_intX lk_intX rfl T.g_int zb_int (oa_cons (ov 0) (oa_cons (oe_callB call_len lk_len rfl T.g_len zb_len (oa_cons (ov 1) oa_nil rfl) (by decide) (by decide) rfl rfl) oa_nil rfl) rfl) (by decide) (by decide) rfl rfl)) os_nil)))
theorem s_read_row_number : FnScope ["text"] ["text"] (defScope D31.1) := ⟨rfl, rfl, rfl, by decide +kernel, rfl, by decide +kernel, by decide +kernel⟩
theorem bz_read_row_number (T : Txt w K mg) : KBz K T.d_read_row_number ["text"] 1 [] (fun ws _ => ws) := kbz_pos (T.F_read_row_number.binds fun _ _ _ _ _ _ us hl => match us, hl with | [_], _ => rfl)
theorem ok_read_row_number (T : Txt w K mg) : FnG P w K mg base (L2.CX P w) 2 T.a_read_row_number T.d_read_row_number ["text"] (spF K ["text"].length F_read_row_number) := by
  have S := s_read_row_number
  refine fn_ok (N := ["text"]) (ps := ["text"]) (n := 1) (k := 1) (m := m_read_row_number) T.F_read_row_number S rfl (fun cdv A outer s H E hr => ?_)
  exact (os_cons (os_ret (oe_call (ok_number_in T) (hr.mono (by first | decide | omega)) rfl T.g_number_in T.F_number_in.kp (bz_number_in T) (takes_of rfl rfl rfl rfl) (oa_cons (ov 0) (oa_cons (oe_gl rfl T.k_FIGURES) oa_nil rfl) rfl) ok_nil rfl rfl rfl rfl (by decide) rfl rfl)) os_nil)
theorem s_read_worth : FnScope ["text", "bare", "found"] ["text"] (defScope D32.1) := ⟨rfl, rfl, rfl, by decide +kernel, rfl, by decide +kernel, by decide +kernel⟩
theorem bz_read_worth (T : Txt w K mg) : KBz K T.d_read_worth ["text"] 1 [] (fun ws _ => ws) := kbz_pos (T.F_read_worth.binds fun _ _ _ _ _ _ us hl => match us, hl with | [_], _ => rfl)
theorem ok_read_worth (T : Txt w K mg) : FnG P w K mg base (L2.CX P w) 2 T.a_read_worth T.d_read_worth ["text"] (spF K ["text"].length F_read_worth) := by
  have S := s_read_worth
  refine fn_ok (N := ["text", "bare", "found"]) (ps := ["text"]) (n := 3) (k := 1) (m := m_read_worth) T.F_read_worth S rfl (fun cdv A outer s H E hr => ?_)
  exact (os_cons (os_set (i := 1) S.nd rfl (by first | exact Or.inl rfl | exact Or.inr rfl) (oe_if (ot_val (oe_sm1 PySem.F.slot_str_startswith PySem.F.type_str_startswith mt_startswith lk_starts (ov 0) oe_str rfl rfl rfl) (fun _ => rfl)) (oe_sl (ov 0) (oo_some oe_int) oo_none) (ov 0)) rfl (by first | exact Or.inl rfl | exact Or.inr rfl)) (os_cons (os_set (i := 2) S.nd rfl (by first | exact Or.inl rfl | exact Or.inr rfl) (oe_if (ot_val (oe_sm1 PySem.F.slot_str_startswith PySem.F.type_str_startswith mt_startswith lk_starts (ov 1) oe_str rfl rfl rfl) (fun _ => rfl)) (oe_call (ok_number_in T) (hr.mono (by first | decide | omega)) rfl T.g_number_in T.F_number_in.kp (bz_number_in T) (takes_of rfl rfl rfl rfl) (oa_cons (oe_sl (ov 1) (oo_some oe_int) oo_none) (oa_cons (oe_gl rfl T.k_SIXTEEN) oa_nil rfl) rfl) ok_nil rfl rfl rfl rfl (by decide) rfl rfl) (oe_call (ok_number_in T) (hr.mono (by first | decide | omega)) rfl T.g_number_in T.F_number_in.kp (bz_number_in T) (takes_of rfl rfl rfl rfl) (oa_cons (ov 1) (oa_cons (oe_gl rfl T.k_FIGURES) oa_nil rfl) rfl) ok_nil rfl rfl rfl rfl (by decide) rfl rfl)) rfl (by first | exact Or.inl rfl | exact Or.inr rfl)) (os_cons (os_if (PW.pt (ow_or (ot_cmp op_isN lk_is rfl (ov 2) oe_non) (ow_or1 (ot_cmp (op_eqZ (hr.mono (Nat.zero_le _)).units) lk_eq rfl (ov 1) (ov 0))))) (os_cons (os_ret (ov 2)) os_nil) os_nil) (os_cons (os_ret (oe_if (ot_cmp op_gt lk_ord rfl (ov 2) oe_int) (oe_un un_neg lk_neg (ov 2)) oe_non)) os_nil))))
theorem s_read_name : FnScope ["text"] ["text"] (defScope D33.1) := ⟨rfl, rfl, rfl, by decide +kernel, rfl, by decide +kernel, by decide +kernel⟩
theorem bz_read_name (T : Txt w K mg) : KBz K T.d_read_name ["text"] 1 [] (fun ws _ => ws) := kbz_pos (T.F_read_name.binds fun _ _ _ _ _ _ us hl => match us, hl with | [_], _ => rfl)
theorem ok_read_name (T : Txt w K mg) : FnG P w K mg base (L2.CX P w) 2 T.a_read_name T.d_read_name ["text"] (spF K ["text"].length F_read_name) := by
  have S := s_read_name
  refine fn_ok (N := ["text"]) (ps := ["text"]) (n := 1) (k := 1) (m := m_read_name) T.F_read_name S rfl (fun cdv A outer s H E hr => ?_)
  exact (os_cons (os_ret (oe_if (ot_val (oe_call (ok_is_name T) (hr.mono (by first | decide | omega)) rfl T.g_is_name T.F_is_name.kp (bz_is_name T) (takes_of rfl rfl rfl rfl) (oa_cons (ov 0) oa_nil rfl) ok_nil rfl rfl rfl rfl (by decide) rfl rfl) (fun _ => rfl)) (ov 0) oe_non)) os_nil)
theorem s_row_of : FnScope ["words", "read", "thing"] ["words"] (defScope D35.1) := ⟨rfl, rfl, rfl, by decide +kernel, rfl, by decide +kernel, by decide +kernel⟩
theorem bz_row_of (T : Txt w K mg) : KBz K T.d_row_of ["words"] 1 [] (fun ws _ => ws) := kbz_pos (T.F_row_of.binds fun _ _ _ _ _ _ us hl => match us, hl with | [_], _ => rfl)
theorem ok_row_of (T : Txt w K mg) : FnG P w K mg base (L2.CX P w) 3 T.a_row_of T.d_row_of ["words"] (spF K ["words"].length (F_row_of T.C_READS T.a_read_name T.a_read_row_number T.a_read_worth)) := by
  have S := s_row_of
  refine fn_ok (N := ["words", "read", "thing"]) (ps := ["words"]) (n := 3) (k := 2) (m := m_row_of T.C_READS T.a_read_name T.a_read_row_number T.a_read_worth) T.F_row_of S rfl (fun cdv A outer s H E hr => ?_)
  exact (os_cons (os_if (PW.pt (ow_and (ot_cmp (op_eqZ (hr.mono (Nat.zero_le _)).units) lk_eq rfl (oe_callB call_len lk_len rfl T.g_len zb_len (oa_cons (ov 0) oa_nil rfl) (by decide) (by decide) rfl rfl) oe_int) (ow_and1 (ot_cmp op_inZ (lk_in false) rfl (oe_ix ix_seq lk_ix (fun _ _ => rfl) (ov 0) oe_int) (oe_gl rfl T.k_BARE))))) (os_cons (os_ret (oe_tup (oa_cons (oe_ix ix_seq lk_ix (fun _ _ => rfl) (ov 0) oe_int) oa_nil rfl))) os_nil) os_nil) (os_cons (os_if (PW.pt (ow_or (ot_cmp (op_neZ (hr.mono (Nat.zero_le _)).units) lk_ne rfl (oe_callB call_len lk_len rfl T.g_len zb_len (oa_cons (ov 0) oa_nil rfl) (by decide) (by decide) rfl rfl) oe_int) (ow_or1 (ot_cmp (op_notKinE T.d_READS (keys_of (kvs_READS T))) (lk_kin true _ _) rfl (oe_ix ix_seq lk_ix (fun _ _ => rfl) (ov 0) oe_int) (oe_glob (v := .ref T.C_READS) rfl T.g_READS rfl (fun _ _ _ => .glo _) (by decide)))))) (os_cons (os_ret oe_non) os_nil) os_nil) (os_cons (os_set (i := 1) S.nd rfl (by first | exact Or.inl rfl | exact Or.inr rfl) (oe_ix (ix_kgetE T.d_READS (kvs_READS T)) (lk_kget _ _) (fun _ _ => rfl) (oe_glob (v := .ref T.C_READS) rfl T.g_READS rfl (fun _ _ _ => .glo _) (by decide)) (oe_ix ix_seq lk_ix (fun _ _ => rfl) (ov 0) oe_int)) rfl (by first | exact Or.inl rfl | exact Or.inr rfl)) (os_cons (os_set (i := 2) S.nd rfl (by first | exact Or.inl rfl | exact Or.inr rfl) (oe_callL (k := 2) (hr.mono (by first | decide | omega)) (takes_of rfl rfl rfl rfl) (fun a F hm => by simp only [List.mem_cons, List.not_mem_nil, or_false, Prod.mk.injEq] at hm; rcases hm with ⟨rfl, rfl⟩ | ⟨rfl, rfl⟩ | ⟨rfl, rfl⟩ <;> first | exact ⟨_, _, rfl, (ok_read_worth T).mono (by decide), T.F_read_worth.kp, bz_read_worth T⟩ | exact ⟨_, _, rfl, (ok_read_name T).mono (by decide), T.F_read_name.kp, bz_read_name T⟩ | exact ⟨_, _, rfl, (ok_read_row_number T).mono (by decide), T.F_read_row_number.kp, bz_read_row_number T⟩) (ov 1) (oa_cons (oe_ix ix_seq lk_ix (fun _ _ => rfl) (ov 0) oe_int) oa_nil rfl) rfl rfl) rfl (by first | exact Or.inl rfl | exact Or.inr rfl)) (os_cons (os_ret (oe_if (ot_cmp op_isN lk_is rfl (ov 2) oe_non) oe_non (oe_tup (oa_cons (oe_ix ix_seq lk_ix (fun _ _ => rfl) (ov 0) oe_int) (oa_cons (ov 2) oa_nil rfl) rfl)))) os_nil)))))
theorem s_begins_part : FnScope ["parts", "names", "first", "rest", "name"] ["parts", "names"] (defScope D36.1) := ⟨rfl, rfl, rfl, by decide +kernel, rfl, by decide +kernel, by decide +kernel⟩
theorem bz_begins_part (T : Txt w K mg) : KBz K T.d_begins_part ["parts", "names"] 2 [] (fun ws _ => ws) := kbz_pos (T.F_begins_part.binds fun _ _ _ _ _ _ us hl => match us, hl with | [_, _], _ => rfl)
theorem ok_begins_part (T : Txt w K mg) : FnG P w K mg base (L2.CX P w) 2 T.a_begins_part T.d_begins_part ["parts", "names"] (spF K ["parts", "names"].length F_begins_part) := by
  have S := s_begins_part
  refine fn_ok (N := ["parts", "names", "first", "rest", "name"]) (ps := ["parts", "names"]) (n := 5) (k := 1) (m := m_begins_part) T.F_begins_part S rfl (fun cdv A outer s H E hr => ?_)
  exact (os_cons (os_if (PW.pt (ow_or (ot_cmp (op_eqM hr.units) (lk_eqD false) rfl (ov 1) (oe_lst oa_nil)) (ow_or (ot_not (ot_val (oe_callB (cr_all rfl) lk_all rfl T.g_all zb_all (oa_cons (oe_lc (own := [("name", 4)]) (sl := [4]) rfl S.nd (oi_val (ov 1)) (blkOk_by (N := ["parts", "names", "first", "rest", "name"]) (sc := defScope D36.1) (own := [("name", 4)]) (by decide +kernel)) (by decide) (fun _ _ _ _ _ => (og_name (i := 4) S.nd rfl (by first | exact Or.inl rfl | exact Or.inr rfl) (by first | exact Or.inl rfl | exact Or.inr rfl))) (fun _ _ _ _ _ => ots_nil) (fun _ _ _ _ _ => (oe_call (ok_is_name T) (hr.mono (by first | decide | omega)) rfl T.g_is_name T.F_is_name.kp (bz_is_name T) takesW (oa_cons (ov 4) oa_nil rfl) ok_nil rfl rfl rfl rfl (by decide) rfl rfl)) (fun _ => rfl)) oa_nil rfl) (by decide) (by decide) rfl rfl) (fun _ => rfl))) (ow_or1 (PW.pt (ow_and (ot_cmp (op_neM hr.units) (lk_eqD true) rfl (ov 0) (oe_lst oa_nil)) (ow_and1 (ot_cmp (op_eqM hr.units) (lk_eqD false) rfl (oe_ix ix_seq lk_ix (fun _ _ => rfl) (oe_ix ix_seq lk_ix (fun _ _ => rfl) (ov 0) (oe_un un_neg lk_neg oe_int)) oe_int) (oe_lst oa_nil))))))))) (os_cons (os_ret oe_bl) os_nil) os_nil) (os_cons (os_asg (ov 1) (og_star rfl (ogs_cons (og_name (i := 2) S.nd rfl (by first | exact Or.inl rfl | exact Or.inr rfl) (by first | exact Or.inl rfl | exact Or.inr rfl)) (ogs_cons (og_name (i := 3) S.nd rfl (by first | exact Or.inl rfl | exact Or.inr rfl) (by first | exact Or.inl rfl | exact Or.inr rfl)) ogs_nil rfl) rfl) rfl rfl) rfl rfl rfl) (os_cons (os_expr (oe_mtL PySem.F.slot_list_append PySem.F.type_list_append mt_append lk_app (ov 0) (oa_cons (oe_tup (oa_cons (ov 2) (oa_cons (oe_callTy call_tupleF lk_tpl rfl T.g_tuple zb_tuple (oa_cons (ov 3) oa_nil rfl) (by decide) (by decide) rfl rfl) (oa_cons (oe_new oa_nil) oa_nil rfl) rfl) rfl)) oa_nil rfl)) rfl) (os_cons (os_ret oe_bl) os_nil))))
theorem s_stands : FnScope ["parts", "words", "first", "rest", "row"] ["parts", "words"] (defScope D37.1) := ⟨rfl, rfl, rfl, by decide +kernel, rfl, by decide +kernel, by decide +kernel⟩
theorem bz_stands (T : Txt w K mg) : KBz K T.d_stands ["parts", "words"] 2 [] (fun ws _ => ws) := kbz_pos (T.F_stands.binds fun _ _ _ _ _ _ us hl => match us, hl with | [_, _], _ => rfl)
theorem ok_stands (T : Txt w K mg) : FnG P w K mg base (L2.CX P w) 4 T.a_stands T.d_stands ["parts", "words"] (spF K ["parts", "words"].length (F_stands T.C_READS T.a_read_name T.a_read_row_number T.a_read_worth)) := by
  have S := s_stands
  refine fn_ok (N := ["parts", "words", "first", "rest", "row"]) (ps := ["parts", "words"]) (n := 5) (k := 3) (m := m_stands T.C_READS T.a_read_name T.a_read_row_number T.a_read_worth) T.F_stands S rfl (fun cdv A outer s H E hr => ?_)
  exact (os_cons (os_asg (ov 1) (og_star rfl (ogs_cons (og_name (i := 2) S.nd rfl (by first | exact Or.inl rfl | exact Or.inr rfl) (by first | exact Or.inl rfl | exact Or.inr rfl)) (ogs_cons (og_name (i := 3) S.nd rfl (by first | exact Or.inl rfl | exact Or.inr rfl) (by first | exact Or.inl rfl | exact Or.inr rfl)) ogs_nil rfl) rfl) rfl rfl) rfl rfl rfl) (os_cons (os_if (ot_cmp (op_eqZ (hr.mono (Nat.zero_le _)).units) lk_eq rfl (ov 2) oe_str) (os_cons (os_ret (oe_call (ok_begins_part T) (hr.mono (by first | decide | omega)) rfl T.g_begins_part T.F_begins_part.kp (bz_begins_part T) (takes_of rfl rfl rfl rfl) (oa_cons (ov 0) (oa_cons (ov 3) oa_nil rfl) rfl) ok_nil rfl rfl rfl rfl (by decide) rfl rfl)) os_nil) os_nil) (os_cons (os_if (PW.pt (ow_or (ot_cmp (op_eqM hr.units) (lk_eqD false) rfl (ov 0) (oe_lst oa_nil)) (ow_or (ot_cmp (op_eqZ (hr.mono (Nat.zero_le _)).units) lk_eq rfl (oe_callB call_len lk_len rfl T.g_len zb_len (oa_cons (oe_ix ix_seq lk_ix (fun _ _ => rfl) (oe_ix ix_seq lk_ix (fun _ _ => rfl) (ov 0) (oe_un un_neg lk_neg oe_int)) oe_int) oa_nil rfl) (by decide) (by decide) rfl rfl) (oe_gl rfl T.k_MOST_WRITTEN)) (ow_or1 (ot_cmp (op_neZ (hr.mono (Nat.zero_le _)).units) lk_ne rfl (ov 2) (oe_sm1 PySem.F.slot_str_zfill PySem.F.type_str_zfill mt_zfill lk_zfill (oe_callTy call_strZ lk_str rfl T.g_str zb_str (oa_cons (oe_callB call_len lk_len rfl T.g_len zb_len (oa_cons (oe_ix ix_seq lk_ix (fun _ _ => rfl) (oe_ix ix_seq lk_ix (fun _ _ => rfl) (ov 0) (oe_un un_neg lk_neg oe_int)) oe_int) oa_nil rfl) (by decide) (by decide) rfl rfl) oa_nil rfl) (by decide) (by decide) rfl rfl) oe_int rfl rfl rfl)))))) (os_cons (os_ret oe_bl) os_nil) os_nil) (os_cons (os_set (i := 4) S.nd rfl (by first | exact Or.inl rfl | exact Or.inr rfl) (oe_call (ok_row_of T) (hr.mono (by first | decide | omega)) rfl T.g_row_of T.F_row_of.kp (bz_row_of T) (takes_of rfl rfl rfl rfl) (oa_cons (ov 3) oa_nil rfl) ok_nil rfl rfl rfl rfl (by decide) rfl rfl) rfl (by first | exact Or.inl rfl | exact Or.inr rfl)) (os_cons (os_if (ot_cmp op_isN lk_is rfl (ov 4) oe_non) (os_cons (os_ret oe_bl) os_nil) os_nil) (os_cons (os_expr (oe_mtL PySem.F.slot_list_append PySem.F.type_list_append mt_append lk_app (oe_ix ix_seq lk_ix (fun _ _ => rfl) (oe_ix ix_seq lk_ix (fun _ _ => rfl) (ov 0) (oe_un un_neg lk_neg oe_int)) oe_int) (oa_cons (ov 4) oa_nil rfl)) rfl) (os_cons (os_ret oe_bl) os_nil)))))))
theorem s_read_program : FnScope ["text", "parts", "listed", "at", "row", "found", "name", "names", "rows"] ["text"] (defScope D38.1) := ⟨rfl, rfl, rfl, by decide +kernel, rfl, by decide +kernel, by decide +kernel⟩
theorem bz_read_program (T : Txt w K mg) : KBz K T.d_read_program ["text"] 1 [] (fun ws _ => ws) := kbz_pos (T.F_read_program.binds fun _ _ _ _ _ _ us hl => match us, hl with | [_], _ => rfl)
theorem ok_read_program (T : Txt w K mg) : FnG P w K mg base (L2.CX P w) 5 T.a_read_program T.d_read_program ["text"] (spF K ["text"].length (F_read_program T.C_READS T.a_read_name T.a_read_row_number T.a_read_worth)) := by
  have S := s_read_program
  refine fn_ok (N := ["text", "parts", "listed", "at", "row", "found", "name", "names", "rows"]) (ps := ["text"]) (n := 9) (k := 4) (m := m_read_program T.C_READS T.a_read_name T.a_read_row_number T.a_read_worth) T.F_read_program S rfl (fun cdv A outer s H E hr => ?_)
  exact (os_cons (os_if (ot_not (ot_val (oe_callB call_isi lk_isi rfl T.g_isinstance zb_isinstance (oa_cons (ov 0) (oa_cons (oe_ty rfl T.g_str zb_str) oa_nil rfl) rfl) (by decide) (by decide) rfl rfl) (fun _ => rfl))) (os_cons os_bad os_nil) os_nil) (os_cons (os_set (i := 1) S.nd rfl (by first | exact Or.inl rfl | exact Or.inr rfl) (oe_new oa_nil) rfl (by first | exact Or.inl rfl | exact Or.inr rfl)) (os_cons (os_set (i := 2) S.nd rfl (by first | exact Or.inl rfl | exact Or.inr rfl) (oe_sm1 PySem.F.slot_str_split PySem.F.type_str_split mt_split lk_split (ov 0) oe_str rfl rfl rfl) rfl (by first | exact Or.inl rfl | exact Or.inr rfl)) (os_cons (os_for (passes_of rfl) rfl (oi_en rfl T.g_enumerate (oa_cons (ov 2) oa_nil rfl)) (og_tup rfl (ogs_cons (og_name (i := 3) S.nd rfl (by first | exact Or.inl rfl | exact Or.inr rfl) (by first | exact Or.inl rfl | exact Or.inr rfl)) (ogs_cons (og_name (i := 4) S.nd rfl (by first | exact Or.inl rfl | exact Or.inr rfl) (by first | exact Or.inl rfl | exact Or.inr rfl)) ogs_nil rfl) rfl) rfl rfl) (os_cons (os_if (ot_not (ot_val (oe_call (ok_stands T) (hr.mono (by first | decide | omega)) rfl T.g_stands T.F_stands.kp (bz_stands T) (takes_of rfl rfl rfl rfl) (oa_cons (ov 1) (oa_cons (oe_sm1 PySem.F.slot_str_split PySem.F.type_str_split mt_split lk_split (ov 4) oe_str rfl rfl rfl) oa_nil rfl) rfl) ok_nil rfl rfl rfl rfl (by decide) rfl rfl) (fun _ => rfl))) (os_cons os_bad os_nil) os_nil) os_nil) (fun _ => rfl)) (os_cons (os_if (ot_cmp (op_eqM hr.units) (lk_eqD false) rfl (oe_ix ix_seq lk_ix (fun _ _ => rfl) (oe_ix ix_seq lk_ix (fun _ _ => rfl) (ov 1) (oe_un un_neg lk_neg oe_int)) oe_int) (oe_lst oa_nil)) (os_cons os_bad os_nil) os_nil) (os_cons (os_set (i := 5) S.nd rfl (by first | exact Or.inl rfl | exact Or.inr rfl) (oe_callTy call_tupleF lk_tpl rfl T.g_tuple zb_tuple (oa_cons (oe_lc (own := [("name", 6), ("names", 7), ("rows", 8)]) (sl := [6, 7, 8]) rfl S.nd (oi_val (ov 1)) (blkOk_by (N := ["text", "parts", "listed", "at", "row", "found", "name", "names", "rows"]) (sc := defScope D38.1) (own := [("name", 6), ("names", 7), ("rows", 8)]) (by decide +kernel)) (by decide) (fun _ _ _ _ _ => (og_tup rfl (ogs_cons (og_name (i := 6) S.nd rfl (by first | exact Or.inl rfl | exact Or.inr rfl) (by first | exact Or.inl rfl | exact Or.inr rfl)) (ogs_cons (og_name (i := 7) S.nd rfl (by first | exact Or.inl rfl | exact Or.inr rfl) (by first | exact Or.inl rfl | exact Or.inr rfl)) (ogs_cons (og_name (i := 8) S.nd rfl (by first | exact Or.inl rfl | exact Or.inr rfl) (by first | exact Or.inl rfl | exact Or.inr rfl)) ogs_nil rfl) rfl) rfl) rfl rfl)) (fun _ _ _ _ _ => ots_nil) (fun _ _ _ _ _ => (oe_tup (oa_cons (ov 6) (oa_cons (ov 7) (oa_cons (oe_callTy call_tupleF lk_tpl rfl T.g_tuple zb_tuple (oa_cons (ov 8) oa_nil rfl) (by decide) (by decide) rfl rfl) oa_nil rfl) rfl) rfl))) (fun _ => rfl)) oa_nil rfl) (by decide) (by decide) rfl rfl) rfl (by first | exact Or.inl rfl | exact Or.inr rfl)) (os_cons (os_if (ot_not (ot_val (oe_call (ok_is_program T) (hr.mono (by first | decide | omega)) rfl T.g_is_program T.F_is_program.kp (bz_is_program T) (takes_of rfl rfl rfl rfl) (oa_cons (ov 5) oa_nil rfl) ok_nil rfl rfl rfl rfl (by decide) rfl rfl) (fun _ => rfl))) (os_cons os_bad os_nil) os_nil) (os_cons (os_ret (ov 5)) os_nil))))))))
theorem s__law_bag : FnScope ["_law_script", "_law_at", "_law_cell", "_law_mix", "_law_k"] ["_law_script", "_law_at"] (defScope D40.1) := ⟨rfl, rfl, rfl, by decide +kernel, rfl, by decide +kernel, by decide +kernel⟩
theorem bz__law_bag (T : Txt w K mg) : KBz K T.d__law_bag ["_law_script", "_law_at"] 2 [] (fun ws _ => ws) := kbz_pos (T.F__law_bag.binds fun _ _ _ _ _ _ us hl => match us, hl with | [_, _], _ => rfl)
theorem ok__law_bag (T : Txt w K mg) : FnG P w K mg base (L2.CX P w) 1 T.a__law_bag T.d__law_bag ["_law_script", "_law_at"] (spF K ["_law_script", "_law_at"].length F__law_bag) := by
  have S := s__law_bag
  refine fn_ok (N := ["_law_script", "_law_at", "_law_cell", "_law_mix", "_law_k"]) (ps := ["_law_script", "_law_at"]) (n := 5) (k := 0) (m := m__law_bag) T.F__law_bag S rfl (fun cdv A outer s H E hr => ?_)
  exact (os_cons (os_set (i := 2) S.nd rfl (by first | exact Or.inl rfl | exact Or.inr rfl) oe_int rfl (by first | exact Or.inl rfl | exact Or.inr rfl)) (os_cons (os_if (ot_cmp op_lt lk_ord rfl (ov 1) (oe_callB call_len lk_len rfl T.g_len zb_len (oa_cons (ov 0) oa_nil rfl) (by decide) (by decide) rfl rfl)) (os_cons (os_set (i := 2) S.nd rfl (by first | exact Or.inl rfl | exact Or.inr rfl) (oe_callB call_abs lk_abs rfl T.g_abs zb_abs (oa_cons (oe_ix ix_seq lk_ix (fun _ _ => rfl) (ov 0) (ov 1)) oa_nil rfl) (by decide) (by decide) rfl rfl) rfl (by first | exact Or.inl rfl | exact Or.inr rfl)) os_nil) os_nil) (os_cons (os_set (i := 3) S.nd rfl (by first | exact Or.inl rfl | exact Or.inr rfl) (oe_op op_modZ lk_mod (oe_op op_powW lk_pow (oe_op op_addZ lk_add (oe_op op_addZ lk_add (oe_op op_modZ lk_mod (ov 2) oe_int) (oe_op op_mulZ lk_mul oe_int (ov 1))) oe_int) oe_int) oe_int) rfl (by first | exact Or.inl rfl | exact Or.inr rfl)) (os_cons (os_for (passes_of rfl) rfl (oi_rg1 rfl T.g_range (oa_cons (oe_callB (call_min2 rfl) lk_min rfl T.g_min zb_min (oa_cons (oe_callB call_len lk_len rfl T.g_len zb_len (oa_cons (ov 0) oa_nil rfl) (by decide) (by decide) rfl rfl) (oa_cons oe_int oa_nil rfl) rfl) (by decide) (by decide) rfl rfl) oa_nil rfl)) (og_name (i := 4) S.nd rfl (by first | exact Or.inl rfl | exact Or.inr rfl) (by first | exact Or.inl rfl | exact Or.inr rfl)) (os_cons (os_set (i := 3) S.nd rfl (by first | exact Or.inl rfl | exact Or.inr rfl) (oe_op op_modZ lk_mod (oe_op op_addZ lk_add (oe_op op_addZ lk_add (oe_op op_mulZ lk_mul (ov 3) oe_int) (oe_op op_mulZ lk_mul (oe_op op_modZ lk_mod (oe_ix ix_seq lk_ix (fun _ _ => rfl) (ov 0) (ov 4)) oe_int) (oe_op op_addZ lk_add (ov 4) oe_int))) (ov 4)) oe_int) rfl (by first | exact Or.inl rfl | exact Or.inr rfl)) os_nil) (fun _ => rfl)) (os_cons (os_if (ot_cmp op_lt lk_ord rfl (ov 2) (oe_op op_powW lk_pow oe_int oe_int)) (os_cons (os_set (i := 2) S.nd rfl (by first | exact Or.inl rfl | exact Or.inr rfl) oe_int rfl (by first | exact Or.inl rfl | exact Or.inr rfl)) os_nil) os_nil) (os_cons (os_ret (oe_new (oa_cons (ov 2) (oa_cons (ov 3) oa_nil rfl) rfl))) os_nil))))))
theorem s__law_take : FnScope ["_law_bag_here", "_law_many", "_law_digit"] ["_law_bag_here", "_law_many"] (defScope D41.1) := ⟨rfl, rfl, rfl, by decide +kernel, rfl, by decide +kernel, by decide +kernel⟩
theorem bz__law_take (T : Txt w K mg) : KBz K T.d__law_take ["_law_bag_here", "_law_many"] 2 [] (fun ws _ => ws) := kbz_pos (T.F__law_take.binds fun _ _ _ _ _ _ us hl => match us, hl with | [_, _], _ => rfl)
theorem ok__law_take (T : Txt w K mg) : FnG P w K mg base (L2.CX P w) 1 T.a__law_take T.d__law_take ["_law_bag_here", "_law_many"] (spF K ["_law_bag_here", "_law_many"].length F__law_take) := by
  have S := s__law_take
  refine fn_ok (N := ["_law_bag_here", "_law_many", "_law_digit"]) (ps := ["_law_bag_here", "_law_many"]) (n := 3) (k := 0) (m := m__law_take) T.F__law_take S rfl (fun cdv A outer s H E hr => ?_)
  exact (os_cons (os_if (ot_cmp op_gt lk_ord rfl (oe_ix ix_seq lk_ix (fun _ _ => rfl) (ov 0) oe_int) oe_int) (os_cons (os_set (i := 2) S.nd rfl (by first | exact Or.inl rfl | exact Or.inr rfl) (oe_op op_modZ lk_mod (oe_ix ix_seq lk_ix (fun _ _ => rfl) (ov 0) oe_int) (ov 1)) rfl (by first | exact Or.inl rfl | exact Or.inr rfl)) (os_cons (os_asg (oe_op op_divZ lk_div (oe_ix ix_seq lk_ix (fun _ _ => rfl) (ov 0) oe_int) (ov 1)) (og_sub (ov 0) oe_int) rfl rfl rfl) (os_cons (os_ret (ov 2)) os_nil))) os_nil) (os_cons (os_asg (oe_op op_modZ lk_mod (oe_op op_addZ lk_add (oe_op op_mulZ lk_mul (oe_ix ix_seq lk_ix (fun _ _ => rfl) (ov 0) oe_int) oe_int) oe_int) oe_int) (og_sub (ov 0) oe_int) rfl rfl rfl) (os_cons (os_ret (oe_op op_modZ lk_mod (oe_op op_modZ lk_mod (oe_op op_mulZ lk_mul (oe_op op_divZ lk_div (oe_op op_modZ lk_mod (oe_op op_powW lk_pow (oe_ix ix_seq lk_ix (fun _ _ => rfl) (ov 0) oe_int) oe_int) oe_int) oe_int) oe_int) oe_int) (ov 1))) os_nil)))
theorem s__law_names : FnScope ["_law_bag_here", "_law_many", "_law_letters", "_law_found", "_law_k", "_law_own", "_law_words", "_law_name", "_law_j"] ["_law_bag_here", "_law_many"] (defScope D42.1) := ⟨rfl, rfl, rfl, by decide +kernel, rfl, by decide +kernel, by decide +kernel⟩
theorem bz__law_names (T : Txt w K mg) : KBz K T.d__law_names ["_law_bag_here", "_law_many"] 2 [] (fun ws _ => ws) := kbz_pos (T.F__law_names.binds fun _ _ _ _ _ _ us hl => match us, hl with | [_, _], _ => rfl)
theorem ok__law_names (T : Txt w K mg) : FnG P w K mg base (L2.CX P w) 2 T.a__law_names T.d__law_names ["_law_bag_here", "_law_many"] (spF K ["_law_bag_here", "_law_many"].length F__law_names) := by
  have S := s__law_names
  refine fn_ok (N := ["_law_bag_here", "_law_many", "_law_letters", "_law_found", "_law_k", "_law_own", "_law_words", "_law_name", "_law_j"]) (ps := ["_law_bag_here", "_law_many"]) (n := 9) (k := 1) (m := m__law_names) T.F__law_names S rfl (fun cdv A outer s H E hr => ?_)
  exact (os_cons (os_set (i := 2) S.nd rfl (by first | exact Or.inl rfl | exact Or.inr rfl) oe_str rfl (by first | exact Or.inl rfl | exact Or.inr rfl)) (os_cons (os_set (i := 3) S.nd rfl (by first | exact Or.inl rfl | exact Or.inr rfl) (oe_new oa_nil) rfl (by first | exact Or.inl rfl | exact Or.inr rfl)) (os_cons (os_for (passes_of rfl) rfl (oi_rg1 rfl T.g_range (oa_cons (ov 1) oa_nil rfl)) (og_name (i := 4) S.nd rfl (by first | exact Or.inl rfl | exact Or.inr rfl) (by first | exact Or.inl rfl | exact Or.inr rfl)) (os_cons (os_set (i := 5) S.nd rfl (by first | exact Or.inl rfl | exact Or.inr rfl) (oe_op op_addZ lk_add (oe_sm1 PySem.F.slot_str_join PySem.F.type_str_join mt_join lk_join oe_str (oe_lc (own := [("_law_j", 8)]) (sl := [8]) rfl S.nd (oi_rg1 rfl T.g_range (oa_cons (oe_call (ok__law_take T) (hr.mono (by first | decide | omega)) rfl T.g__law_take T.F__law_take.kp (bz__law_take T) (takes_of rfl rfl rfl rfl) (oa_cons (ov 0) (oa_cons oe_int oa_nil rfl) rfl) ok_nil rfl rfl rfl rfl (by decide) rfl rfl) oa_nil rfl)) (blkOk_by (N := ["_law_bag_here", "_law_many", "_law_letters", "_law_found", "_law_k", "_law_own", "_law_words", "_law_name", "_law_j"]) (sc := defScope D42.1) (own := [("_law_j", 8)]) (by decide +kernel)) (by decide) (fun _ _ _ _ _ => (og_name (i := 8) S.nd rfl (by first | exact Or.inl rfl | exact Or.inr rfl) (by first | exact Or.inl rfl | exact Or.inr rfl))) (fun _ _ _ _ _ => ots_nil) (fun _ _ _ _ _ => (oe_ix ix_seq lk_ix (fun _ _ => rfl) (ov 2) (oe_call (ok__law_take T) (hr.mono (by first | decide | omega)) rfl T.g__law_take T.F__law_take.kp (bz__law_take T) takesW (oa_cons (ov 0) (oa_cons oe_int oa_nil rfl) rfl) ok_nil rfl rfl rfl rfl (by decide) rfl rfl))) (fun _ => rfl)) rfl rfl rfl) (oe_ix ix_seq lk_ix (fun _ _ => rfl) oe_str (ov 4))) rfl (by first | exact Or.inl rfl | exact Or.inr rfl)) (os_cons (os_set (i := 6) S.nd rfl (by first | exact Or.inl rfl | exact Or.inr rfl) (oe_lst (oa_cons oe_str (oa_cons oe_str (oa_cons oe_str (oa_cons oe_str (oa_cons oe_str (oa_cons oe_str (oa_cons oe_str (oa_cons oe_str oa_nil rfl) rfl) rfl) rfl) rfl) rfl) rfl) rfl)) rfl (by first | exact Or.inl rfl | exact Or.inr rfl)) (os_cons (os_expr (oe_mtL PySem.F.slot_list_append PySem.F.type_list_append mt_append lk_app (ov 3) (oa_cons (oe_ix ix_seq lk_ix (fun _ _ => rfl) (oe_lst (oa_cons (ov 5) (oa_cons (oe_ix ix_seq lk_ix (fun _ _ => rfl) (ov 6) (ov 4)) oa_nil rfl) rfl)) (oe_callTy call_int1 lk_int rfl T.g_int zb_int (oa_cons (oe_cmp (op_eqZ (hr.mono (Nat.zero_le _)).units) lk_eq rfl (oe_call (ok__law_take T) (hr.mono (by first | decide | omega)) rfl T.g__law_take T.F__law_take.kp (bz__law_take T) (takes_of rfl rfl rfl rfl) (oa_cons (ov 0) (oa_cons oe_int oa_nil rfl) rfl) ok_nil rfl rfl rfl rfl (by decide) rfl rfl) oe_int) oa_nil rfl) (by decide) (by decide) rfl rfl)) oa_nil rfl)) rfl) os_nil))) (fun _ => rfl)) (os_cons (os_ret (oe_lc (own := [("_law_k", 4), ("_law_name", 7)]) (sl := [4, 7]) rfl S.nd (oi_en rfl T.g_enumerate (oa_cons (ov 3) oa_nil rfl)) (blkOk_by (N := ["_law_bag_here", "_law_many", "_law_letters", "_law_found", "_law_k", "_law_own", "_law_words", "_law_name", "_law_j"]) (sc := defScope D42.1) (own := [("_law_k", 4), ("_law_name", 7)]) (by decide +kernel)) (by decide) (fun _ _ _ _ _ => (og_tup rfl (ogs_cons (og_name (i := 4) S.nd rfl (by first | exact Or.inl rfl | exact Or.inr rfl) (by first | exact Or.inl rfl | exact Or.inr rfl)) (ogs_cons (og_name (i := 7) S.nd rfl (by first | exact Or.inl rfl | exact Or.inr rfl) (by first | exact Or.inl rfl | exact Or.inr rfl)) ogs_nil rfl) rfl) rfl rfl)) (fun _ _ _ _ _ => (ots_one (ot_cmp op_notInZ (lk_in true) rfl (ov 7) (oe_sl (ov 3) oo_none (oo_some (ov 4)))))) (fun _ _ _ _ _ => (ov 7)) (fun _ => rfl))) os_nil))))
theorem s__law_worth : FnScope ["_law_bag_here", "_law_way", "_law_great"] ["_law_bag_here"] (defScope D43.1) := ⟨rfl, rfl, rfl, by decide +kernel, rfl, by decide +kernel, by decide +kernel⟩
theorem bz__law_worth (T : Txt w K mg) : KBz K T.d__law_worth ["_law_bag_here"] 1 [] (fun ws _ => ws) := kbz_pos (T.F__law_worth.binds fun _ _ _ _ _ _ us hl => match us, hl with | [_], _ => rfl)
theorem ok__law_worth (T : Txt w K mg) : FnG P w K mg base (L2.CX P w) 2 T.a__law_worth T.d__law_worth ["_law_bag_here"] (spF K ["_law_bag_here"].length F__law_worth) := by
  have S := s__law_worth
  refine fn_ok (N := ["_law_bag_here", "_law_way", "_law_great"]) (ps := ["_law_bag_here"]) (n := 3) (k := 1) (m := m__law_worth) T.F__law_worth S rfl (fun cdv A outer s H E hr => ?_)
  exact (os_cons (os_set (i := 1) S.nd rfl (by first | exact Or.inl rfl | exact Or.inr rfl) (oe_call (ok__law_take T) (hr.mono (by first | decide | omega)) rfl T.g__law_take T.F__law_take.kp (bz__law_take T) (takes_of rfl rfl rfl rfl) (oa_cons (ov 0) (oa_cons oe_int oa_nil rfl) rfl) ok_nil rfl rfl rfl rfl (by decide) rfl rfl) rfl (by first | exact Or.inl rfl | exact Or.inr rfl)) (os_cons (os_if (ot_cmp op_lt lk_ord rfl (ov 1) oe_int) (os_cons (os_ret (oe_op op_sub lk_sub (oe_call (ok__law_take T) (hr.mono (by first | decide | omega)) rfl T.g__law_take T.F__law_take.kp (bz__law_take T) (takes_of rfl rfl rfl rfl) (oa_cons (ov 0) (oa_cons oe_int oa_nil rfl) rfl) ok_nil rfl rfl rfl rfl (by decide) rfl rfl) oe_int)) os_nil) os_nil) (os_cons (os_set (i := 2) S.nd rfl (by first | exact Or.inl rfl | exact Or.inr rfl) (oe_ix ix_seq lk_ix (fun _ _ => rfl) (oe_lst (oa_cons (oe_call (ok__law_take T) (hr.mono (by first | decide | omega)) rfl T.g__law_take T.F__law_take.kp (bz__law_take T) (takes_of rfl rfl rfl rfl) (oa_cons (ov 0) (oa_cons (oe_op op_powW lk_pow oe_int oe_int) oa_nil rfl) rfl) ok_nil rfl rfl rfl rfl (by decide) rfl rfl) (oa_cons (oe_op op_powW lk_pow oe_int oe_int) (oa_cons (oe_op op_sub lk_sub (oe_op op_powW lk_pow oe_int oe_int) (oe_call (ok__law_take T) (hr.mono (by first | decide | omega)) rfl T.g__law_take T.F__law_take.kp (bz__law_take T) (takes_of rfl rfl rfl rfl) (oa_cons (ov 0) (oa_cons (oe_op op_powW lk_pow oe_int oe_int) oa_nil rfl) rfl) ok_nil rfl rfl rfl rfl (by decide) rfl rfl)) oa_nil rfl) rfl) rfl)) (oe_op op_sub lk_sub (ov 1) oe_int)) rfl (by first | exact Or.inl rfl | exact Or.inr rfl)) (os_cons (os_ret (oe_op op_mulZ lk_mul (ov 2) (oe_ix ix_seq lk_ix (fun _ _ => rfl) (oe_lst (oa_cons oe_int (oa_cons (oe_un un_neg lk_neg oe_int) oa_nil rfl) rfl)) (oe_call (ok__law_take T) (hr.mono (by first | decide | omega)) rfl T.g__law_take T.F__law_take.kp (bz__law_take T) (takes_of rfl rfl rfl rfl) (oa_cons (ov 0) (oa_cons oe_int oa_nil rfl) rfl) ok_nil rfl rfl rfl rfl (by decide) rfl rfl)))) os_nil))))
theorem s__law_row : FnScope ["_law_bag_here", "_law_parts", "_law_at", "_law_many", "_law_way", "_law_words", "_law_goal", "_law_word"] ["_law_bag_here", "_law_parts", "_law_at", "_law_many"] (defScope D44.1) := ⟨rfl, rfl, rfl, by decide +kernel, rfl, by decide +kernel, by decide +kernel⟩
theorem bz__law_row (T : Txt w K mg) : KBz K T.d__law_row ["_law_bag_here", "_law_parts", "_law_at", "_law_many"] 4 [] (fun ws _ => ws) := kbz_pos (T.F__law_row.binds fun _ _ _ _ _ _ us hl => match us, hl with | [_, _, _, _], _ => rfl)
theorem ok__law_row (T : Txt w K mg) : FnG P w K mg base (L2.CX P w) 3 T.a__law_row T.d__law_row ["_law_bag_here", "_law_parts", "_law_at", "_law_many"] (spF K ["_law_bag_here", "_law_parts", "_law_at", "_law_many"].length F__law_row) := by
  have S := s__law_row
  refine fn_ok (N := ["_law_bag_here", "_law_parts", "_law_at", "_law_many", "_law_way", "_law_words", "_law_goal", "_law_word"]) (ps := ["_law_bag_here", "_law_parts", "_law_at", "_law_many"]) (n := 8) (k := 2) (m := m__law_row) T.F__law_row S rfl (fun cdv A outer s H E hr => ?_)
  exact (os_cons (os_set (i := 4) S.nd rfl (by first | exact Or.inl rfl | exact Or.inr rfl) (oe_call (ok__law_take T) (hr.mono (by first | decide | omega)) rfl T.g__law_take T.F__law_take.kp (bz__law_take T) (takes_of rfl rfl rfl rfl) (oa_cons (ov 0) (oa_cons oe_int oa_nil rfl) rfl) ok_nil rfl rfl rfl rfl (by decide) rfl rfl) rfl (by first | exact Or.inl rfl | exact Or.inr rfl)) (os_cons (os_if (ot_cmp (op_eqZ (hr.mono (Nat.zero_le _)).units) lk_eq rfl (ov 4) oe_int) (os_cons (os_ret (oe_tup (oa_cons oe_str (oa_cons (oe_call (ok__law_worth T) (hr.mono (by first | decide | omega)) rfl T.g__law_worth T.F__law_worth.kp (bz__law_worth T) (takes_of rfl rfl rfl rfl) (oa_cons (ov 0) oa_nil rfl) ok_nil rfl rfl rfl rfl (by decide) rfl rfl) oa_nil rfl) rfl))) os_nil) os_nil) (os_cons (os_if (ot_cmp (op_eqZ (hr.mono (Nat.zero_le _)).units) lk_eq rfl (ov 4) oe_int) (os_cons (os_ret (oe_tup (oa_cons oe_str (oa_cons (oe_ix ix_seq lk_ix (fun _ _ => rfl) (ov 1) (oe_call (ok__law_take T) (hr.mono (by first | decide | omega)) rfl T.g__law_take T.F__law_take.kp (bz__law_take T) (takes_of rfl rfl rfl rfl) (oa_cons (ov 0) (oa_cons (oe_callB call_len lk_len rfl T.g_len zb_len (oa_cons (ov 1) oa_nil rfl) (by decide) (by decide) rfl rfl) oa_nil rfl) rfl) ok_nil rfl rfl rfl rfl (by decide) rfl rfl)) oa_nil rfl) rfl))) os_nil) os_nil) (os_cons (os_if (ot_cmp (op_eqZ (hr.mono (Nat.zero_le _)).units) lk_eq rfl (ov 4) oe_int) (os_cons (os_set (i := 6) S.nd rfl (by first | exact Or.inl rfl | exact Or.inr rfl) (oe_call (ok__law_take T) (hr.mono (by first | decide | omega)) rfl T.g__law_take T.F__law_take.kp (bz__law_take T) (takes_of rfl rfl rfl rfl) (oa_cons (ov 0) (oa_cons (ov 3) oa_nil rfl) rfl) ok_nil rfl rfl rfl rfl (by decide) rfl rfl) rfl (by first | exact Or.inl rfl | exact Or.inr rfl)) (os_cons (os_set (i := 7) S.nd rfl (by first | exact Or.inl rfl | exact Or.inr rfl) (oe_ix ix_seq lk_ix (fun _ _ => rfl) (oe_lst (oa_cons oe_str (oa_cons oe_str (oa_cons oe_str oa_nil rfl) rfl) rfl)) (oe_call (ok__law_take T) (hr.mono (by first | decide | omega)) rfl T.g__law_take T.F__law_take.kp (bz__law_take T) (takes_of rfl rfl rfl rfl) (oa_cons (ov 0) (oa_cons oe_int oa_nil rfl) rfl) ok_nil rfl rfl rfl rfl (by decide) rfl rfl)) rfl (by first | exact Or.inl rfl | exact Or.inr rfl)) (os_cons (os_ret (oe_tup (oa_cons (oe_if (ot_cmp (op_neZ (hr.mono (Nat.zero_le _)).units) lk_ne rfl (ov 6) (oe_op op_addZ lk_add (ov 2) oe_int)) (ov 7) oe_str) (oa_cons (ov 6) oa_nil rfl) rfl))) os_nil))) os_nil) (os_cons (os_if (ot_cmp (op_eqZ (hr.mono (Nat.zero_le _)).units) lk_eq rfl (ov 4) oe_int) (os_cons (os_ret (oe_tup (oa_cons (oe_ix ix_seq lk_ix (fun _ _ => rfl) (oe_lst (oa_cons oe_str (oa_cons oe_str (oa_cons oe_str (oa_cons oe_str oa_nil rfl) rfl) rfl) rfl)) (oe_call (ok__law_take T) (hr.mono (by first | decide | omega)) rfl T.g__law_take T.F__law_take.kp (bz__law_take T) (takes_of rfl rfl rfl rfl) (oa_cons (ov 0) (oa_cons oe_int oa_nil rfl) rfl) ok_nil rfl rfl rfl rfl (by decide) rfl rfl)) (oa_cons (oe_ix ix_seq lk_ix (fun _ _ => rfl) (oe_call (ok__law_names T) (hr.mono (by first | decide | omega)) rfl T.g__law_names T.F__law_names.kp (bz__law_names T) (takes_of rfl rfl rfl rfl) (oa_cons (ov 0) (oa_cons oe_int oa_nil rfl) rfl) ok_nil rfl rfl rfl rfl (by decide) rfl rfl) oe_int) oa_nil rfl) rfl))) os_nil) os_nil) (os_cons (os_set (i := 5) S.nd rfl (by first | exact Or.inl rfl | exact Or.inr rfl) (oe_lst (oa_cons oe_str (oa_cons oe_str (oa_cons oe_str (oa_cons oe_str (oa_cons oe_str (oa_cons oe_str (oa_cons oe_str (oa_cons oe_str (oa_cons oe_str (oa_cons oe_str (oa_cons oe_str (oa_cons oe_str (oa_cons oe_str oa_nil rfl) rfl) rfl) rfl) rfl) rfl) rfl) rfl) rfl) rfl) rfl) rfl) rfl)) rfl (by first | exact Or.inl rfl | exact Or.inr rfl)) (os_cons (os_ret (oe_tup (oa_cons (oe_ix ix_seq lk_ix (fun _ _ => rfl) (oe_op op_addZ lk_add (ov 5) (oe_lst (oa_cons oe_str (oa_cons oe_str oa_nil rfl) rfl))) (oe_call (ok__law_take T) (hr.mono (by first | decide | omega)) rfl T.g__law_take T.F__law_take.kp (bz__law_take T) (takes_of rfl rfl rfl rfl) (oa_cons (ov 0) (oa_cons oe_int oa_nil rfl) rfl) ok_nil rfl rfl rfl rfl (by decide) rfl rfl)) oa_nil rfl))) os_nil)))))))
theorem s__law_program : FnScope ["_law_bag_here", "_law_parts", "_law_found", "_law_name", "_law_many", "_law_names_here", "_law_at"] ["_law_bag_here"] (defScope D45.1) := ⟨rfl, rfl, rfl, by decide +kernel, rfl, by decide +kernel, by decide +kernel⟩
theorem bz__law_program (T : Txt w K mg) : KBz K T.d__law_program ["_law_bag_here"] 1 [] (fun ws _ => ws) := kbz_pos (T.F__law_program.binds fun _ _ _ _ _ _ us hl => match us, hl with | [_], _ => rfl)
theorem ok__law_program (T : Txt w K mg) : FnG P w K mg base (L2.CX P w) 4 T.a__law_program T.d__law_program ["_law_bag_here"] (spF K ["_law_bag_here"].length F__law_program) := by
  have S := s__law_program
  refine fn_ok (N := ["_law_bag_here", "_law_parts", "_law_found", "_law_name", "_law_many", "_law_names_here", "_law_at"]) (ps := ["_law_bag_here"]) (n := 7) (k := 3) (m := m__law_program) T.F__law_program S rfl (fun cdv A outer s H E hr => ?_)
  exact (os_cons (os_set (i := 1) S.nd rfl (by first | exact Or.inl rfl | exact Or.inr rfl) (oe_call (ok__law_names T) (hr.mono (by first | decide | omega)) rfl T.g__law_names T.F__law_names.kp (bz__law_names T) (takes_of rfl rfl rfl rfl) (oa_cons (ov 0) (oa_cons (oe_ix ix_seq lk_ix (fun _ _ => rfl) (oe_lst (oa_cons oe_int (oa_cons oe_int (oa_cons oe_int (oa_cons oe_int oa_nil rfl) rfl) rfl) rfl)) (oe_call (ok__law_take T) (hr.mono (by first | decide | omega)) rfl T.g__law_take T.F__law_take.kp (bz__law_take T) (takes_of rfl rfl rfl rfl) (oa_cons (ov 0) (oa_cons oe_int oa_nil rfl) rfl) ok_nil rfl rfl rfl rfl (by decide) rfl rfl)) oa_nil rfl) rfl) ok_nil rfl rfl rfl rfl (by decide) rfl rfl) rfl (by first | exact Or.inl rfl | exact Or.inr rfl)) (os_cons (os_set (i := 2) S.nd rfl (by first | exact Or.inl rfl | exact Or.inr rfl) (oe_new oa_nil) rfl (by first | exact Or.inl rfl | exact Or.inr rfl)) (os_cons (os_for (passes_of rfl) rfl (oi_val (ov 1)) (og_name (i := 3) S.nd rfl (by first | exact Or.inl rfl | exact Or.inr rfl) (by first | exact Or.inl rfl | exact Or.inr rfl)) (os_cons (os_set (i := 4) S.nd rfl (by first | exact Or.inl rfl | exact Or.inr rfl) (oe_op op_addZ lk_add oe_int (oe_call (ok__law_take T) (hr.mono (by first | decide | omega)) rfl T.g__law_take T.F__law_take.kp (bz__law_take T) (takes_of rfl rfl rfl rfl) (oa_cons (ov 0) (oa_cons (oe_ix ix_seq lk_ix (fun _ _ => rfl) (oe_lst (oa_cons oe_int (oa_cons oe_int (oa_cons oe_int (oa_cons oe_int oa_nil rfl) rfl) rfl) rfl)) (oe_call (ok__law_take T) (hr.mono (by first | decide | omega)) rfl T.g__law_take T.F__law_take.kp (bz__law_take T) (takes_of rfl rfl rfl rfl) (oa_cons (ov 0) (oa_cons oe_int oa_nil rfl) rfl) ok_nil rfl rfl rfl rfl (by decide) rfl rfl)) oa_nil rfl) rfl) ok_nil rfl rfl rfl rfl (by decide) rfl rfl)) rfl (by first | exact Or.inl rfl | exact Or.inr rfl)) (os_cons (os_set (i := 5) S.nd rfl (by first | exact Or.inl rfl | exact Or.inr rfl) (oe_callTy call_tupleF lk_tpl rfl T.g_tuple zb_tuple (oa_cons (oe_call (ok__law_names T) (hr.mono (by first | decide | omega)) rfl T.g__law_names T.F__law_names.kp (bz__law_names T) (takes_of rfl rfl rfl rfl) (oa_cons (ov 0) (oa_cons (oe_call (ok__law_take T) (hr.mono (by first | decide | omega)) rfl T.g__law_take T.F__law_take.kp (bz__law_take T) (takes_of rfl rfl rfl rfl) (oa_cons (ov 0) (oa_cons oe_int oa_nil rfl) rfl) ok_nil rfl rfl rfl rfl (by decide) rfl rfl) oa_nil rfl) rfl) ok_nil rfl rfl rfl rfl (by decide) rfl rfl) oa_nil rfl) (by decide) (by decide) rfl rfl) rfl (by first | exact Or.inl rfl | exact Or.inr rfl)) (os_cons (os_expr (oe_mtL PySem.F.slot_list_append PySem.F.type_list_append mt_append lk_app (ov 2) (oa_cons (oe_tup (oa_cons (ov 3) (oa_cons (ov 5) (oa_cons (oe_callTy call_tupleF lk_tpl rfl T.g_tuple zb_tuple (oa_cons (oe_lc (own := [("_law_at", 6)]) (sl := [6]) rfl S.nd (oi_rg1 rfl T.g_range (oa_cons (ov 4) oa_nil rfl)) (blkOk_by (N := ["_law_bag_here", "_law_parts", "_law_found", "_law_name", "_law_many", "_law_names_here", "_law_at"]) (sc := defScope D45.1) (own := [("_law_at", 6)]) (by decide +kernel)) (by decide) (fun _ _ _ _ _ => (og_name (i := 6) S.nd rfl (by first | exact Or.inl rfl | exact Or.inr rfl) (by first | exact Or.inl rfl | exact Or.inr rfl))) (fun _ _ _ _ _ => ots_nil) (fun _ _ _ _ _ => (oe_call (ok__law_row T) (hr.mono (by first | decide | omega)) rfl T.g__law_row T.F__law_row.kp (bz__law_row T) takesW (oa_cons (ov 0) (oa_cons (ov 1) (oa_cons (ov 6) (oa_cons (ov 4) oa_nil rfl) rfl) rfl) rfl) ok_nil rfl rfl rfl rfl (by decide) rfl rfl)) (fun _ => rfl)) oa_nil rfl) (by decide) (by decide) rfl rfl) oa_nil rfl) rfl) rfl)) oa_nil rfl)) rfl) os_nil))) (fun _ => rfl)) (os_cons (os_ret (oe_callTy call_tupleF lk_tpl rfl T.g_tuple zb_tuple (oa_cons (ov 2) oa_nil rfl) (by decide) (by decide) rfl rfl)) os_nil))))
theorem s__law_figures : FnScope ["_law_number", "_law_text_here"] ["_law_number"] (defScope D46.1) := ⟨rfl, rfl, rfl, by decide +kernel, rfl, by decide +kernel, by decide +kernel⟩
theorem bz__law_figures (T : Txt w K mg) : KBz K T.d__law_figures ["_law_number"] 1 [] (fun ws _ => ws) := kbz_pos (T.F__law_figures.binds fun _ _ _ _ _ _ us hl => match us, hl with | [_], _ => rfl)
theorem okr__law_figures (T : Txt w K mg) : ∀ n, FnG P w K mg base (L2.CX P w) (1 + n) T.a__law_figures T.d__law_figures ["_law_number"] (spF K ["_law_number"].length (F__law_figures n))
  | 0 => ⟨fun _ _ _ _ ⟨_, _, _, _, _, _, _, p⟩ => p.elim, fun _ _ _ _ _ _ _ _ _ _ _ _ _ ⟨_, _, _, _, _, _, _, p⟩ => p.elim⟩
  | n + 1 => by
    have ih := okr__law_figures T n
    have S := s__law_figures
    refine fn_ok (N := ["_law_number", "_law_text_here"]) (ps := ["_law_number"]) (n := 2) (k := 1 + n) (m := m__law_figures (F__law_figures n)) T.F__law_figures S rfl (fun cdv A outer s H E hr => ?_)
    exact (os_cons (os_if (ot_cmp op_lt lk_ord rfl (ov 0) oe_int) (os_cons (os_ret (oe_op op_addZ lk_add oe_str (oe_call ih (hr.mono (by first | decide | omega)) rfl T.g__law_figures T.F__law_figures.kp (bz__law_figures T) (takes_of rfl rfl rfl rfl) (oa_cons (oe_op op_sub lk_sub oe_int (ov 0)) oa_nil rfl) ok_nil rfl rfl rfl rfl (by decide) rfl rfl))) os_nil) os_nil) (os_cons (os_set (i := 1) S.nd rfl (by first | exact Or.inl rfl | exact Or.inr rfl) (oe_ix ix_seq lk_ix (fun _ _ => rfl) oe_str (oe_op op_modZ lk_mod (ov 0) oe_int)) rfl (by first | exact Or.inl rfl | exact Or.inr rfl)) (os_cons (os_while (n := 20) (passes_of rfl) (ot_cmp op_gt lk_ord rfl (ov 0) oe_int) (os_cons (os_set (i := 0) S.nd rfl (by first | exact Or.inl rfl | exact Or.inr rfl) (oe_op op_divZ lk_div (ov 0) oe_int) rfl (by first | exact Or.inl rfl | exact Or.inr rfl)) (os_cons (os_set (i := 1) S.nd rfl (by first | exact Or.inl rfl | exact Or.inr rfl) (oe_op op_addZ lk_add (oe_ix ix_seq lk_ix (fun _ _ => rfl) oe_str (oe_op op_modZ lk_mod (ov 0) oe_int)) (ov 1)) rfl (by first | exact Or.inl rfl | exact Or.inr rfl)) os_nil))) (os_cons (os_ret (ov 1)) os_nil))))
theorem ok__law_figures (T : Txt w K mg) : FnG P w K mg base (L2.CX P w) 3 T.a__law_figures T.d__law_figures ["_law_number"] (spF K ["_law_number"].length (F__law_figures 2)) := okr__law_figures T 2
theorem s__law_written : FnScope ["_law_program_here", "_law_rows", "_law_name", "_law_names_here", "_law_own_rows", "_law_at", "_law_row_here", "_law_words", "_law_thing"] ["_law_program_here"] (defScope D47.1) := ⟨rfl, rfl, rfl, by decide +kernel, rfl, by decide +kernel, by decide +kernel⟩
theorem bz__law_written (T : Txt w K mg) : KBz K T.d__law_written ["_law_program_here"] 1 [] (fun ws _ => ws) := kbz_pos (T.F__law_written.binds fun _ _ _ _ _ _ us hl => match us, hl with | [_], _ => rfl)
theorem ok__law_written (T : Txt w K mg) : FnG P w K mg base (L2.CX P w) 4 T.a__law_written T.d__law_written ["_law_program_here"] (spF K ["_law_program_here"].length F__law_written) := by
  have S := s__law_written
  refine fn_ok (N := ["_law_program_here", "_law_rows", "_law_name", "_law_names_here", "_law_own_rows", "_law_at", "_law_row_here", "_law_words", "_law_thing"]) (ps := ["_law_program_here"]) (n := 9) (k := 3) (m := m__law_written) T.F__law_written S rfl (fun cdv A outer s H E hr => ?_)
  exact (os_cons (os_set (i := 1) S.nd rfl (by first | exact Or.inl rfl | exact Or.inr rfl) (oe_new oa_nil) rfl (by first | exact Or.inl rfl | exact Or.inr rfl)) (os_cons (os_for (passes_of rfl) rfl (oi_val (ov 0)) (og_tup rfl (ogs_cons (og_name (i := 2) S.nd rfl (by first | exact Or.inl rfl | exact Or.inr rfl) (by first | exact Or.inl rfl | exact Or.inr rfl)) (ogs_cons (og_name (i := 3) S.nd rfl (by first | exact Or.inl rfl | exact Or.inr rfl) (by first | exact Or.inl rfl | exact Or.inr rfl)) (ogs_cons (og_name (i := 4) S.nd rfl (by first | exact Or.inl rfl | exact Or.inr rfl) (by first | exact Or.inl rfl | exact Or.inr rfl)) ogs_nil rfl) rfl) rfl) rfl rfl) (os_cons (os_expr (oe_mtL PySem.F.slot_list_append PySem.F.type_list_append mt_append lk_app (ov 1) (oa_cons (oe_sm1 PySem.F.slot_str_join PySem.F.type_str_join mt_join lk_join oe_str (oe_op op_addZ lk_add (oe_lst (oa_cons oe_str (oa_cons (ov 2) oa_nil rfl) rfl)) (oe_callTy call_list_of lk_lof rfl T.g_list zb_list (oa_cons (ov 3) oa_nil rfl) (by decide) (by decide) rfl rfl)) rfl rfl rfl) oa_nil rfl)) rfl) (os_cons (os_for (passes_of rfl) rfl (oi_en rfl T.g_enumerate (oa_cons (ov 4) oa_nil rfl)) (og_tup rfl (ogs_cons (og_name (i := 5) S.nd rfl (by first | exact Or.inl rfl | exact Or.inr rfl) (by first | exact Or.inl rfl | exact Or.inr rfl)) (ogs_cons (og_name (i := 6) S.nd rfl (by first | exact Or.inl rfl | exact Or.inr rfl) (by first | exact Or.inl rfl | exact Or.inr rfl)) ogs_nil rfl) rfl) rfl rfl) (os_cons (os_set (i := 7) S.nd rfl (by first | exact Or.inl rfl | exact Or.inr rfl) (oe_new (oa_cons (oe_sl (oe_op op_addZ lk_add oe_str (oe_call (ok__law_figures T) (hr.mono (by first | decide | omega)) rfl T.g__law_figures T.F__law_figures.kp (bz__law_figures T) (takes_of rfl rfl rfl rfl) (oa_cons (ov 5) oa_nil rfl) ok_nil rfl rfl rfl rfl (by decide) rfl rfl)) (oo_some (oe_un un_neg lk_neg oe_int)) oo_none) (oa_cons (oe_ix ix_seq lk_ix (fun _ _ => rfl) (ov 6) oe_int) oa_nil rfl) rfl)) rfl (by first | exact Or.inl rfl | exact Or.inr rfl)) (os_cons (os_for (passes_of rfl) rfl (oi_val (oe_sl (ov 6) (oo_some oe_int) oo_none)) (og_name (i := 8) S.nd rfl (by first | exact Or.inl rfl | exact Or.inr rfl) (by first | exact Or.inl rfl | exact Or.inr rfl)) (os_cons (os_expr (oe_mtL PySem.F.slot_list_append PySem.F.type_list_append mt_append lk_app (ov 7) (oa_cons (oe_if (ot_val (oe_callB call_isi lk_isi rfl T.g_isinstance zb_isinstance (oa_cons (ov 8) (oa_cons (oe_ty rfl T.g_str zb_str) oa_nil rfl) rfl) (by decide) (by decide) rfl rfl) (fun _ => rfl)) (ov 8) (oe_call (ok__law_figures T) (hr.mono (by first | decide | omega)) rfl T.g__law_figures T.F__law_figures.kp (bz__law_figures T) (takes_of rfl rfl rfl rfl) (oa_cons (ov 8) oa_nil rfl) ok_nil rfl rfl rfl rfl (by decide) rfl rfl)) oa_nil rfl)) rfl) os_nil) (fun _ => rfl)) (os_cons (os_expr (oe_mtL PySem.F.slot_list_append PySem.F.type_list_append mt_append lk_app (ov 1) (oa_cons (oe_sm1 PySem.F.slot_str_join PySem.F.type_str_join mt_join lk_join oe_str (ov 7) rfl rfl rfl) oa_nil rfl)) rfl) os_nil))) (fun _ => rfl)) os_nil)) (fun _ => rfl)) (os_cons (os_ret (oe_sm1 PySem.F.slot_str_join PySem.F.type_str_join mt_join lk_join oe_str (ov 1) rfl rfl rfl)) os_nil)))
theorem s__law_sixteen : FnScope ["_law_number", "_law_text_here"] ["_law_number"] (defScope D48.1) := ⟨rfl, rfl, rfl, by decide +kernel, rfl, by decide +kernel, by decide +kernel⟩
theorem bz__law_sixteen (T : Txt w K mg) : KBz K T.d__law_sixteen ["_law_number"] 1 [] (fun ws _ => ws) := kbz_pos (T.F__law_sixteen.binds fun _ _ _ _ _ _ us hl => match us, hl with | [_], _ => rfl)
theorem okr__law_sixteen (T : Txt w K mg) : ∀ n, FnG P w K mg base (L2.CX P w) (1 + n) T.a__law_sixteen T.d__law_sixteen ["_law_number"] (spF K ["_law_number"].length (F__law_sixteen n))
  | 0 => ⟨fun _ _ _ _ ⟨_, _, _, _, _, _, _, p⟩ => p.elim, fun _ _ _ _ _ _ _ _ _ _ _ _ _ ⟨_, _, _, _, _, _, _, p⟩ => p.elim⟩
  | n + 1 => by
    have ih := okr__law_sixteen T n
    have S := s__law_sixteen
    refine fn_ok (N := ["_law_number", "_law_text_here"]) (ps := ["_law_number"]) (n := 2) (k := 1 + n) (m := m__law_sixteen (F__law_sixteen n)) T.F__law_sixteen S rfl (fun cdv A outer s H E hr => ?_)
    exact (os_cons (os_if (ot_cmp op_lt lk_ord rfl (ov 0) oe_int) (os_cons (os_ret (oe_op op_addZ lk_add oe_str (oe_call ih (hr.mono (by first | decide | omega)) rfl T.g__law_sixteen T.F__law_sixteen.kp (bz__law_sixteen T) (takes_of rfl rfl rfl rfl) (oa_cons (oe_op op_sub lk_sub oe_int (ov 0)) oa_nil rfl) ok_nil rfl rfl rfl rfl (by decide) rfl rfl))) os_nil) os_nil) (os_cons (os_set (i := 1) S.nd rfl (by first | exact Or.inl rfl | exact Or.inr rfl) (oe_ix ix_seq lk_ix (fun _ _ => rfl) oe_str (oe_op op_modZ lk_mod (ov 0) oe_int)) rfl (by first | exact Or.inl rfl | exact Or.inr rfl)) (os_cons (os_while (n := 20) (passes_of rfl) (ot_cmp op_gt lk_ord rfl (ov 0) oe_int) (os_cons (os_set (i := 0) S.nd rfl (by first | exact Or.inl rfl | exact Or.inr rfl) (oe_op op_divZ lk_div (ov 0) oe_int) rfl (by first | exact Or.inl rfl | exact Or.inr rfl)) (os_cons (os_set (i := 1) S.nd rfl (by first | exact Or.inl rfl | exact Or.inr rfl) (oe_op op_addZ lk_add (oe_ix ix_seq lk_ix (fun _ _ => rfl) oe_str (oe_op op_modZ lk_mod (ov 0) oe_int)) (ov 1)) rfl (by first | exact Or.inl rfl | exact Or.inr rfl)) os_nil))) (os_cons (os_ret (oe_op op_addZ lk_add oe_str (ov 1))) os_nil))))
theorem ok__law_sixteen (T : Txt w K mg) : FnG P w K mg base (L2.CX P w) 3 T.a__law_sixteen T.d__law_sixteen ["_law_number"] (spF K ["_law_number"].length (F__law_sixteen 2)) := okr__law_sixteen T 2
theorem s__law_text : FnScope ["_law_bag_here", "_law_program_here", "_law_rows", "_law_k", "_law_row_here", "_law_words"] ["_law_bag_here", "_law_program_here"] (defScope D49.1) := ⟨rfl, rfl, rfl, by decide +kernel, rfl, by decide +kernel, by decide +kernel⟩
theorem bz__law_text (T : Txt w K mg) : KBz K T.d__law_text ["_law_bag_here", "_law_program_here"] 2 [] (fun ws _ => ws) := kbz_pos (T.F__law_text.binds fun _ _ _ _ _ _ us hl => match us, hl with | [_, _], _ => rfl)
theorem ok__law_text (T : Txt w K mg) : FnG P w K mg base (L2.CX P w) 5 T.a__law_text T.d__law_text ["_law_bag_here", "_law_program_here"] (spF K ["_law_bag_here", "_law_program_here"].length F__law_text) := by
  have S := s__law_text
  refine fn_ok (N := ["_law_bag_here", "_law_program_here", "_law_rows", "_law_k", "_law_row_here", "_law_words"]) (ps := ["_law_bag_here", "_law_program_here"]) (n := 6) (k := 4) (m := m__law_text) T.F__law_text S rfl (fun cdv A outer s H E hr => ?_)
  exact (os_cons (os_set (i := 2) S.nd rfl (by first | exact Or.inl rfl | exact Or.inr rfl) (oe_sm1 PySem.F.slot_str_split PySem.F.type_str_split mt_split lk_splitN (oe_call (ok__law_written T) (hr.mono (by first | decide | omega)) rfl T.g__law_written T.F__law_written.kp (bz__law_written T) (takes_of rfl rfl rfl rfl) (oa_cons (ov 1) oa_nil rfl) ok_nil rfl rfl rfl rfl (by decide) rfl rfl) oe_str rfl rfl rfl) rfl (by first | exact Or.inl rfl | exact Or.inr rfl)) (os_cons (os_for (passes_of rfl) rfl (oi_en rfl T.g_enumerate (oa_cons (oe_callTy call_list_of lk_lof rfl T.g_list zb_list (oa_cons (ov 2) oa_nil rfl) (by decide) (by decide) rfl rfl) oa_nil rfl)) (og_tup rfl (ogs_cons (og_name (i := 3) S.nd rfl (by first | exact Or.inl rfl | exact Or.inr rfl) (by first | exact Or.inl rfl | exact Or.inr rfl)) (ogs_cons (og_name (i := 4) S.nd rfl (by first | exact Or.inl rfl | exact Or.inr rfl) (by first | exact Or.inl rfl | exact Or.inr rfl)) ogs_nil rfl) rfl) rfl rfl) (os_cons (os_set (i := 5) S.nd rfl (by first | exact Or.inl rfl | exact Or.inr rfl) (oe_sm1 PySem.F.slot_str_split PySem.F.type_str_split mt_split lk_split (ov 4) oe_str rfl rfl rfl) rfl (by first | exact Or.inl rfl | exact Or.inr rfl)) (os_cons (os_if (PW.pt (ow_and (ot_cmp (op_neZ (hr.mono (Nat.zero_le _)).units) lk_ne rfl (oe_ix ix_seq lk_ix (fun _ _ => rfl) (ov 5) oe_int) oe_str) (ow_and (ot_cmp (op_eqZ (hr.mono (Nat.zero_le _)).units) lk_eq rfl (oe_ix ix_seq lk_ix (fun _ _ => rfl) (ov 5) oe_int) oe_str) (ow_and1 (ot_cmp (op_eqZ (hr.mono (Nat.zero_le _)).units) lk_eq rfl (oe_call (ok__law_take T) (hr.mono (by first | decide | omega)) rfl T.g__law_take T.F__law_take.kp (bz__law_take T) (takes_of rfl rfl rfl rfl) (oa_cons (ov 0) (oa_cons oe_int oa_nil rfl) rfl) ok_nil rfl rfl rfl rfl (by decide) rfl rfl) oe_int))))) (os_cons (os_asg (oe_sm1 PySem.F.slot_str_join PySem.F.type_str_join mt_join lk_join oe_str (oe_op op_addZ lk_add (oe_sl (ov 5) oo_none (oo_some oe_int)) (oe_lst (oa_cons (oe_call (ok__law_sixteen T) (hr.mono (by first | decide | omega)) rfl T.g__law_sixteen T.F__law_sixteen.kp (bz__law_sixteen T) (takes_of rfl rfl rfl rfl) (oa_cons (oe_callTy call_int_str lk_intS rfl T.g_int zb_int (oa_cons (oe_ix ix_seq lk_ix (fun _ _ => rfl) (ov 5) oe_int) oa_nil rfl) (by decide) (by decide) rfl rfl) oa_nil rfl) ok_nil rfl rfl rfl rfl (by decide) rfl rfl) oa_nil rfl))) rfl rfl rfl) (og_sub (ov 2) (ov 3)) rfl rfl rfl) os_nil) os_nil) os_nil)) (fun _ => rfl)) (os_cons (os_ret (oe_sm1 PySem.F.slot_str_join PySem.F.type_str_join mt_join lk_join oe_str (ov 2) rfl rfl rfl)) os_nil)))
theorem s_law : FnScope ["_law_script", "_law_at", "_law_some", "_law_number", "_law_bag_here", "_law_program_here", "_law_text_here", "_law_word", "_law_turn", "_law_found"] ["_law_script"] (defScope D50.1) := ⟨rfl, rfl, rfl, by decide +kernel, rfl, by decide +kernel, by decide +kernel⟩
theorem ok_law (T : Txt w K mg) (hl : ∀ ns : List Int, ns.length ≤ 63 → (∀ z ∈ ns, Builtin.Int.intBits z ≤ 1048576) → ∃ h, (F_law T.C_READS T.a_read_name T.a_read_row_number T.a_read_worth) [.scr ns] [] = .ok (.bl true) h) : FnG P w K mg base CX0 7 T.a_law T.d_law ["_law_script"] (spLaw K) := by
  have S := s_law
  refine law_ok (N := ["_law_script", "_law_at", "_law_some", "_law_number", "_law_bag_here", "_law_program_here", "_law_text_here", "_law_word", "_law_turn", "_law_found"]) (n := 10) (k := 6) (m := m_law T.C_READS T.a_read_name T.a_read_row_number T.a_read_worth) T.F_law S rfl (fun cdv A outer s H E hr => ?_) hl
  exact (os_cons (os_for PassesOwn.never rfl (oi_rg1 rfl T.g_range (oa_cons (oe_callB (call_max2 rfl) lk_max rfl T.g_max zb_max (oa_cons oe_int (oa_cons (oe_callB (call_min2 rfl) lk_min rfl T.g_min zb_min (oa_cons oe_int (oa_cons (oe_callB call_len lk_len rfl T.g_len zb_len (oa_cons (ov 0) oa_nil rfl) (by decide) (by decide) rfl rfl) oa_nil rfl) rfl) (by decide) (by decide) rfl rfl) oa_nil rfl) rfl) (by decide) (by decide) rfl rfl) oa_nil rfl)) (og_name (i := 1) S.nd rfl (by first | exact Or.inl rfl | exact Or.inr rfl) (by first | exact Or.inl rfl | exact Or.inr rfl)) (os_cons (os_set (i := 4) S.nd rfl (by first | exact Or.inl rfl | exact Or.inr rfl) (oe_call (ok__law_bag T) (hr.mono (by first | decide | omega)) rfl T.g__law_bag T.F__law_bag.kp (bz__law_bag T) takesW (oa_cons (ov 0) (oa_cons (ov 1) oa_nil rfl) rfl) ok_nil rfl rfl rfl rfl (by decide) rfl rfl) rfl (by first | exact Or.inl rfl | exact Or.inr rfl)) (os_cons (os_set (i := 5) S.nd rfl (by first | exact Or.inl rfl | exact Or.inr rfl) (oe_call (ok__law_program T) (hr.mono (by first | decide | omega)) rfl T.g__law_program T.F__law_program.kp (bz__law_program T) takesW (oa_cons (ov 4) oa_nil rfl) ok_nil rfl rfl rfl rfl (by decide) rfl rfl) rfl (by first | exact Or.inl rfl | exact Or.inr rfl)) (os_cons (os_set (i := 6) S.nd rfl (by first | exact Or.inl rfl | exact Or.inr rfl) (oe_call (ok__law_text T) (hr.mono (by first | decide | omega)) rfl T.g__law_text T.F__law_text.kp (bz__law_text T) takesW (oa_cons (ov 4) (oa_cons (ov 5) oa_nil rfl) rfl) ok_nil rfl rfl rfl rfl (by decide) rfl rfl) rfl (by first | exact Or.inl rfl | exact Or.inr rfl)) (os_cons (os_if (ot_cmp op_le lk_ord rfl (oe_callB call_len lk_len rfl T.g_len zb_len (oa_cons (ov 6) oa_nil rfl) (by decide) (by decide) rfl rfl) oe_int) (os_cons (os_for PassesOwn.never rfl (oi_rg1 rfl T.g_range (oa_cons oe_int oa_nil rfl)) (og_name (i := 8) S.nd rfl (by first | exact Or.inl rfl | exact Or.inr rfl) (by first | exact Or.inl rfl | exact Or.inr rfl)) (os_cons (os_set (i := 9) S.nd rfl (by first | exact Or.inl rfl | exact Or.inr rfl) (oe_call (ok_read_program T) (hr.mono (by first | decide | omega)) rfl T.g_read_program T.F_read_program.kp (bz_read_program T) takesW (oa_cons (ov 6) oa_nil rfl) ok_nil rfl rfl rfl rfl (by decide) rfl rfl) rfl (by first | exact Or.inl rfl | exact Or.inr rfl)) (os_cons (os_if (PW.pt (ow_or (ot_cmp (op_neZ (hr.mono (Nat.zero_le _)).units) lk_ne rfl (oe_callB (call_reprD hr.gd hr.units) lk_repr rfl T.g_repr zb_repr (oa_cons (ov 9) oa_nil rfl) (by decide) (by decide) rfl rfl) (oe_callB (call_reprD hr.gd hr.units) lk_repr rfl T.g_repr zb_repr (oa_cons (ov 5) oa_nil rfl) (by decide) (by decide) rfl rfl)) (ow_or1 (ot_cmp (op_neZ (hr.mono (Nat.zero_le _)).units) lk_ne rfl (oe_call (ok_show_program T) (hr.mono (by first | decide | omega)) rfl T.g_show_program T.F_show_program.kp (bz_show_program T) takesW (oa_cons (ov 9) oa_nil rfl) ok_nil rfl rfl rfl rfl (by decide) rfl rfl) (oe_call (ok__law_written T) (hr.mono (by first | decide | omega)) rfl T.g__law_written T.F__law_written.kp (bz__law_written T) takesW (oa_cons (ov 5) oa_nil rfl) ok_nil rfl rfl rfl rfl (by decide) rfl rfl))))) (os_cons (os_ret oe_bl) os_nil) os_nil) os_nil)) (fun _ => rfl)) os_nil) os_nil) os_nil)))) (fun _ => rfl)) (os_cons (os_set (i := 2) S.nd rfl (by first | exact Or.inl rfl | exact Or.inr rfl) (oe_lst (oa_cons oe_int (oa_cons oe_int (oa_cons oe_int (oa_cons oe_int (oa_cons oe_int (oa_cons oe_int (oa_cons oe_int (oa_cons oe_int (oa_cons (oe_op op_powW lk_pow oe_int oe_int) (oa_cons (oe_op op_sub lk_sub (oe_op op_powW lk_pow oe_int oe_int) oe_int) (oa_cons (oe_op op_powW lk_pow oe_int oe_int) oa_nil rfl) rfl) rfl) rfl) rfl) rfl) rfl) rfl) rfl) rfl) rfl)) rfl (by first | exact Or.inl rfl | exact Or.inr rfl)) (os_cons (os_for PassesOwn.never rfl (oi_val (oe_op op_addZ lk_add (ov 2) (oe_lc (own := [("_law_number", 3)]) (sl := [3]) rfl S.nd (oi_val (ov 2)) (blkOk_by (N := ["_law_script", "_law_at", "_law_some", "_law_number", "_law_bag_here", "_law_program_here", "_law_text_here", "_law_word", "_law_turn", "_law_found"]) (sc := defScope D50.1) (own := [("_law_number", 3)]) (by decide +kernel)) (by decide) (fun _ _ _ _ _ => (og_name (i := 3) S.nd rfl (by first | exact Or.inl rfl | exact Or.inr rfl) (by first | exact Or.inl rfl | exact Or.inr rfl))) (fun _ _ _ _ _ => ots_nil) (fun _ _ _ _ _ => (oe_op op_sub lk_sub oe_int (ov 3))) (fun _ => rfl)))) (og_name (i := 3) S.nd rfl (by first | exact Or.inl rfl | exact Or.inr rfl) (by first | exact Or.inl rfl | exact Or.inr rfl)) (os_cons (os_for PassesOwn.never rfl (oi_val (oe_lst (oa_cons (oe_call (ok__law_sixteen T) (hr.mono (by first | decide | omega)) rfl T.g__law_sixteen T.F__law_sixteen.kp (bz__law_sixteen T) takesW (oa_cons (ov 3) oa_nil rfl) ok_nil rfl rfl rfl rfl (by decide) rfl rfl) (oa_cons (oe_call (ok__law_figures T) (hr.mono (by first | decide | omega)) rfl T.g__law_figures T.F__law_figures.kp (bz__law_figures T) takesW (oa_cons (ov 3) oa_nil rfl) ok_nil rfl rfl rfl rfl (by decide) rfl rfl) oa_nil rfl) rfl))) (og_name (i := 7) S.nd rfl (by first | exact Or.inl rfl | exact Or.inr rfl) (by first | exact Or.inl rfl | exact Or.inr rfl)) (os_cons (os_if (ot_cmp (op_neZ (hr.mono (Nat.zero_le _)).units) lk_ne rfl (oe_callB (call_reprD hr.gd hr.units) lk_repr rfl T.g_repr zb_repr (oa_cons (oe_call (ok_read_program T) (hr.mono (by first | decide | omega)) rfl T.g_read_program T.F_read_program.kp (bz_read_program T) takesW (oa_cons (oe_op op_addZ lk_add oe_str (ov 7)) oa_nil rfl) ok_nil rfl rfl rfl rfl (by decide) rfl rfl) oa_nil rfl) (by decide) (by decide) rfl rfl) (oe_callB (call_reprD hr.gd hr.units) lk_repr rfl T.g_repr zb_repr (oa_cons (oe_tup (oa_cons (oe_tup (oa_cons oe_str (oa_cons (oe_tup (oa_cons oe_str oa_nil rfl)) (oa_cons (oe_tup (oa_cons (oe_tup (oa_cons oe_str (oa_cons (ov 3) oa_nil rfl) rfl)) oa_nil rfl)) oa_nil rfl) rfl) rfl)) oa_nil rfl)) oa_nil rfl) (by decide) (by decide) rfl rfl)) (os_cons (os_ret oe_bl) os_nil) os_nil) os_nil) (fun _ => rfl)) os_nil) (fun _ => rfl)) (os_cons (os_ret oe_bl) os_nil))))
end
theorem txt_mk {w : World} {K : PySem.W.Frag} {h : Heap} {mg : Str → Option Value} (X : K.In h) (G : h.Ns mainGlobals mg) {A_ALONE : Addr} {o_ALONE : Obj} {i_ALONE : Array Value} {z_ALONE : Nat} {A_BARE : Addr} {o_BARE : Obj} {i_BARE : Array Value} {z_BARE : Nat} {t_FIGURES : Tok} {A_LEADING : Addr} {o_LEADING : Obj} {i_LEADING : Array Value} {z_LEADING : Nat} {t_LETTERS : Tok} {t_MOST_FIGURES : Tok} {t_MOST_LETTERS : Tok} {t_MOST_LONG : Tok} {t_MOST_NAMES : Tok} {t_MOST_PARTS : Tok} {t_MOST_WORTH : Tok} {t_MOST_WRITTEN : Tok} {A_NAMED : Addr} {o_NAMED : Obj} {i_NAMED : Array Value} {z_NAMED : Nat} {t_SIXTEEN : Tok} {C_READS : Addr} {f_is_whole : Addr} {od_is_whole an_is_whole : Option Addr} {sl_is_whole : Array (Option Value)} {oc_is_whole kV_is_whole dc_is_whole pm_is_whole cd_is_whole ct_is_whole : Value} {f_is_worth : Addr} {od_is_worth an_is_worth : Option Addr} {sl_is_worth : Array (Option Value)} {oc_is_worth kV_is_worth dc_is_worth pm_is_worth cd_is_worth ct_is_worth : Value} {f_is_name : Addr} {od_is_name an_is_name : Option Addr} {sl_is_name : Array (Option Value)} {oc_is_name kV_is_name dc_is_name pm_is_name cd_is_name ct_is_name : Value} {f_are_unlike_names : Addr} {od_are_unlike_names an_are_unlike_names : Option Addr} {sl_are_unlike_names : Array (Option Value)} {oc_are_unlike_names dc_are_unlike_names pm_are_unlike_names cd_are_unlike_names ct_are_unlike_names : Value} {D_are_unlike_names : Addr} {u_are_unlike_names_least : Value} {f_is_led_to : Addr} {od_is_led_to an_is_led_to : Option Addr} {sl_is_led_to : Array (Option Value)} {oc_is_led_to kV_is_led_to dc_is_led_to pm_is_led_to cd_is_led_to ct_is_led_to : Value} {f_is_row : Addr} {od_is_row an_is_row : Option Addr} {sl_is_row : Array (Option Value)} {oc_is_row kV_is_row dc_is_row pm_is_row cd_is_row ct_is_row : Value} {f_is_headed : Addr} {od_is_headed an_is_headed : Option Addr} {sl_is_headed : Array (Option Value)} {oc_is_headed kV_is_headed dc_is_headed pm_is_headed cd_is_headed ct_is_headed : Value} {f_is_program : Addr} {od_is_program an_is_program : Option Addr} {sl_is_program : Array (Option Value)} {oc_is_program kV_is_program dc_is_program pm_is_program cd_is_program ct_is_program : Value} {f_look_program : Addr} {od_look_program an_look_program : Option Addr} {sl_look_program : Array (Option Value)} {oc_look_program kV_look_program dc_look_program pm_look_program cd_look_program ct_look_program : Value} {f_show_row : Addr} {od_show_row an_show_row : Option Addr} {sl_show_row : Array (Option Value)} {oc_show_row kV_show_row dc_show_row pm_show_row cd_show_row ct_show_row : Value} {f_show_program : Addr} {od_show_program an_show_program : Option Addr} {sl_show_program : Array (Option Value)} {oc_show_program kV_show_program dc_show_program pm_show_program cd_show_program ct_show_program : Value} {f_number_in : Addr} {od_number_in an_number_in : Option Addr} {sl_number_in : Array (Option Value)} {oc_number_in kV_number_in dc_number_in pm_number_in cd_number_in ct_number_in : Value} {f_read_row_number : Addr} {od_read_row_number an_read_row_number : Option Addr} {sl_read_row_number : Array (Option Value)} {oc_read_row_number kV_read_row_number dc_read_row_number pm_read_row_number cd_read_row_number ct_read_row_number : Value} {f_read_worth : Addr} {od_read_worth an_read_worth : Option Addr} {sl_read_worth : Array (Option Value)} {oc_read_worth kV_read_worth dc_read_worth pm_read_worth cd_read_worth ct_read_worth : Value} {f_read_name : Addr} {od_read_name an_read_name : Option Addr} {sl_read_name : Array (Option Value)} {oc_read_name kV_read_name dc_read_name pm_read_name cd_read_name ct_read_name : Value} {f_row_of : Addr} {od_row_of an_row_of : Option Addr} {sl_row_of : Array (Option Value)} {oc_row_of kV_row_of dc_row_of pm_row_of cd_row_of ct_row_of : Value} {f_begins_part : Addr} {od_begins_part an_begins_part : Option Addr} {sl_begins_part : Array (Option Value)} {oc_begins_part kV_begins_part dc_begins_part pm_begins_part cd_begins_part ct_begins_part : Value} {f_stands : Addr} {od_stands an_stands : Option Addr} {sl_stands : Array (Option Value)} {oc_stands kV_stands dc_stands pm_stands cd_stands ct_stands : Value} {f_read_program : Addr} {od_read_program an_read_program : Option Addr} {sl_read_program : Array (Option Value)} {oc_read_program kV_read_program dc_read_program pm_read_program cd_read_program ct_read_program : Value} {f__law_bag : Addr} {od__law_bag an__law_bag : Option Addr} {sl__law_bag : Array (Option Value)} {oc__law_bag kV__law_bag dc__law_bag pm__law_bag cd__law_bag ct__law_bag : Value} {f__law_take : Addr} {od__law_take an__law_take : Option Addr} {sl__law_take : Array (Option Value)} {oc__law_take kV__law_take dc__law_take pm__law_take cd__law_take ct__law_take : Value} {f__law_names : Addr} {od__law_names an__law_names : Option Addr} {sl__law_names : Array (Option Value)} {oc__law_names kV__law_names dc__law_names pm__law_names cd__law_names ct__law_names : Value} {f__law_worth : Addr} {od__law_worth an__law_worth : Option Addr} {sl__law_worth : Array (Option Value)} {oc__law_worth kV__law_worth dc__law_worth pm__law_worth cd__law_worth ct__law_worth : Value} {f__law_row : Addr} {od__law_row an__law_row : Option Addr} {sl__law_row : Array (Option Value)} {oc__law_row kV__law_row dc__law_row pm__law_row cd__law_row ct__law_row : Value} {f__law_program : Addr} {od__law_program an__law_program : Option Addr} {sl__law_program : Array (Option Value)} {oc__law_program kV__law_program dc__law_program pm__law_program cd__law_program ct__law_program : Value} {f__law_figures : Addr} {od__law_figures an__law_figures : Option Addr} {sl__law_figures : Array (Option Value)} {oc__law_figures kV__law_figures dc__law_figures pm__law_figures cd__law_figures ct__law_figures : Value} {f__law_written : Addr} {od__law_written an__law_written : Option Addr} {sl__law_written : Array (Option Value)} {oc__law_written kV__law_written dc__law_written pm__law_written cd__law_written ct__law_written : Value} {f__law_sixteen : Addr} {od__law_sixteen an__law_sixteen : Option Addr} {sl__law_sixteen : Array (Option Value)} {oc__law_sixteen kV__law_sixteen dc__law_sixteen pm__law_sixteen cd__law_sixteen ct__law_sixteen : Value} {f__law_text : Addr} {od__law_text an__law_text : Option Addr} {sl__law_text : Array (Option Value)} {oc__law_text kV__law_text dc__law_text pm__law_text cd__law_text ct__law_text : Value} {f_law : Addr} {od_law an_law : Option Addr} {sl_law : Array (Option Value)} {oc_law kV_law dc_law pm_law cd_law ct_law : Value}
    (zz_abs : PySem.W.nsIn K mainGlobals "abs" = some none)
    (zz_all : PySem.W.nsIn K mainGlobals "all" = some none)
    (zz_bool : PySem.W.nsIn K mainGlobals "bool" = some none)
    (zz_enumerate : PySem.W.nsIn K mainGlobals "enumerate" = some none)
    (zz_int : PySem.W.nsIn K mainGlobals "int" = some none)
    (zz_isinstance : PySem.W.nsIn K mainGlobals "isinstance" = some none)
    (zz_len : PySem.W.nsIn K mainGlobals "len" = some none)
    (zz_list : PySem.W.nsIn K mainGlobals "list" = some none)
    (zz_max : PySem.W.nsIn K mainGlobals "max" = some none)
    (zz_min : PySem.W.nsIn K mainGlobals "min" = some none)
    (zz_range : PySem.W.nsIn K mainGlobals "range" = some none)
    (zz_repr : PySem.W.nsIn K mainGlobals "repr" = some none)
    (zz_set : PySem.W.nsIn K mainGlobals "set" = some none)
    (zz_str : PySem.W.nsIn K mainGlobals "str" = some none)
    (zz_tuple : PySem.W.nsIn K mainGlobals "tuple" = some none)
    (n_ALONE : PySem.W.nsIn K mainGlobals "ALONE" = some (some (.ref A_ALONE)))
    (l_ALONE : K.lookup A_ALONE = some o_ALONE)
    (y_ALONE : o_ALONE.cls = .type "tuple")
    (d_ALONE : o_ALONE.dict = none)
    (q_ALONE : o_ALONE.data = .seq i_ALONE z_ALONE)
    (r_ALONE : (i_ALONE.toList.map fun u => match u with | .str y _ => some y | _ => none) = (["add", "less", "times", "over", "same", "below", "twin", "swap", "away", "say", "back", "throw", "done", "lead", "turn"] : List Str).map some)
    (n_BARE : PySem.W.nsIn K mainGlobals "BARE" = some (some (.ref A_BARE)))
    (l_BARE : K.lookup A_BARE = some o_BARE)
    (y_BARE : o_BARE.cls = .type "tuple")
    (d_BARE : o_BARE.dict = none)
    (q_BARE : o_BARE.data = .seq i_BARE z_BARE)
    (r_BARE : (i_BARE.toList.map fun u => match u with | .str y _ => some y | _ => none) = (["add", "less", "times", "over", "same", "below", "twin", "swap", "away", "say", "back", "throw", "done", "lead", "turn"] : List Str).map some)
    (n_FIGURES : PySem.W.nsIn K mainGlobals "FIGURES" = some (some (.str "0123456789" t_FIGURES)))
    (n_LEADING : PySem.W.nsIn K mainGlobals "LEADING" = some (some (.ref A_LEADING)))
    (l_LEADING : K.lookup A_LEADING = some o_LEADING)
    (y_LEADING : o_LEADING.cls = .type "tuple")
    (d_LEADING : o_LEADING.dict = none)
    (q_LEADING : o_LEADING.data = .seq i_LEADING z_LEADING)
    (r_LEADING : (i_LEADING.toList.map fun u => match u with | .str y _ => some y | _ => none) = (["go", "if", "try"] : List Str).map some)
    (n_LETTERS : PySem.W.nsIn K mainGlobals "LETTERS" = some (some (.str "abcdefghijklmnopqrstuvwxyz" t_LETTERS)))
    (n_MOST_FIGURES : PySem.W.nsIn K mainGlobals "MOST_FIGURES" = some (some (.int 40 t_MOST_FIGURES)))
    (n_MOST_LETTERS : PySem.W.nsIn K mainGlobals "MOST_LETTERS" = some (some (.int 8 t_MOST_LETTERS)))
    (n_MOST_LONG : PySem.W.nsIn K mainGlobals "MOST_LONG" = some (some (.int 60 t_MOST_LONG)))
    (n_MOST_NAMES : PySem.W.nsIn K mainGlobals "MOST_NAMES" = some (some (.int 3 t_MOST_NAMES)))
    (n_MOST_PARTS : PySem.W.nsIn K mainGlobals "MOST_PARTS" = some (some (.int 8 t_MOST_PARTS)))
    (n_MOST_WORTH : PySem.W.nsIn K mainGlobals "MOST_WORTH" = some (some (.int 1000000000000 t_MOST_WORTH)))
    (n_MOST_WRITTEN : PySem.W.nsIn K mainGlobals "MOST_WRITTEN" = some (some (.int 100 t_MOST_WRITTEN)))
    (n_NAMED : PySem.W.nsIn K mainGlobals "NAMED" = some (some (.ref A_NAMED)))
    (l_NAMED : K.lookup A_NAMED = some o_NAMED)
    (y_NAMED : o_NAMED.cls = .type "tuple")
    (d_NAMED : o_NAMED.dict = none)
    (q_NAMED : o_NAMED.data = .seq i_NAMED z_NAMED)
    (r_NAMED : (i_NAMED.toList.map fun u => match u with | .str y _ => some y | _ => none) = (["get", "set", "look", "change"] : List Str).map some)
    (n_SIXTEEN : PySem.W.nsIn K mainGlobals "SIXTEEN" = some (some (.str "0123456789abcdef" t_SIXTEEN)))
    (n_READS : PySem.W.nsIn K mainGlobals "READS" = some (some (.ref C_READS)))
    (d_READS : He.dicW K C_READS = some (He.keysIn w.params keys_READS))
    (n_is_whole : PySem.W.nsIn K mainGlobals "is_whole" = some (some (.ref f_is_whole)))
    (l_is_whole : K.lookup f_is_whole = some ⟨oc_is_whole, od_is_whole, .func (PySem.W.fnOf "is_whole" "is_whole" (defArgs D13.1) (defBody D13.1) (defScope D13.1) .none kV_is_whole dc_is_whole pm_is_whole an_is_whole cd_is_whole ct_is_whole), sl_is_whole⟩)
    (c_is_whole : PySem.W.codeIn K cd_is_whole "is_whole" = true)
    (k_is_whole : PySem.W.keepIn K (.ref f_is_whole) = true)
    (n_is_worth : PySem.W.nsIn K mainGlobals "is_worth" = some (some (.ref f_is_worth)))
    (l_is_worth : K.lookup f_is_worth = some ⟨oc_is_worth, od_is_worth, .func (PySem.W.fnOf "is_worth" "is_worth" (defArgs D14.1) (defBody D14.1) (defScope D14.1) .none kV_is_worth dc_is_worth pm_is_worth an_is_worth cd_is_worth ct_is_worth), sl_is_worth⟩)
    (c_is_worth : PySem.W.codeIn K cd_is_worth "is_worth" = true)
    (k_is_worth : PySem.W.keepIn K (.ref f_is_worth) = true)
    (n_is_name : PySem.W.nsIn K mainGlobals "is_name" = some (some (.ref f_is_name)))
    (l_is_name : K.lookup f_is_name = some ⟨oc_is_name, od_is_name, .func (PySem.W.fnOf "is_name" "is_name" (defArgs D15.1) (defBody D15.1) (defScope D15.1) .none kV_is_name dc_is_name pm_is_name an_is_name cd_is_name ct_is_name), sl_is_name⟩)
    (c_is_name : PySem.W.codeIn K cd_is_name "is_name" = true)
    (k_is_name : PySem.W.keepIn K (.ref f_is_name) = true)
    (n_are_unlike_names : PySem.W.nsIn K mainGlobals "are_unlike_names" = some (some (.ref f_are_unlike_names)))
    (l_are_unlike_names : K.lookup f_are_unlike_names = some ⟨oc_are_unlike_names, od_are_unlike_names, .func (PySem.W.fnOf "are_unlike_names" "are_unlike_names" (defArgs D16.1) (defBody D16.1) (defScope D16.1) .none (.ref D_are_unlike_names) dc_are_unlike_names pm_are_unlike_names an_are_unlike_names cd_are_unlike_names ct_are_unlike_names), sl_are_unlike_names⟩)
    (c_are_unlike_names : PySem.W.codeIn K cd_are_unlike_names "are_unlike_names" = true)
    (k_are_unlike_names : PySem.W.keepIn K (.ref f_are_unlike_names) = true)
    (w_are_unlike_names_least : PySem.W.nsIn K D_are_unlike_names "least" = some (some u_are_unlike_names_least))
    (v_are_unlike_names_least : RelV (.int 0) u_are_unlike_names_least)
    (n_is_led_to : PySem.W.nsIn K mainGlobals "is_led_to" = some (some (.ref f_is_led_to)))
    (l_is_led_to : K.lookup f_is_led_to = some ⟨oc_is_led_to, od_is_led_to, .func (PySem.W.fnOf "is_led_to" "is_led_to" (defArgs D17.1) (defBody D17.1) (defScope D17.1) .none kV_is_led_to dc_is_led_to pm_is_led_to an_is_led_to cd_is_led_to ct_is_led_to), sl_is_led_to⟩)
    (c_is_led_to : PySem.W.codeIn K cd_is_led_to "is_led_to" = true)
    (k_is_led_to : PySem.W.keepIn K (.ref f_is_led_to) = true)
    (n_is_row : PySem.W.nsIn K mainGlobals "is_row" = some (some (.ref f_is_row)))
    (l_is_row : K.lookup f_is_row = some ⟨oc_is_row, od_is_row, .func (PySem.W.fnOf "is_row" "is_row" (defArgs D18.1) (defBody D18.1) (defScope D18.1) .none kV_is_row dc_is_row pm_is_row an_is_row cd_is_row ct_is_row), sl_is_row⟩)
    (c_is_row : PySem.W.codeIn K cd_is_row "is_row" = true)
    (k_is_row : PySem.W.keepIn K (.ref f_is_row) = true)
    (n_is_headed : PySem.W.nsIn K mainGlobals "is_headed" = some (some (.ref f_is_headed)))
    (l_is_headed : K.lookup f_is_headed = some ⟨oc_is_headed, od_is_headed, .func (PySem.W.fnOf "is_headed" "is_headed" (defArgs D19.1) (defBody D19.1) (defScope D19.1) .none kV_is_headed dc_is_headed pm_is_headed an_is_headed cd_is_headed ct_is_headed), sl_is_headed⟩)
    (c_is_headed : PySem.W.codeIn K cd_is_headed "is_headed" = true)
    (k_is_headed : PySem.W.keepIn K (.ref f_is_headed) = true)
    (n_is_program : PySem.W.nsIn K mainGlobals "is_program" = some (some (.ref f_is_program)))
    (l_is_program : K.lookup f_is_program = some ⟨oc_is_program, od_is_program, .func (PySem.W.fnOf "is_program" "is_program" (defArgs D20.1) (defBody D20.1) (defScope D20.1) .none kV_is_program dc_is_program pm_is_program an_is_program cd_is_program ct_is_program), sl_is_program⟩)
    (c_is_program : PySem.W.codeIn K cd_is_program "is_program" = true)
    (k_is_program : PySem.W.keepIn K (.ref f_is_program) = true)
    (n_look_program : PySem.W.nsIn K mainGlobals "look_program" = some (some (.ref f_look_program)))
    (l_look_program : K.lookup f_look_program = some ⟨oc_look_program, od_look_program, .func (PySem.W.fnOf "look_program" "look_program" (defArgs D21.1) (defBody D21.1) (defScope D21.1) .none kV_look_program dc_look_program pm_look_program an_look_program cd_look_program ct_look_program), sl_look_program⟩)
    (c_look_program : PySem.W.codeIn K cd_look_program "look_program" = true)
    (k_look_program : PySem.W.keepIn K (.ref f_look_program) = true)
    (n_show_row : PySem.W.nsIn K mainGlobals "show_row" = some (some (.ref f_show_row)))
    (l_show_row : K.lookup f_show_row = some ⟨oc_show_row, od_show_row, .func (PySem.W.fnOf "show_row" "show_row" (defArgs D28.1) (defBody D28.1) (defScope D28.1) .none kV_show_row dc_show_row pm_show_row an_show_row cd_show_row ct_show_row), sl_show_row⟩)
    (c_show_row : PySem.W.codeIn K cd_show_row "show_row" = true)
    (k_show_row : PySem.W.keepIn K (.ref f_show_row) = true)
    (n_show_program : PySem.W.nsIn K mainGlobals "show_program" = some (some (.ref f_show_program)))
    (l_show_program : K.lookup f_show_program = some ⟨oc_show_program, od_show_program, .func (PySem.W.fnOf "show_program" "show_program" (defArgs D29.1) (defBody D29.1) (defScope D29.1) .none kV_show_program dc_show_program pm_show_program an_show_program cd_show_program ct_show_program), sl_show_program⟩)
    (c_show_program : PySem.W.codeIn K cd_show_program "show_program" = true)
    (k_show_program : PySem.W.keepIn K (.ref f_show_program) = true)
    (n_number_in : PySem.W.nsIn K mainGlobals "number_in" = some (some (.ref f_number_in)))
    (l_number_in : K.lookup f_number_in = some ⟨oc_number_in, od_number_in, .func (PySem.W.fnOf "number_in" "number_in" (defArgs D30.1) (defBody D30.1) (defScope D30.1) .none kV_number_in dc_number_in pm_number_in an_number_in cd_number_in ct_number_in), sl_number_in⟩)
    (c_number_in : PySem.W.codeIn K cd_number_in "number_in" = true)
    (k_number_in : PySem.W.keepIn K (.ref f_number_in) = true)
    (n_read_row_number : PySem.W.nsIn K mainGlobals "read_row_number" = some (some (.ref f_read_row_number)))
    (l_read_row_number : K.lookup f_read_row_number = some ⟨oc_read_row_number, od_read_row_number, .func (PySem.W.fnOf "read_row_number" "read_row_number" (defArgs D31.1) (defBody D31.1) (defScope D31.1) .none kV_read_row_number dc_read_row_number pm_read_row_number an_read_row_number cd_read_row_number ct_read_row_number), sl_read_row_number⟩)
    (c_read_row_number : PySem.W.codeIn K cd_read_row_number "read_row_number" = true)
    (k_read_row_number : PySem.W.keepIn K (.ref f_read_row_number) = true)
    (n_read_worth : PySem.W.nsIn K mainGlobals "read_worth" = some (some (.ref f_read_worth)))
    (l_read_worth : K.lookup f_read_worth = some ⟨oc_read_worth, od_read_worth, .func (PySem.W.fnOf "read_worth" "read_worth" (defArgs D32.1) (defBody D32.1) (defScope D32.1) .none kV_read_worth dc_read_worth pm_read_worth an_read_worth cd_read_worth ct_read_worth), sl_read_worth⟩)
    (c_read_worth : PySem.W.codeIn K cd_read_worth "read_worth" = true)
    (k_read_worth : PySem.W.keepIn K (.ref f_read_worth) = true)
    (n_read_name : PySem.W.nsIn K mainGlobals "read_name" = some (some (.ref f_read_name)))
    (l_read_name : K.lookup f_read_name = some ⟨oc_read_name, od_read_name, .func (PySem.W.fnOf "read_name" "read_name" (defArgs D33.1) (defBody D33.1) (defScope D33.1) .none kV_read_name dc_read_name pm_read_name an_read_name cd_read_name ct_read_name), sl_read_name⟩)
    (c_read_name : PySem.W.codeIn K cd_read_name "read_name" = true)
    (k_read_name : PySem.W.keepIn K (.ref f_read_name) = true)
    (n_row_of : PySem.W.nsIn K mainGlobals "row_of" = some (some (.ref f_row_of)))
    (l_row_of : K.lookup f_row_of = some ⟨oc_row_of, od_row_of, .func (PySem.W.fnOf "row_of" "row_of" (defArgs D35.1) (defBody D35.1) (defScope D35.1) .none kV_row_of dc_row_of pm_row_of an_row_of cd_row_of ct_row_of), sl_row_of⟩)
    (c_row_of : PySem.W.codeIn K cd_row_of "row_of" = true)
    (k_row_of : PySem.W.keepIn K (.ref f_row_of) = true)
    (n_begins_part : PySem.W.nsIn K mainGlobals "begins_part" = some (some (.ref f_begins_part)))
    (l_begins_part : K.lookup f_begins_part = some ⟨oc_begins_part, od_begins_part, .func (PySem.W.fnOf "begins_part" "begins_part" (defArgs D36.1) (defBody D36.1) (defScope D36.1) .none kV_begins_part dc_begins_part pm_begins_part an_begins_part cd_begins_part ct_begins_part), sl_begins_part⟩)
    (c_begins_part : PySem.W.codeIn K cd_begins_part "begins_part" = true)
    (k_begins_part : PySem.W.keepIn K (.ref f_begins_part) = true)
    (n_stands : PySem.W.nsIn K mainGlobals "stands" = some (some (.ref f_stands)))
    (l_stands : K.lookup f_stands = some ⟨oc_stands, od_stands, .func (PySem.W.fnOf "stands" "stands" (defArgs D37.1) (defBody D37.1) (defScope D37.1) .none kV_stands dc_stands pm_stands an_stands cd_stands ct_stands), sl_stands⟩)
    (c_stands : PySem.W.codeIn K cd_stands "stands" = true)
    (k_stands : PySem.W.keepIn K (.ref f_stands) = true)
    (n_read_program : PySem.W.nsIn K mainGlobals "read_program" = some (some (.ref f_read_program)))
    (l_read_program : K.lookup f_read_program = some ⟨oc_read_program, od_read_program, .func (PySem.W.fnOf "read_program" "read_program" (defArgs D38.1) (defBody D38.1) (defScope D38.1) .none kV_read_program dc_read_program pm_read_program an_read_program cd_read_program ct_read_program), sl_read_program⟩)
    (c_read_program : PySem.W.codeIn K cd_read_program "read_program" = true)
    (k_read_program : PySem.W.keepIn K (.ref f_read_program) = true)
    (n__law_bag : PySem.W.nsIn K mainGlobals "_law_bag" = some (some (.ref f__law_bag)))
    (l__law_bag : K.lookup f__law_bag = some ⟨oc__law_bag, od__law_bag, .func (PySem.W.fnOf "_law_bag" "_law_bag" (defArgs D40.1) (defBody D40.1) (defScope D40.1) .none kV__law_bag dc__law_bag pm__law_bag an__law_bag cd__law_bag ct__law_bag), sl__law_bag⟩)
    (c__law_bag : PySem.W.codeIn K cd__law_bag "_law_bag" = true)
    (k__law_bag : PySem.W.keepIn K (.ref f__law_bag) = true)
    (n__law_take : PySem.W.nsIn K mainGlobals "_law_take" = some (some (.ref f__law_take)))
    (l__law_take : K.lookup f__law_take = some ⟨oc__law_take, od__law_take, .func (PySem.W.fnOf "_law_take" "_law_take" (defArgs D41.1) (defBody D41.1) (defScope D41.1) .none kV__law_take dc__law_take pm__law_take an__law_take cd__law_take ct__law_take), sl__law_take⟩)
    (c__law_take : PySem.W.codeIn K cd__law_take "_law_take" = true)
    (k__law_take : PySem.W.keepIn K (.ref f__law_take) = true)
    (n__law_names : PySem.W.nsIn K mainGlobals "_law_names" = some (some (.ref f__law_names)))
    (l__law_names : K.lookup f__law_names = some ⟨oc__law_names, od__law_names, .func (PySem.W.fnOf "_law_names" "_law_names" (defArgs D42.1) (defBody D42.1) (defScope D42.1) .none kV__law_names dc__law_names pm__law_names an__law_names cd__law_names ct__law_names), sl__law_names⟩)
    (c__law_names : PySem.W.codeIn K cd__law_names "_law_names" = true)
    (k__law_names : PySem.W.keepIn K (.ref f__law_names) = true)
    (n__law_worth : PySem.W.nsIn K mainGlobals "_law_worth" = some (some (.ref f__law_worth)))
    (l__law_worth : K.lookup f__law_worth = some ⟨oc__law_worth, od__law_worth, .func (PySem.W.fnOf "_law_worth" "_law_worth" (defArgs D43.1) (defBody D43.1) (defScope D43.1) .none kV__law_worth dc__law_worth pm__law_worth an__law_worth cd__law_worth ct__law_worth), sl__law_worth⟩)
    (c__law_worth : PySem.W.codeIn K cd__law_worth "_law_worth" = true)
    (k__law_worth : PySem.W.keepIn K (.ref f__law_worth) = true)
    (n__law_row : PySem.W.nsIn K mainGlobals "_law_row" = some (some (.ref f__law_row)))
    (l__law_row : K.lookup f__law_row = some ⟨oc__law_row, od__law_row, .func (PySem.W.fnOf "_law_row" "_law_row" (defArgs D44.1) (defBody D44.1) (defScope D44.1) .none kV__law_row dc__law_row pm__law_row an__law_row cd__law_row ct__law_row), sl__law_row⟩)
    (c__law_row : PySem.W.codeIn K cd__law_row "_law_row" = true)
    (k__law_row : PySem.W.keepIn K (.ref f__law_row) = true)
    (n__law_program : PySem.W.nsIn K mainGlobals "_law_program" = some (some (.ref f__law_program)))
    (l__law_program : K.lookup f__law_program = some ⟨oc__law_program, od__law_program, .func (PySem.W.fnOf "_law_program" "_law_program" (defArgs D45.1) (defBody D45.1) (defScope D45.1) .none kV__law_program dc__law_program pm__law_program an__law_program cd__law_program ct__law_program), sl__law_program⟩)
    (c__law_program : PySem.W.codeIn K cd__law_program "_law_program" = true)
    (k__law_program : PySem.W.keepIn K (.ref f__law_program) = true)
    (n__law_figures : PySem.W.nsIn K mainGlobals "_law_figures" = some (some (.ref f__law_figures)))
    (l__law_figures : K.lookup f__law_figures = some ⟨oc__law_figures, od__law_figures, .func (PySem.W.fnOf "_law_figures" "_law_figures" (defArgs D46.1) (defBody D46.1) (defScope D46.1) .none kV__law_figures dc__law_figures pm__law_figures an__law_figures cd__law_figures ct__law_figures), sl__law_figures⟩)
    (c__law_figures : PySem.W.codeIn K cd__law_figures "_law_figures" = true)
    (k__law_figures : PySem.W.keepIn K (.ref f__law_figures) = true)
    (n__law_written : PySem.W.nsIn K mainGlobals "_law_written" = some (some (.ref f__law_written)))
    (l__law_written : K.lookup f__law_written = some ⟨oc__law_written, od__law_written, .func (PySem.W.fnOf "_law_written" "_law_written" (defArgs D47.1) (defBody D47.1) (defScope D47.1) .none kV__law_written dc__law_written pm__law_written an__law_written cd__law_written ct__law_written), sl__law_written⟩)
    (c__law_written : PySem.W.codeIn K cd__law_written "_law_written" = true)
    (k__law_written : PySem.W.keepIn K (.ref f__law_written) = true)
    (n__law_sixteen : PySem.W.nsIn K mainGlobals "_law_sixteen" = some (some (.ref f__law_sixteen)))
    (l__law_sixteen : K.lookup f__law_sixteen = some ⟨oc__law_sixteen, od__law_sixteen, .func (PySem.W.fnOf "_law_sixteen" "_law_sixteen" (defArgs D48.1) (defBody D48.1) (defScope D48.1) .none kV__law_sixteen dc__law_sixteen pm__law_sixteen an__law_sixteen cd__law_sixteen ct__law_sixteen), sl__law_sixteen⟩)
    (c__law_sixteen : PySem.W.codeIn K cd__law_sixteen "_law_sixteen" = true)
    (k__law_sixteen : PySem.W.keepIn K (.ref f__law_sixteen) = true)
    (n__law_text : PySem.W.nsIn K mainGlobals "_law_text" = some (some (.ref f__law_text)))
    (l__law_text : K.lookup f__law_text = some ⟨oc__law_text, od__law_text, .func (PySem.W.fnOf "_law_text" "_law_text" (defArgs D49.1) (defBody D49.1) (defScope D49.1) .none kV__law_text dc__law_text pm__law_text an__law_text cd__law_text ct__law_text), sl__law_text⟩)
    (c__law_text : PySem.W.codeIn K cd__law_text "_law_text" = true)
    (k__law_text : PySem.W.keepIn K (.ref f__law_text) = true)
    (n_law : PySem.W.nsIn K mainGlobals "law" = some (some (.ref f_law)))
    (l_law : K.lookup f_law = some ⟨oc_law, od_law, .func (PySem.W.fnOf "law" "law" (defArgs D50.1) (defBody D50.1) (defScope D50.1) .none kV_law dc_law pm_law an_law cd_law ct_law), sl_law⟩)
    (c_law : PySem.W.codeIn K cd_law "law" = true)
    (k_law : PySem.W.keepIn K (.ref f_law) = true)
    (y_READS_put : PySem.W.nsIn K C_READS "put" = some (some (.ref f_read_worth)))
    (y_READS_get : PySem.W.nsIn K C_READS "get" = some (some (.ref f_read_name)))
    (y_READS_set : PySem.W.nsIn K C_READS "set" = some (some (.ref f_read_name)))
    (y_READS_look : PySem.W.nsIn K C_READS "look" = some (some (.ref f_read_name)))
    (y_READS_change : PySem.W.nsIn K C_READS "change" = some (some (.ref f_read_name)))
    (y_READS_call : PySem.W.nsIn K C_READS "call" = some (some (.ref f_read_name)))
    (y_READS_go : PySem.W.nsIn K C_READS "go" = some (some (.ref f_read_row_number)))
    (y_READS_if : PySem.W.nsIn K C_READS "if" = some (some (.ref f_read_row_number)))
    (y_READS_try : PySem.W.nsIn K C_READS "try" = some (some (.ref f_read_row_number))) : Nonempty (Txt w K mg) :=
  ⟨{ g_abs := PySem.W.mg_none_of X G zz_abs,
     g_all := PySem.W.mg_none_of X G zz_all,
     g_bool := PySem.W.mg_none_of X G zz_bool,
     g_enumerate := PySem.W.mg_none_of X G zz_enumerate,
     g_int := PySem.W.mg_none_of X G zz_int,
     g_isinstance := PySem.W.mg_none_of X G zz_isinstance,
     g_len := PySem.W.mg_none_of X G zz_len,
     g_list := PySem.W.mg_none_of X G zz_list,
     g_max := PySem.W.mg_none_of X G zz_max,
     g_min := PySem.W.mg_none_of X G zz_min,
     g_range := PySem.W.mg_none_of X G zz_range,
     g_repr := PySem.W.mg_none_of X G zz_repr,
     g_set := PySem.W.mg_none_of X G zz_set,
     g_str := PySem.W.mg_none_of X G zz_str,
     g_tuple := PySem.W.mg_none_of X G zz_tuple,
     k_ALONE := cst_texts (xs := ["add", "less", "times", "over", "same", "below", "twin", "swap", "away", "say", "back", "throw", "done", "lead", "turn"]) (PySem.W.mg_of X G n_ALONE) l_ALONE y_ALONE d_ALONE q_ALONE r_ALONE (by decide),
     k_BARE := cst_texts (xs := ["add", "less", "times", "over", "same", "below", "twin", "swap", "away", "say", "back", "throw", "done", "lead", "turn"]) (PySem.W.mg_of X G n_BARE) l_BARE y_BARE d_BARE q_BARE r_BARE (by decide),
     k_FIGURES := cst_str (PySem.W.mg_of X G n_FIGURES),
     k_LEADING := cst_texts (xs := ["go", "if", "try"]) (PySem.W.mg_of X G n_LEADING) l_LEADING y_LEADING d_LEADING q_LEADING r_LEADING (by decide),
     k_LETTERS := cst_str (PySem.W.mg_of X G n_LETTERS),
     k_MOST_FIGURES := cst_int (PySem.W.mg_of X G n_MOST_FIGURES),
     k_MOST_LETTERS := cst_int (PySem.W.mg_of X G n_MOST_LETTERS),
     k_MOST_LONG := cst_int (PySem.W.mg_of X G n_MOST_LONG),
     k_MOST_NAMES := cst_int (PySem.W.mg_of X G n_MOST_NAMES),
     k_MOST_PARTS := cst_int (PySem.W.mg_of X G n_MOST_PARTS),
     k_MOST_WORTH := cst_int (PySem.W.mg_of X G n_MOST_WORTH),
     k_MOST_WRITTEN := cst_int (PySem.W.mg_of X G n_MOST_WRITTEN),
     k_NAMED := cst_texts (xs := ["get", "set", "look", "change"]) (PySem.W.mg_of X G n_NAMED) l_NAMED y_NAMED d_NAMED q_NAMED r_NAMED (by decide),
     k_SIXTEEN := cst_str (PySem.W.mg_of X G n_SIXTEEN),
     C_READS := C_READS,
     g_READS := PySem.W.mg_of X G n_READS,
     d_READS := He.dicW_ok d_READS,
     y_READS_put := y_READS_put,
     y_READS_get := y_READS_get,
     y_READS_set := y_READS_set,
     y_READS_look := y_READS_look,
     y_READS_change := y_READS_change,
     y_READS_call := y_READS_call,
     y_READS_go := y_READS_go,
     y_READS_if := y_READS_if,
     y_READS_try := y_READS_try,
     a_is_whole := f_is_whole,
     d_is_whole := _,
     F_is_whole := fun_mk l_is_whole c_is_whole k_is_whole,
     g_is_whole := PySem.W.mg_of X G n_is_whole,
     a_is_worth := f_is_worth,
     d_is_worth := _,
     F_is_worth := fun_mk l_is_worth c_is_worth k_is_worth,
     g_is_worth := PySem.W.mg_of X G n_is_worth,
     a_is_name := f_is_name,
     d_is_name := _,
     F_is_name := fun_mk l_is_name c_is_name k_is_name,
     g_is_name := PySem.W.mg_of X G n_is_name,
     a_are_unlike_names := f_are_unlike_names,
     d_are_unlike_names := _,
     F_are_unlike_names := ⟨⟨_, _, _, _, _, _, _, _, _, _, rfl, l_are_unlike_names, c_are_unlike_names, .inl ⟨rfl, rfl⟩, .inr ⟨D_are_unlike_names, rfl, fun q hq => by cases List.mem_singleton.mp hq; exact ⟨_, w_are_unlike_names_least, v_are_unlike_names_least⟩⟩⟩, k_are_unlike_names⟩,
     g_are_unlike_names := PySem.W.mg_of X G n_are_unlike_names,
     a_is_led_to := f_is_led_to,
     d_is_led_to := _,
     F_is_led_to := fun_mk l_is_led_to c_is_led_to k_is_led_to,
     g_is_led_to := PySem.W.mg_of X G n_is_led_to,
     a_is_row := f_is_row,
     d_is_row := _,
     F_is_row := fun_mk l_is_row c_is_row k_is_row,
     g_is_row := PySem.W.mg_of X G n_is_row,
     a_is_headed := f_is_headed,
     d_is_headed := _,
     F_is_headed := fun_mk l_is_headed c_is_headed k_is_headed,
     g_is_headed := PySem.W.mg_of X G n_is_headed,
     a_is_program := f_is_program,
     d_is_program := _,
     F_is_program := fun_mk l_is_program c_is_program k_is_program,
     g_is_program := PySem.W.mg_of X G n_is_program,
     a_look_program := f_look_program,
     d_look_program := _,
     F_look_program := fun_mk l_look_program c_look_program k_look_program,
     g_look_program := PySem.W.mg_of X G n_look_program,
     a_show_row := f_show_row,
     d_show_row := _,
     F_show_row := fun_mk l_show_row c_show_row k_show_row,
     g_show_row := PySem.W.mg_of X G n_show_row,
     a_show_program := f_show_program,
     d_show_program := _,
     F_show_program := fun_mk l_show_program c_show_program k_show_program,
     g_show_program := PySem.W.mg_of X G n_show_program,
     a_number_in := f_number_in,
     d_number_in := _,
     F_number_in := fun_mk l_number_in c_number_in k_number_in,
     g_number_in := PySem.W.mg_of X G n_number_in,
     a_read_row_number := f_read_row_number,
     d_read_row_number := _,
     F_read_row_number := fun_mk l_read_row_number c_read_row_number k_read_row_number,
     g_read_row_number := PySem.W.mg_of X G n_read_row_number,
     a_read_worth := f_read_worth,
     d_read_worth := _,
     F_read_worth := fun_mk l_read_worth c_read_worth k_read_worth,
     g_read_worth := PySem.W.mg_of X G n_read_worth,
     a_read_name := f_read_name,
     d_read_name := _,
     F_read_name := fun_mk l_read_name c_read_name k_read_name,
     g_read_name := PySem.W.mg_of X G n_read_name,
     a_row_of := f_row_of,
     d_row_of := _,
     F_row_of := fun_mk l_row_of c_row_of k_row_of,
     g_row_of := PySem.W.mg_of X G n_row_of,
     a_begins_part := f_begins_part,
     d_begins_part := _,
     F_begins_part := fun_mk l_begins_part c_begins_part k_begins_part,
     g_begins_part := PySem.W.mg_of X G n_begins_part,
     a_stands := f_stands,
     d_stands := _,
     F_stands := fun_mk l_stands c_stands k_stands,
     g_stands := PySem.W.mg_of X G n_stands,
     a_read_program := f_read_program,
     d_read_program := _,
     F_read_program := fun_mk l_read_program c_read_program k_read_program,
     g_read_program := PySem.W.mg_of X G n_read_program,
     a__law_bag := f__law_bag,
     d__law_bag := _,
     F__law_bag := fun_mk l__law_bag c__law_bag k__law_bag,
     g__law_bag := PySem.W.mg_of X G n__law_bag,
     a__law_take := f__law_take,
     d__law_take := _,
     F__law_take := fun_mk l__law_take c__law_take k__law_take,
     g__law_take := PySem.W.mg_of X G n__law_take,
     a__law_names := f__law_names,
     d__law_names := _,
     F__law_names := fun_mk l__law_names c__law_names k__law_names,
     g__law_names := PySem.W.mg_of X G n__law_names,
     a__law_worth := f__law_worth,
     d__law_worth := _,
     F__law_worth := fun_mk l__law_worth c__law_worth k__law_worth,
     g__law_worth := PySem.W.mg_of X G n__law_worth,
     a__law_row := f__law_row,
     d__law_row := _,
     F__law_row := fun_mk l__law_row c__law_row k__law_row,
     g__law_row := PySem.W.mg_of X G n__law_row,
     a__law_program := f__law_program,
     d__law_program := _,
     F__law_program := fun_mk l__law_program c__law_program k__law_program,
     g__law_program := PySem.W.mg_of X G n__law_program,
     a__law_figures := f__law_figures,
     d__law_figures := _,
     F__law_figures := fun_mk l__law_figures c__law_figures k__law_figures,
     g__law_figures := PySem.W.mg_of X G n__law_figures,
     a__law_written := f__law_written,
     d__law_written := _,
     F__law_written := fun_mk l__law_written c__law_written k__law_written,
     g__law_written := PySem.W.mg_of X G n__law_written,
     a__law_sixteen := f__law_sixteen,
     d__law_sixteen := _,
     F__law_sixteen := fun_mk l__law_sixteen c__law_sixteen k__law_sixteen,
     g__law_sixteen := PySem.W.mg_of X G n__law_sixteen,
     a__law_text := f__law_text,
     d__law_text := _,
     F__law_text := fun_mk l__law_text c__law_text k__law_text,
     g__law_text := PySem.W.mg_of X G n__law_text,
     a_law := f_law,
     d_law := _,
     F_law := fun_mk l_law c_law k_law,
     g_law := PySem.W.mg_of X G n_law }⟩
theorem fin (hl : ∀ C_READS C_read_name C_read_row_number C_read_worth : Addr, C_read_name ≠ C_read_row_number → C_read_name ≠ C_read_worth → C_read_row_number ≠ C_read_worth → ∀ ns : List Int, ns.length ≤ 63 → (∀ z ∈ ns, Builtin.Int.intBits z ≤ 1048576) → ∃ h, F_law C_READS C_read_name C_read_row_number C_read_worth [.scr ns] [] = .ok (.bl true) h) {l : PySem.W.OpenLaw} {w : World} {K : PySem.W.Frag} {mg : Str → Option Value} {fa : Addr} (hfa : mg "law" = some (.ref fa)) (N : Nonempty (Txt w K mg)) :
    ∃ fd : FuncData, (∀ (s : Shared) (v : Value), BindsTo s fd ⟨[v], []⟩ [("_law_script", v)]) ∧ ∀ base : Heap, K.In base → base.Ns mainGlobals mg → FnG l.prog w K mg base CX0 7 fa fd ["_law_script"] (spLaw K) := by
  obtain ⟨T⟩ := N
  have e := hfa.symm.trans T.g_law
  cases e
  refine ⟨T.d_law, fun s v => ?_, fun base _ _ => ok_law T (hl T.C_READS T.a_read_name T.a_read_row_number T.a_read_worth (fun_ne T.F_read_name T.F_read_row_number (by decide +kernel)) (fun_ne T.F_read_name T.F_read_worth (by decide +kernel)) (fun_ne T.F_read_row_number T.F_read_worth (by decide +kernel)))⟩
  obtain ⟨_, _, _, _, _, _, _, _, _, e, _⟩ := T.F_law.ex
  rw [e]
  exact .of_eq rfl
end K68
set_option Elab.async false
set_option maxRecDepth 100000
set_option linter.unusedVariables false
set_option linter.unusedSimpArgs false
namespace K68
open PySem PySem.Spec PyProof.Rows L2 Z
def isWhole (w : Val) : Bool := Z.isInt w && !isBl w
theorem ev_whole {w : Val} {h : HH} (e : pl w = true) : F_is_whole [w] h = .ok (.bl (isWhole w)) h := by
  rw [e_is_whole]
  unfold m_is_whole isWhole
  simp [isi_int e, isi_bool e]
  cases Z.isInt w <;> cases isBl w <;> simp
def letters : Str := "abcdefghijklmnopqrstuvwxyz"
def lt1 (w : Val) : Bool := match w with
  | .str c => !(Builtin.Str.occurrences letters c 0 letters.length 1).isEmpty
  | _ => false
def nameB (x : Str) : Bool := decide ((1 : Int) ≤ (x.length : Nat)) && (decide (((x.length : Nat) : Int) ≤ 8) && (Z.signs x).all lt1)
def isName (w : Val) : Bool := match w with
  | .str x => nameB x
  | _ => false
theorem ev_name {w : Val} {h : HH} (e : pl w = true) : F_is_name [w] h = .ok (.bl (isName w)) h := by
  rw [e_is_name]
  cases w with
  | str x =>
    have hl := pl_str e
    have hc : sLc (iVal (sVar 0)) (gNm 1) tYesZ (sBin (bIn false) (sVar 1) (sC c_LETTERS)) [1] [some (.str x), none] h = .ok (.lst ((Z.signs x).map fun w => .bl (lt1 w))) h := by
      refine sLc_map (f := fun w => .bl (lt1 w)) ?_ fun w hw => ?_
      · simp [itmV_str hl]
      · obtain ⟨c, _, rfl⟩ := List.mem_map.mp hw
        rfl
    simp [m_is_name, isi_str e, isStr, len_str hl, hc, fAll_map, isName, nameB, c_MOST_LETTERS]
    by_cases c1 : (1 : Int) ≤ (x.length : Int) <;> by_cases c2 : (x.length : Int) ≤ 8 <;> simp [c1, c2, hc, fAll_map]
  | _ => first | (simp [m_is_name, isi_str e, isStr, isName]; done) | cases e
/-! ### unlike names -/
theorem txts_some : ∀ {xs : List Val}, xs.all isStr = true → ∃ ys, txts xs = some ys
  | [], _ => ⟨[], rfl⟩
  | x :: xs, e => by
    rw [List.all_cons, Bool.and_eq_true] at e
    obtain ⟨ys, h⟩ := txts_some e.2
    cases x with
    | str y => exact ⟨y :: ys, by unfold txts; rw [h]; rfl⟩
    | _ => cases e.1
theorem name_str {w : Val} (h : isName w = true) : isStr w = true := by cases w <;> first | rfl | cases h
theorem all_imp {xs : List Val} {p q : Val → Bool} (i : ∀ w, p w = true → q w = true) (h : xs.all p = true) : xs.all q = true := by
  rw [List.all_eq_true] at h ⊢
  exact fun w hw => i w (h w hw)
def nodB (xs : List Val) : Bool := match txts xs with
  | some ys => decide (ZS.dcnt ys = xs.length)
  | none => false
def unlike (least most : Int) (w : Val) : Bool := match w with
  | .tup xs => decide (least ≤ ((xs.length : Nat) : Int)) && (decide (((xs.length : Nat) : Int) ≤ most) && (xs.all isName && nodB xs))
  | _ => false
theorem lset_ev {xs : List Val} {h : HH} (e : xs.all isStr = true) (l : xs.length ≤ 1000) : ∃ k, uLset (.tup xs) h = .ok (.int (k : Nat)) h ∧ decide (k = xs.length) = nodB xs := by
  obtain ⟨ys, hy⟩ := txts_some e
  have hl := txts_len hy
  refine ⟨ZS.dcnt ys, ?_, ?_⟩
  · show (match txts xs with | some ys => if ys.length + 1 < scanBound then Out.ok (Val.int (ZS.dcnt ys : Nat)) h else .bad | none => .bad) = _
    rw [hy]
    dsimp only
    rw [if_pos (by unfold scanBound; omega)]
  · unfold nodB
    rw [hy]
theorem ev_unlike {w : Val} {h : HH} {most least : Int} (e : pl w = true) (hm : most ≤ 1000) : F_are_unlike_names [w, .int most, .int least] h = .ok (.bl (unlike least most w)) h := by
  rw [e_are_unlike_names]
  cases w with
  | tup xs =>
    have hp : ∀ w ∈ xs, pl w = true := pl_mem e
    have hc : sLc (iVal (sVar 0)) (gNm 3) tYesZ (sCall F_is_name 1 0 1 (fun ws _ => ws) (aCons (sVar 3) aNil) aNil) [3] [some (.tup xs), some (.int most), some (.int least), none] h = .ok (.lst (xs.map fun w => .bl (isName w))) h := by
      refine sLc_map (f := fun w => .bl (isName w)) ?_ fun w hw => ?_
      · simp
      · simp [wipeN, sVar, ev_name (hp w hw)]
    simp [m_are_unlike_names, isi_tuple e, isTup, unlike, hc, fAll_map, sVar]
    by_cases c1 : least ≤ (xs.length : Int)
    · by_cases c2 : (xs.length : Int) ≤ most
      · cases c3 : xs.all isName with
        | true =>
          obtain ⟨k, h1, h2⟩ := lset_ev (h := h) (all_imp (fun w => name_str) c3) (by omega)
          simp [c1, c2, c3, hc, fAll_map, sVar, h1, ← h2]
          omega
        | false => simp [c1, c2, c3, hc, fAll_map, sVar]
      · simp [c1, c2, sVar]
    · simp [c1, sVar]
  | _ => first | (simp [m_are_unlike_names, isi_tuple e, isTup, unlike]; done) | cases e
/-! ### a headed part -/
def rowsB (w : Val) : Bool := match w with
  | .tup rows => decide ((1 : Int) ≤ ((rows.length : Nat) : Int)) && decide (((rows.length : Nat) : Int) ≤ 60)
  | _ => false
def headed (w : Val) : Bool := match w with
  | .tup [a, b, c] => isName a && (unlike 0 3 b && rowsB c)
  | _ => false
theorem ev_headed {w : Val} {h : HH} (e : pl w = true) : F_is_headed [w] h = .ok (.bl (headed w)) h := by
  rw [e_is_headed]
  cases w with
  | tup xs =>
    match xs, e with
    | [], e => simp [m_is_headed, isi_tuple e, isTup, headed]
    | [a], e => simp [m_is_headed, isi_tuple e, isTup, headed]
    | [a, b], e => simp [m_is_headed, isi_tuple e, isTup, headed]
    | [a, b, c], e =>
      have ha : pl a = true := pl_mem e a (by simp)
      have hb : pl b = true := pl_mem e b (by simp)
      have hc : pl c = true := pl_mem e c (by simp)
      simp [m_is_headed, isi_tuple e, isTup, headed, ev_name ha, c_MOST_NAMES]
      cases isName a with
      | false => simp
      | true =>
        simp [g_bz_are_unlike_names_1_most, ev_unlike (most := 3) (least := 0) hb (by omega)]
        cases unlike 0 3 b with
        | false => simp
        | true =>
          cases c with
          | tup rows =>
            simp [isi_tuple hc, isTup, rowsB, c_MOST_LONG]
            by_cases c1 : (1 : Int) ≤ (rows.length : Int) <;> by_cases c2 : (rows.length : Int) ≤ 60 <;> simp [c1, c2]
          | _ => first | (simp [isi_tuple hc, isTup, rowsB]; done) | cases hc
    | a :: b :: c :: d :: r, e =>
      have : ¬ ((r.length : Int) + 1 + 1 + 1 + 1 = 3) := by omega
      simp [m_is_headed, isi_tuple e, isTup, headed, this]
  | _ => first | (simp [m_is_headed, isi_tuple e, isTup, headed]; done) | cases e
/-! ### rows -/
def anyS (xs : List Str) (x : Str) : Bool := (xs.map Val.str).any fun y => eqF y (.str x)
theorem anyS_eq (xs : List Str) (x : Str) : anyS xs x = xs.any (fun y => y == x) := by
  unfold anyS
  rw [List.any_map]
  rfl
def ALONE : List Str := ["add", "less", "times", "over", "same", "below", "twin", "swap", "away", "say", "back", "throw", "done", "lead", "turn"]
def isWorth (w : Val) : Bool := match w with
  | .int i => decide ((if i < 0 then -i else i) ≤ 1000000000000)
  | _ => false
theorem ev_worth {w : Val} {h : HH} (e : pl w = true) : F_is_worth [w] h = .ok (.bl (isWorth w)) h := by
  rw [e_is_worth]
  cases w with
  | int i =>
    have e2 : fAbs [.int i] h = .ok (.int (if i < 0 then -i else i)) h := rfl
    simp [m_is_worth, ev_whole e, isWhole, Z.isInt, isBl, e2, c_MOST_WORTH, isWorth]
  | _ => first | (simp [m_is_worth, ev_whole e, isWhole, Z.isInt, isBl, isWorth]; done) | cases e
/-- goes there -/
def led (x : Str) (b : Val) (at' n : Int) : Bool := match b with
  | .int i => decide (0 ≤ i) && (decide (i < n) && (!decide (x = "try") || !decide (i = at' + 1)))
  | _ => false
theorem ev_led {x : Str} {b : Val} {at' : Int} {rows : List Val} {h : HH} (e : pl b = true) : F_is_led_to [.tup [.str x, b], .int at', .tup rows] h = .ok (.bl (led x b at' (rows.length : Nat))) h := by
  rw [e_is_led_to]
  cases b with
  | int i =>
    simp [m_is_led_to, ev_whole e, isWhole, Z.isInt, isBl, led]
    by_cases c1 : 0 ≤ i
    · have d1 : ¬ i < 0 := by omega
      by_cases c2 : i < (rows.length : Int)
      · have d2 : ¬ (rows.length : Int) ≤ i := by omega
        by_cases c3 : x = "try"
        · simp [c1, c2, c3, d1, d2]
        · simp [c1, c2, c3, d1, d2]
      · have d2 : (rows.length : Int) ≤ i := by omega
        simp [c1, c2, d1, d2]
    · have d1 : i < 0 := by omega
      simp [c1, d1]
  | _ => first | (simp [m_is_led_to, ev_whole e, isWhole, Z.isInt, isBl, led]; done) | cases e
def rowB (r : Val) (at' n : Int) (called : List Val) : Bool := match r with
  | .tup (.str x :: rest) => if anyS ALONE x = true then rest.isEmpty else match rest with
    | [b] => if x = "put" then isWorth b else if x = "call" then (isName b && called.any fun y => eqF y b) else if anyS ["go", "if", "try"] x = true then led x b at' n else anyS ["get", "set", "look", "change"] x && isName b
    | _ => false
  | _ => false
theorem flat_str {w : Val} (h : isStr w = true) : flat w = true := by cases w <;> first | rfl | cases h
theorem name_flat {b : Val} (h : isName b = true) : flat b = true := flat_str (name_str h)
theorem ev_row {r : Val} {at' : Int} {rows called : List Val} {h : HH} (e : pl r = true) (fc : called.all flat = true) : F_is_row [r, .int at', .tup rows, .tup called] h = .ok (.bl (rowB r at' (rows.length : Nat) called)) h := by
  rw [e_is_row]
  cases r with
  | tup xs =>
    match xs, e with
    | [], e => simp [m_is_row, isi_tuple e, isTup, bEq_unit e, isUnit, rowB]
    | a :: rest, e =>
      have ha : pl a = true := pl_mem e a (by simp)
      cases a with
      | str x =>
        have i1 : bIn false (.str x) c_ALONE h = .ok (.bl (anyS ALONE x)) h := in_t rfl (by decide +kernel)
        have i2 : bIn false (.str x) c_LEADING h = .ok (.bl (anyS ["go", "if", "try"] x)) h := in_t rfl (by decide +kernel)
        have i3 : bIn false (.str x) c_NAMED h = .ok (.bl (anyS ["get", "set", "look", "change"] x)) h := in_t rfl (by decide +kernel)
        have eu : isUnit (.tup (.str x :: rest)) = false := rfl
        cases c1 : anyS ALONE x with
        | true =>
          simp [m_is_row, isi_tuple e, isTup, bEq_unit e, eu, isi_str ha, isStr, rowB, i1, c1]
          cases rest with
          | nil => simp
          | cons y ys => simp; omega
        | false =>
          match rest, e with
          | [], e => simp [m_is_row, isi_tuple e, isTup, bEq_unit e, isUnit, isi_str ha, isStr, rowB, i1, c1]
          | y :: z :: ys, e =>
            have : ¬ ((ys.length : Int) + 1 + 1 + 1 = 2) := by omega
            simp [m_is_row, isi_tuple e, isTup, bEq_unit e, isUnit, isi_str ha, isStr, rowB, i1, c1, this]
          | [b], e =>
            have hb : pl b = true := pl_mem e b (by simp)
            by_cases c2 : x = "put"
            · subst c2
              simp [m_is_row, isi_tuple e, isTup, bEq_unit e, isUnit, isi_str ha, isStr, rowB, i1, c1, ev_worth hb]
            · by_cases c3 : x = "call"
              · subst c3
                cases c4 : isName b with
                | false => simp [m_is_row, isi_tuple e, isTup, bEq_unit e, isUnit, isi_str ha, isStr, rowB, i1, c1, ev_name hb, c2, c4]
                | true => simp [m_is_row, isi_tuple e, isTup, bEq_unit e, isUnit, isi_str ha, isStr, rowB, i1, c1, ev_name hb, c2, c4, in_t (name_flat c4) fc]
              · cases c4 : anyS ["go", "if", "try"] x with
                | true => simp [m_is_row, isi_tuple e, isTup, bEq_unit e, isUnit, isi_str ha, isStr, rowB, i1, c1, c2, c3, i2, c4, ev_led hb]
                | false =>
                  cases c5 : anyS ["get", "set", "look", "change"] x with
                  | true => simp [m_is_row, isi_tuple e, isTup, bEq_unit e, isUnit, isi_str ha, isStr, rowB, i1, c1, c2, c3, i2, c4, i3, c5, ev_name hb]
                  | false => simp [m_is_row, isi_tuple e, isTup, bEq_unit e, isUnit, isi_str ha, isStr, rowB, i1, c1, c2, c3, i2, c4, i3, c5, ev_name hb]
      | _ => first | (simp [m_is_row, isi_tuple e, isTup, bEq_unit e, isUnit, isi_str ha, isStr, rowB]; done) | cases ha
  | _ => first | (simp [m_is_row, isi_tuple e, isTup, rowB]; done) | cases e
/-! ### programs -/
def hd0 (w : Val) : Val := match w with
  | .tup (a :: _) => a
  | _ => .non
def rowsOf (f : Val → Int → Bool) (rows : List Val) : List Bool := (prs 0 rows).map fun z => match z with
  | .tup [.int i, r] => f r i
  | _ => false
def FB (called : List Val) (p : Val) : List Bool := match p with
  | .tup [_, _, .tup rows] => rowsOf (fun r i => rowB r i (rows.length : Nat) called) rows
  | _ => []
def progB (w : Val) : Bool := match w with
  | .tup ps => ps.all headed && (unlike 1 8 (.tup (ps.map hd0)) && (ps.flatMap (FB (ps.map hd0))).all id)
  | _ => false
def headL (p : Val) : Bool := match p with
  | .tup [a, _, _] => isName a
  | _ => false
theorem headed_headL {p : Val} (h : headed p = true) : headL p = true := by
  unfold headed at h
  split at h
  · rw [Bool.and_eq_true] at h
    exact h.1
  · cases h
theorem headL_is {p : Val} (h : headL p = true) : ∃ a b c, p = .tup [a, b, c] ∧ isName a = true := by
  unfold headL at h
  split at h
  · exact ⟨_, _, _, rfl, h⟩
  · cases h
theorem heads_pl {ps : List Val} (e : pl (.tup ps) = true) (g : ps.all headL = true) : pl (.tup (ps.map hd0)) = true := by
  refine pl_tup (by rw [List.length_map]; exact pl_len e) fun w hw => ?_
  obtain ⟨p, hp, rfl⟩ := List.mem_map.mp hw
  obtain ⟨a, b, c, rfl, _⟩ := headL_is (List.all_eq_true.mp g p hp)
  exact pl_mem (pl_mem e _ hp) a (by simp)
theorem heads_names {ps : List Val} (g : ps.all headL = true) : (ps.map hd0).all isName = true := by
  rw [List.all_map, List.all_eq_true]
  intro p hp
  obtain ⟨a, b, c, rfl, h⟩ := headL_is (List.all_eq_true.mp g p hp)
  exact h
theorem heads_flat {ps : List Val} (g : ps.all headL = true) : (ps.map hd0).all flat = true := all_imp (fun w => name_flat) (heads_names g)
theorem heads_lc {ps : List Val} {i : Nat} {mi : SI} {own : List Nat} {ro : En} {h : HH} (g : ps.all headL = true) (e : mi ro h = .ok (.st ps, ps.length) h) (hs : ∀ w, sVar i ((wipeN ro own).set i (some w)) h = .ok w h) :
    sLc mi (gNm i) tYesZ (sBin bIx (sVar i) (sC (.int 0))) own ro h = .ok (.lst (ps.map hd0)) h := by
  refine sLc_map e fun w hw => ?_
  obtain ⟨a, b, c, rfl, _⟩ := headL_is (List.all_eq_true.mp g w hw)
  simp [hs, hd0]
theorem prs_mem {z : Val} : ∀ {xs : List Val} {k : Nat}, z ∈ prs k xs → ∃ (i : Int) (r : Val), z = .tup [.int i, r] ∧ r ∈ xs
  | [], k, h => by simp [prs] at h
  | x :: xs, k, h => by
    unfold prs at h
    rcases List.mem_cons.mp h with rfl | h
    · exact ⟨_, _, rfl, List.mem_cons_self⟩
    · obtain ⟨i, r, e, m⟩ := prs_mem h
      exact ⟨i, r, e, List.mem_cons_of_mem _ m⟩
theorem prs_len : ∀ (xs : List Val) (k : Nat), (prs k xs).length = xs.length
  | [], _ => rfl
  | x :: xs, k => by
    show (prs _ xs).length + 1 = _
    rw [prs_len xs]; rfl
theorem ev_program {w : Val} {h : HH} (e : pl w = true) : F_is_program [w] h = .ok (.bl (progB w)) h := by
  rw [e_is_program]
  cases w with
  | tup ps =>
    have hp := pl_mem e
    have hl := pl_len e
    have hc : ∀ a b c d e' f g' : Option Val, sLc (iVal (sVar 0)) (gNm 2) tYesZ (sCall F_is_headed 1 0 1 (fun ws _ => ws) (aCons (sVar 2) aNil) aNil) [2] [some (.tup ps), a, b, c, d, e', f, g'] h = .ok (.lst (ps.map fun w => .bl (headed w))) h := by
      intro a b c d e' f g'
      refine sLc_map (f := fun w => .bl (headed w)) ?_ fun w hw => ?_
      · simp
      · simp [wipeN, ev_headed (hp w hw)]
    cases ca : ps.all headed with
    | false => simp [m_is_program, isi_tuple e, isTup, hc, fAll_map, ca, progB]
    | true =>
      have ga : ps.all headL = true := all_imp (fun w => headed_headL) ca
      have hh : ∀ a b c d e' f g' : Option Val, sLc (iVal (sVar 0)) (gNm 2) tYesZ (sBin bIx (sVar 2) (sC (.int 0))) [2] [some (.tup ps), a, b, c, d, e', f, g'] h = .ok (.lst (ps.map hd0)) h := by
        intro a b c d e' f g'
        exact heads_lc ga (by simp) fun w => by simp [wipeN]
      have hu := ev_unlike (most := 8) (least := 1) (h := h) (heads_pl e ga) (by omega)
      cases cu : unlike 1 8 (.tup (ps.map hd0)) with
      | false => simp [m_is_program, isi_tuple e, isTup, hc, fAll_map, ca, hh, g_bz_are_unlike_names_1_most_least, c_MOST_PARTS, hu, cu, progB]
      | true =>
        have h2 : sLc2 (iVal (sVar 0)) (gTp 3 (gsCons (gNm 3) (gsCons (gNm 4) (gsCons (gNm 5) gsNil)))) tYesZ (iEn (aCons (sVar 5) aNil)) (gTp 2 (gsCons (gNm 6) (gsCons (gNm 7) gsNil))) tYesZ
            (sCall F_is_row 4 0 4 (fun ws _ => ws) (aCons (sVar 7) (aCons (sVar 6) (aCons (sVar 5) (aCons (sVar 1) aNil)))) aNil) [3, 4, 5, 6, 7] [6, 7] [some (.tup ps), some (.tup (ps.map hd0)), none, none, none, none, none, none] h = .ok (.lst (ps.flatMap fun p => (FB (ps.map hd0) p).map Val.bl)) h := by
          have l8 : ps.length ≤ 8 := by
            unfold unlike at cu
            simp at cu
            omega
          refine sLc2_gen (xs := ps) (fun p => (FB (ps.map hd0) p).map Val.bl) (by simp) (by omega) fun w hw => ?_
          have hd := List.all_eq_true.mp ca w hw
          obtain ⟨a, b, c, rfl, _⟩ := headL_is (headed_headL hd)
          have hq := pl_mem (hp _ hw)
          cases c with
          | tup rows =>
            have hr := pl_mem (hq _ (by simp : Val.tup rows ∈ [a, b, .tup rows]))
            refine ⟨[some (.tup ps), some (.tup (ps.map hd0)), none, some a, some b, some (.tup rows), none, none], prs 0 rows, fun z => match z with
              | .tup [.int i, r] => .bl (rowB r i (rows.length : Nat) (ps.map hd0))
              | _ => .bl false, rfl, by simp [prs_len], by rw [prs_len]; exact pl_len (hq _ (by simp : Val.tup rows ∈ [a, b, .tup rows])), ?_, ?_⟩
            · unfold FB rowsOf
              dsimp only
              rw [List.map_map]
              refine List.map_congr_left fun z hz => ?_
              obtain ⟨i, r, rfl, _⟩ := prs_mem hz
              rfl
            · intro z hz
              obtain ⟨i, r, rfl, hm⟩ := prs_mem hz
              exact ⟨_, rfl, by simp [wipeN, ev_row (hr r hm) (heads_flat ga)]⟩
          | _ => simp [headed, rowsB] at hd
        have e3 : (ps.flatMap fun p => (FB (ps.map hd0) p).map Val.bl) = (ps.flatMap (FB (ps.map hd0))).map Val.bl := by rw [List.map_flatMap]
        rw [e3] at h2
        have e4 : progB (.tup ps) = (ps.flatMap (FB (ps.map hd0))).all id := by
          show (ps.all headed && (unlike 1 8 (.tup (ps.map hd0)) && _)) = _
          rw [ca, cu]; rfl
        rw [e4]
        simp only [m_is_program, nSeq_e, nIf_e, cOr_e, cNot_e, cV_e, sArgs_e, aCons_e, sVar_0, sC_e, aNil_e, ob_ok, isi_tuple e, isTup, tr_bl, Bool.not_true, sb_ok, Bool.false_eq_true, if_false, hc, fAll_map, ca, nNext_e, sq_nx, nSet_e, hh, fTpl_l, List.set_cons_zero, List.set_cons_succ, sCall_e, sVar_1, sVar_s]
        simp [g_bz_are_unlike_names_1_most_least, c_MOST_PARTS, hu, cu, h2, fAll_bls]
  | _ => first | (simp [m_is_program, isi_tuple e, isTup, progB]; done) | cases e
end K68
set_option Elab.async false
set_option maxRecDepth 100000
set_option linter.unusedVariables false
set_option linter.unusedSimpArgs false
namespace Z
open PySem PySem.Spec PyProof.Rows L2
/-! ### how long a repr may be -/
mutual
def sz : Val → Nat
  | .non => 5
  | .bl _ => 5
  | .int _ => 60
  | .str x => 10 * x.length + 2
  | .tup xs => szs xs + 3
  | .lst xs => szs xs + 3
  | .ref _ => 5
  | .glo _ => 5
  | .ty _ => 5
  | .scr _ => 5
def szs : List Val → Nat
  | [] => 0
  | x :: xs => sz x + 2 + szs xs
end
theorem szs_app : ∀ xs ys : List Val, szs (xs ++ ys) = szs xs + szs ys
  | [], ys => by simp [szs]
  | x :: xs, ys => by
    show sz x + 2 + szs (xs ++ ys) = sz x + 2 + szs xs + szs ys
    rw [szs_app xs ys]; omega
theorem szs_take (n : Nat) (xs : List Val) : szs (xs.take n) ≤ szs xs := by
  have := szs_app (xs.take n) (xs.drop n)
  rw [List.take_append_drop] at this
  omega
theorem szs_drop (n : Nat) (xs : List Val) : szs (xs.drop n) ≤ szs xs := by
  have := szs_app (xs.take n) (xs.drop n)
  rw [List.take_append_drop] at this
  omega
theorem szs_cut (n : Nat) (xs : List Val) : szs (xs.take n) + szs (xs.drop n) = szs xs := by
  rw [← szs_app, List.take_append_drop]
theorem szs_at {n : Nat} {xs : List Val} {x : Val} (e : xs[n]? = some x) : szs (xs.take n) + (sz x + 2) + szs (xs.drop (n + 1)) = szs xs := by
  have l := (List.getElem?_eq_some_iff.mp e).1
  have d : xs.drop n = x :: xs.drop (n + 1) := by
    rw [List.drop_eq_getElem_cons l]
    congr 1
    exact (List.getElem?_eq_some_iff.mp e).2
  have := szs_cut n xs
  rw [d] at this
  show szs (xs.take n) + (sz x + 2) + szs (xs.drop (n + 1)) = szs xs
  have e2 : szs (x :: xs.drop (n + 1)) = sz x + 2 + szs (xs.drop (n + 1)) := rfl
  omega
/-- plain, at most d deep, its numbers and lengths bounded -/
def fine (n : Nat) : Nat → Val → Bool
  | _, .non => true
  | _, .bl _ => true
  | _, .int i => decide (i.natAbs ≤ 10 ^ 39 + n)
  | _, .str x => PyData.strOk x && decide (x.length ≤ 20)
  | d + 1, .tup xs => decide (xs.length ≤ 100 + n) && xs.all (fine n d)
  | d + 1, .lst xs => decide (xs.length ≤ 100 + n) && xs.all (fine n d)
  | _, _ => false
theorem fine_mono {n m : Nat} (h : n ≤ m) : ∀ (d e : Nat) (w : Val), d ≤ e → fine n d w = true → fine m e w = true := by
  intro d
  induction d with
  | zero =>
    intro e w _ q
    cases w with
    | int i =>
      have q' : decide (i.natAbs ≤ 10 ^ 39 + n) = true := q
      rw [decide_eq_true_eq] at q'
      have : fine m e (.int i) = decide (i.natAbs ≤ 10 ^ 39 + m) := by cases e <;> rfl
      rw [this, decide_eq_true_eq]
      exact Nat.le_trans q' (Nat.add_le_add_left h _)
    | str x => cases e <;> exact q
    | non => cases e <;> rfl
    | bl _ => cases e <;> rfl
    | _ => cases q
  | succ d ih =>
    intro e w l q
    obtain ⟨e, rfl⟩ : ∃ e', e = e' + 1 := ⟨e - 1, by omega⟩
    cases w with
    | int i =>
      have q' : decide (i.natAbs ≤ 10 ^ 39 + n) = true := q
      rw [decide_eq_true_eq] at q'
      show decide (i.natAbs ≤ 10 ^ 39 + m) = true
      rw [decide_eq_true_eq]
      exact Nat.le_trans q' (Nat.add_le_add_left h _)
    | str x => exact q
    | non => rfl
    | bl _ => rfl
    | tup xs =>
      have q' : (decide (xs.length ≤ 100 + n) && xs.all (fine n d)) = true := q
      rw [Bool.and_eq_true, decide_eq_true_eq, List.all_eq_true] at q'
      show (decide (xs.length ≤ 100 + m) && xs.all (fine m e)) = true
      rw [Bool.and_eq_true, decide_eq_true_eq, List.all_eq_true]
      exact ⟨by omega, fun w hw => ih e w (by omega) (q'.2 w hw)⟩
    | lst xs =>
      have q' : (decide (xs.length ≤ 100 + n) && xs.all (fine n d)) = true := q
      rw [Bool.and_eq_true, decide_eq_true_eq, List.all_eq_true] at q'
      show (decide (xs.length ≤ 100 + m) && xs.all (fine m e)) = true
      rw [Bool.and_eq_true, decide_eq_true_eq, List.all_eq_true]
      exact ⟨by omega, fun w hw => ih e w (by omega) (q'.2 w hw)⟩
    | _ => cases q
theorem fine_tup {n d : Nat} {xs : List Val} : fine n (d + 1) (.tup xs) = true ↔ xs.length ≤ 100 + n ∧ ∀ w ∈ xs, fine n d w = true := by
  show (decide (xs.length ≤ 100 + n) && xs.all (fine n d)) = true ↔ _
  rw [Bool.and_eq_true, decide_eq_true_eq, List.all_eq_true]
theorem fine_lst {n d : Nat} {xs : List Val} : fine n (d + 1) (.lst xs) = true ↔ xs.length ≤ 100 + n ∧ ∀ w ∈ xs, fine n d w = true := by
  show (decide (xs.length ≤ 100 + n) && xs.all (fine n d)) = true ↔ _
  rw [Bool.and_eq_true, decide_eq_true_eq, List.all_eq_true]
theorem depthAll_le {d : Nat} : ∀ {xs : List Val}, (∀ w ∈ xs, (toD w).depth ≤ d) → PyData.depthAll (toDs xs) ≤ d
  | [], _ => by unfold toDs; unfold PyData.depthAll; omega
  | x :: xs, h => by
    unfold toDs; unfold PyData.depthAll
    have := h x List.mem_cons_self
    have := depthAll_le (xs := xs) fun w hw => h w (List.mem_cons_of_mem _ hw)
    omega
theorem showAll {xs : List Val} (h : ∀ w ∈ xs, (toD w).showable = true) : PyData.showableAll (toDs xs) = true := by
  induction xs with
  | nil => rfl
  | cons x xs ih =>
    unfold toDs; unfold PyData.showableAll
    rw [h x List.mem_cons_self, ih fun w hw => h w (List.mem_cons_of_mem _ hw)]; rfl
theorem shownAll_len {xs : List Val} : (PyData.shownAll (toDs xs)).length = xs.length := by
  induction xs with
  | nil => rfl
  | cons x xs ih =>
    unfold toDs; unfold PyData.shownAll
    rw [List.length_cons, ih]; rfl
theorem shownAll_sum {xs : List Val} (h : ∀ w ∈ xs, (toD w).shown.length ≤ sz w) : ((PyData.shownAll (toDs xs)).map (fun y : Str => y.length)).sum + 2 * xs.length ≤ szs xs := by
  induction xs with
  | nil => exact Nat.le_refl _
  | cons x xs ih =>
    unfold toDs; unfold PyData.shownAll
    rw [List.map_cons, List.sum_cons, List.length_cons]
    have := ih fun w hw => h w (List.mem_cons_of_mem _ hw)
    have := h x List.mem_cons_self
    have : szs (x :: xs) = sz x + 2 + szs xs := rfl
    omega
theorem big39 {n : Nat} (l : n ≤ 1000) {i : Int} (q : i.natAbs ≤ 10 ^ 39 + n) : i.natAbs < 10 ^ 40 := by
  have : (10 : Nat) ^ 39 + 1000 < 10 ^ 40 := by decide
  omega
theorem fine_all {n : Nat} (l : n ≤ 900) : ∀ (d : Nat) (w : Val), fine n d w = true → pl w = true ∧ (toD w).depth ≤ d ∧ (toD w).showable = true ∧ (toD w).shown.length ≤ sz w := by
  have scal : ∀ (d : Nat) (w : Val), fine n d w = true → (∀ xs, w ≠ .tup xs) → (∀ xs, w ≠ .lst xs) → pl w = true ∧ (toD w).depth ≤ d ∧ (toD w).showable = true ∧ (toD w).shown.length ≤ sz w := by
    intro d w q n1 n2
    cases w with
    | non => exact ⟨rfl, by unfold toD; unfold PyData.depth; omega, rfl, by unfold toD; unfold PyData.shown; decide +kernel⟩
    | bl b => exact ⟨rfl, by unfold toD; unfold PyData.depth; omega, rfl, by unfold toD; unfold PyData.shown; cases b <;> decide +kernel⟩
    | int i =>
      have q' : decide (i.natAbs ≤ 10 ^ 39 + n) = true := by cases d <;> exact q
      rw [decide_eq_true_eq] at q'
      have b := big39 (by omega) q'
      refine ⟨rfl, by unfold toD; unfold PyData.depth; omega, ?_, ?_⟩
      · show decide (i.natAbs.log2 < 1920) = true
        rw [decide_eq_true_eq]
        by_cases z : i.natAbs = 0
        · rw [z]; decide
        · have : i.natAbs.log2 < 200 := (Nat.log2_lt z).mpr (Nat.lt_of_lt_of_le b (by decide))
          omega
      · show (Str.ofString (toString i)).length ≤ 60
        rw [PySem.ofString_length]
        have := int_text_length_le10 (k := 40) (by decide) b
        omega
    | str x =>
      have q' : (PyData.strOk x && decide (x.length ≤ 20)) = true := by cases d <;> exact q
      rw [Bool.and_eq_true, decide_eq_true_eq] at q'
      refine ⟨?_, by unfold toD; unfold PyData.depth; omega, rfl, ?_⟩
      · unfold pl
        rw [q'.1]
        simp; omega
      · show (reprText x).length ≤ 10 * x.length + 2
        refine StrLaws.reprText_len x fun c hc => ?_
        have z := q'.1
        unfold PyData.strOk at z
        have z2 := Array.all_eq_true_iff_forall_mem.mp z c (Array.mem_toList_iff.mp hc)
        have : c < 0x110000 := by simpa using z2
        omega
    | tup xs => exact absurd rfl (n1 xs)
    | lst xs => exact absurd rfl (n2 xs)
    | _ => cases d <;> cases q
  intro d
  induction d with
  | zero =>
    intro w q
    exact scal 0 w q (fun xs e => by subst e; cases q) (fun xs e => by subst e; cases q)
  | succ d ih =>
    intro w q
    cases w with
    | tup xs =>
      obtain ⟨q1, q2⟩ := fine_tup.mp q
      have h := fun w hw => ih w (q2 w hw)
      refine ⟨pl_tup (by omega) fun w hw => (h w hw).1, ?_, ?_, ?_⟩
      · show PyData.depthAll (toDs xs) + 1 ≤ d + 1
        exact Nat.succ_le_succ (depthAll_le fun w hw => (h w hw).2.1)
      · exact showAll fun w hw => (h w hw).2.2.1
      · show (tupleText (PyData.shownAll (toDs xs))).length ≤ szs xs + 3
        refine Nat.le_trans (tupleText_len_le _) ?_
        rw [shownAll_len]
        have := shownAll_sum fun w hw => (h w hw).2.2.2
        omega
    | lst xs =>
      obtain ⟨q1, q2⟩ := fine_lst.mp q
      have h := fun w hw => ih w (q2 w hw)
      refine ⟨pl_lst (by omega) fun w hw => (h w hw).1, ?_, ?_, ?_⟩
      · show PyData.depthAll (toDs xs) + 1 ≤ d + 1
        exact Nat.succ_le_succ (depthAll_le fun w hw => (h w hw).2.1)
      · exact showAll fun w hw => (h w hw).2.2.1
      · show (listText (PyData.shownAll (toDs xs))).length ≤ szs xs + 3
        refine Nat.le_trans (listText_len_le _) ?_
        rw [shownAll_len]
        have := shownAll_sum fun w hw => (h w hw).2.2.2
        omega
    | _ => exact scal (d + 1) _ q (fun _ e => nomatch e) (fun _ e => nomatch e)
theorem ev_repr {n d : Nat} {w : Val} {h : HH} (l : n ≤ 900) (ld : d ≤ 60) (q : fine n d w = true) (z : sz w ≤ 16000000) : fRepr [w] h = .ok (.str (toD w).shown) h := by
  obtain ⟨h1, h2, h3, h4⟩ := fine_all l d w q
  have r1 : rd w h = some w := by cases w <;> first | rfl | cases h1
  show (match rd w h with
    | some a => if okV a = true ∧ (toD a).showable = true ∧ (toD a).depth ≤ 60 ∧ (toD a).shown.length ≤ sizeLine then Out.ok (Val.str (toD a).shown) h else .bad
    | none => .bad) = _
  rw [r1]
  dsimp only
  rw [if_pos ⟨pl_ok w h1, h3, by omega, by have := sizeLine_eq; omega⟩]
end Z
set_option Elab.async false
set_option maxRecDepth 100000
set_option linter.unusedVariables false
set_option linter.unusedSimpArgs false
namespace K68
open PySem PySem.Spec PyProof.Rows L2 Z
/-! ### numbers as texts -/
def numS (i : Int) : Str := Str.ofString (toString i)
theorem numS_nat (n : Nat) : TL.tl (numS (n : Nat)) = TL.numL n := TL.tl_num n
theorem numS_neg (n : Nat) : TL.tl (numS (-((n + 1 : Nat) : Int))) = 45 :: TL.numL (n + 1) := by
  have e : toString (-((n + 1 : Nat) : Int)) = "-" ++ toString ((n + 1 : Nat) : Int) := rfl
  rw [← numS_nat]
  unfold numS
  rw [e]
  show (Str.ofString _).cps.toList = _
  rw [Str.ofString_eq_toList]
  show (List.map Char.toNat ("-" ++ toString ((n + 1 : Nat) : Int)).toList).toArray.toList = 45 :: (Str.ofString _).cps.toList
  rw [Str.ofString_eq_toList]
  simp [String.toList_append]
theorem str_i {i : Int} {h : HH} (l : i.natAbs ≤ 10 ^ 12) : fStr [.int i] h = .ok (.str (numS i)) h := by
  show (if i.natAbs.log2 < 1920 then Out.ok (Val.str (numS i)) h else .bad) = _
  rw [if_pos]
  by_cases z : i.natAbs = 0
  · rw [z]; decide
  · have : i.natAbs.log2 < 200 := (Nat.log2_lt z).mpr (Nat.lt_of_le_of_lt l (by decide))
    omega
theorem digs : (("0123456789" : Str)).cps.toList = (List.range 10).map fun i => 48 + i := by decide +kernel
theorem dig_at {i : Nat} (l : i < 10) {h : HH} : bIx (.str "0123456789") (.int (i : Nat)) h = .ok (.str ⟨#[48 + i]⟩) h := by
  show (if (("0123456789" : Str)).length ≤ sizeLine then (match L2.atI (("0123456789" : Str)).cps.toList (i : Nat) with
    | some c => Out.ok (Val.str ⟨#[c]⟩) h
    | none => .bad) else .bad) = _
  rw [if_pos (by decide +kernel), digs]
  have e : ((List.range 10).map fun i => 48 + i)[i]? = some (48 + i) := by
    rw [List.getElem?_map, List.getElem?_range l]; rfl
  have : L2.atI ((List.range 10).map fun i => 48 + i) (i : Nat) = some (48 + i) := atI_nat e
  rw [this]
theorem add_ss {x y : Str} {h : HH} (l : x.length + y.length ≤ 10000) : bAdd (.str x) (.str y) h = .ok (.str (x ++ y)) h := by
  show (if x.length + y.length ≤ sizeLine then Out.ok (Val.str (x ++ y)) h else .bad) = _
  rw [if_pos (by have := sizeLine_eq; omega)]
theorem len_tl (x : Str) : x.length = (TL.tl x).length := TL.len_tl x
theorem fig_loop : ∀ (f n : Nat) (t : Str) (h : HH), n < 10 ^ (f + 1) → t.length + f ≤ 1000 → ∃ (m : Nat) (u : Str), wturns (cBin (bOrd fun i j => decide (j < i)) (sVar 0) (sC (.int 9))) (nSeq (nSet 0 (sBin bDiv (sVar 0) (sC (.int 10)))) (nSeq (nSet 1 (sBin bAdd (sBin bIx (sC (.str "0123456789")) (sBin bMod (sVar 0) (sC (.int 10)))) (sVar 1))) nNext)) (f + 1)
    [some (.int (n : Nat)), some (.str t)] h = .go .nx [some (.int (m : Nat)), some (.str u)] h ∧ TL.tl u = (if n < 10 then TL.tl t else TL.numL (n / 10) ++ TL.tl t) := by
  intro f
  induction f with
  | zero =>
    intro n t h hn _
    refine ⟨n, t, ?_, by rw [if_pos (by simpa using hn)]⟩
    unfold wturns
    have : ¬ (9 : Int) < (n : Nat) := by
      have : n < 10 := by simpa using hn
      omega
    simp [this]
  | succ f ih =>
    intro n t h hn hl
    by_cases c : n < 10
    · refine ⟨n, t, ?_, by rw [if_pos c]⟩
      unfold wturns
      have : ¬ (9 : Int) < (n : Nat) := by omega
      simp [this]
    · have c2 : (9 : Int) < (n : Nat) := by omega
      have hp : (10 : Nat) ^ (f + 1 + 1) = 10 ^ (f + 1) * 10 := Nat.pow_succ ..
      have h2 : n / 10 < 10 ^ (f + 1) := by rw [Nat.div_lt_iff_lt_mul (by decide)]; omega
      have hd : n / 10 % 10 < 10 := Nat.mod_lt _ (by decide)
      have l1 : (⟨#[48 + n / 10 % 10]⟩ : Str).length = 1 := rfl
      have lz : ((⟨#[48 + n / 10 % 10]⟩ : Str) ++ t).length = 1 + t.length := by
        rw [len_tl, TL.tl_append, List.length_append, ← len_tl, ← len_tl]; rfl
      obtain ⟨m, u, e, eu⟩ := ih (n / 10) ((⟨#[48 + n / 10 % 10]⟩ : Str) ++ t) h h2 (by omega)
      refine ⟨m, u, ?_, ?_⟩
      · have dv : bDiv (.int (n : Nat)) (.int 10) h = .ok (.int ((n / 10 : Nat) : Int)) h := by rw [div_ii (by decide) (by decide)]; rfl
        have md : bMod (.int ((n / 10 : Nat) : Int)) (.int 10) h = .ok (.int ((n / 10 % 10 : Nat) : Int)) h := by rw [mod_ii (by decide)]; rfl
        have dg := dig_at hd (h := h)
        have ad := add_ss (x := ⟨#[48 + n / 10 % 10]⟩) (y := t) (h := h) (by omega)
        unfold wturns
        simp -implicitDefEqProofs only [cBin_e, sVar_0, ob_ok, sC_e, bOrd_e, unB_bl, decide_eq_true c2, if_true, nSeq_e, nSet_e, sBin_e, dv, sb_ok, List.set_cons_zero, sq_nx, md, dg, sVar_1, ad, List.set_cons_succ, nNext_e, e]
      · rw [eu, if_neg c, TL.tl_append]
        show (if n / 10 < 10 then [48 + n / 10 % 10] ++ TL.tl t else TL.numL (n / 10 / 10) ++ ([48 + n / 10 % 10] ++ TL.tl t)) = _
        by_cases c3 : n / 10 < 10
        · rw [if_pos c3, TL.numL_lt c3, Nat.mod_eq_of_lt c3]
        · rw [if_neg c3, TL.numL_step (n := n / 10) (by omega), List.append_assoc]
theorem ev_fig_nat {k n : Nat} {h : HH} (hn : n < 10 ^ 20) : F__law_figures (k + 1) [.int (n : Nat)] h = .ok (.str (numS (n : Nat))) h := by
  have hd : n % 10 < 10 := Nat.mod_lt _ (by decide)
  obtain ⟨m, u, e, eu⟩ := fig_loop 19 n ⟨#[48 + n % 10]⟩ h hn (by show 1 + 19 ≤ 1000; decide)
  have en : u = numS (n : Nat) := by
    refine TL.ext_tl ?_
    rw [eu, numS_nat]
    show (if n < 10 then [48 + n % 10] else TL.numL (n / 10) ++ [48 + n % 10]) = _
    by_cases c : n < 10
    · rw [if_pos c, TL.numL_lt c, Nat.mod_eq_of_lt c]
    · rw [if_neg c, TL.numL_step (n := n) (by omega)]
  subst en
  rw [e__law_figures]
  have md : bMod (.int (n : Nat)) (.int 10) h = .ok (.int ((n % 10 : Nat) : Int)) h := by rw [mod_ii (by decide)]; rfl
  have dg := dig_at hd (h := h)
  have c0 : ¬ ((n : Nat) : Int) < 0 := by omega
  simp -implicitDefEqProofs only [m__law_figures, nSeq_e, nIf_e, cBin_e, sVar_0, ob_ok, sC_e, bOrd_e, unB_bl, decide_eq_false c0, sb_ok, Bool.false_eq_true, if_false, nNext_e, sq_nx, nSet_e, sBin_e, md, dg, List.set_cons_zero, List.set_cons_succ, nWhile, e, nRet_e, sVar_1, sq_ret, outOf_ret]
theorem ev_fig {k : Nat} {i : Int} {h : HH} (l : i.natAbs ≤ 10 ^ 12) : F__law_figures (k + 2) [.int i] h = .ok (.str (numS i)) h := by
  by_cases c : 0 ≤ i
  · obtain ⟨n, rfl⟩ := Int.eq_ofNat_of_zero_le c
    exact ev_fig_nat (k := k + 1) (Nat.lt_of_le_of_lt (show n ≤ 10 ^ 12 from l) (by decide))
  · obtain ⟨n, rfl⟩ : ∃ n : Nat, i = -((n + 1 : Nat) : Int) := ⟨(-i - 1).toNat, by omega⟩
    have l2 : n + 1 ≤ 10 ^ 12 := by omega
    have e := ev_fig_nat (k := k) (n := n + 1) (h := h) (Nat.lt_of_le_of_lt l2 (by decide))
    have c0 : -((n + 1 : Nat) : Int) < 0 := by omega
    have es : ∀ j : Nat, (0 : Int) - -((j : Nat) : Int) = (j : Nat) := fun j => by omega
    have ln : (numS ((n + 1 : Nat) : Int)).length ≤ 13 := by
      rw [len_tl, numS_nat]
      exact TL.numL_len (by decide) (Nat.lt_of_le_of_lt l2 (by decide))
    have ad := add_ss (x := "-") (y := numS ((n + 1 : Nat) : Int)) (h := h) (by
      have : (("-" : Str)).length = 1 := by decide +kernel
      omega)
    have en : ("-" : Str) ++ numS ((n + 1 : Nat) : Int) = numS (-((n + 1 : Nat) : Int)) := by
      refine TL.ext_tl ?_
      rw [numS_neg, TL.tl_append, numS_nat]
      rfl
    rw [e__law_figures]
    simp -implicitDefEqProofs only [m__law_figures, nSeq_e, nIf_e, cBin_e, sVar_0, ob_ok, sC_e, bOrd_e, unB_bl, decide_eq_true c0, sb_ok, if_true, nRet_e, sBin_e, sCall_e, aCons_e, aNil_e, sub_ii, es, List.length_cons, List.length_nil, and_self, e, ad, en, sq_ret, outOf_ret]
end K68
set_option Elab.async false
set_option maxRecDepth 100000
set_option linter.unusedVariables false
set_option linter.unusedSimpArgs false
namespace K68
open PySem PySem.Spec PyProof.Rows L2 Z
/-! ### letters and names -/
def isLet (c : Nat) : Bool := lt1 (.str ⟨#[c]⟩)
theorem letters_list : letters.cps.toList = (List.range 26).map fun i => 97 + i := by decide +kernel
theorem let_iff {c : Nat} : isLet c = true ↔ 97 ≤ c ∧ c < 123 := by
  show (!(Builtin.Str.occurrences letters ⟨#[c]⟩ 0 letters.length 1).isEmpty) = true ↔ _
  rw [PySem.StrLaws.found_one, decide_eq_true_eq, letters_list, List.mem_map]
  constructor
  · rintro ⟨i, hi, rfl⟩
    have := List.mem_range.mp hi
    omega
  · intro h
    exact ⟨c - 97, List.mem_range.mpr (by omega), by omega⟩
theorem signs_all (x : Str) : (Z.signs x).all lt1 = x.cps.toList.all isLet := by
  unfold Z.signs
  rw [List.all_map]; rfl
theorem name_iff {x : Str} : nameB x = true ↔ 1 ≤ x.length ∧ x.length ≤ 8 ∧ ∀ c ∈ TL.tl x, 97 ≤ c ∧ c < 123 := by
  unfold nameB
  rw [signs_all, Bool.and_eq_true, Bool.and_eq_true, decide_eq_true_eq, decide_eq_true_eq, List.all_eq_true]
  constructor
  · rintro ⟨h1, h2, h3⟩
    exact ⟨by omega, by omega, fun c hc => let_iff.mp (h3 c hc)⟩
  · rintro ⟨h1, h2, h3⟩
    exact ⟨by omega, by omega, fun c hc => let_iff.mpr (h3 c hc)⟩
theorem isName_str {w : Val} (h : isName w = true) : ∃ x, w = .str x ∧ nameB x = true := by
  cases w with
  | str x => exact ⟨x, rfl, h⟩
  | _ => cases h
/-! ### programs as data -/
inductive Row where
  | one (x : Str)
  | put (i : Int)
  | nmd (x y : Str)
  | goes (x : Str) (k : Nat)
def NMD : List Str := ["get", "set", "look", "change", "call"]
def GOES : List Str := ["go", "if", "try"]
def Row.val : Row → Val
  | .one x => .tup [.str x]
  | .put i => .tup [.str "put", .int i]
  | .nmd x y => .tup [.str x, .str y]
  | .goes x k => .tup [.str x, .int (k : Nat)]
def Row.ok : Row → Prop
  | .one x => x ∈ ALONE
  | .put i => i.natAbs ≤ 10 ^ 12
  | .nmd x y => x ∈ NMD ∧ nameB y = true
  | .goes x k => x ∈ GOES ∧ k < 60
structure Part where
  nm : Str
  ns : List Str
  rows : List Row
def Part.val (p : Part) : Val := .tup [.str p.nm, .tup (p.ns.map Val.str), .tup (p.rows.map Row.val)]
structure Part.ok (p : Part) : Prop where
  nm : nameB p.nm = true
  ln : p.ns.length ≤ 3
  ns : ∀ y ∈ p.ns, nameB y = true
  l1 : 1 ≤ p.rows.length
  l2 : p.rows.length ≤ 60
  rows : ∀ r ∈ p.rows, r.ok
theorem anyS_mem {xs : List Str} {x : Str} (h : anyS xs x = true) : x ∈ xs := by
  rw [anyS_eq] at h
  obtain ⟨y, hy, q⟩ := List.any_eq_true.mp h
  rw [beq_iff_eq] at q
  exact q ▸ hy
theorem row_ok {r : Val} {a n : Int} {called : List Val} (h : rowB r a n called = true) (hn : n ≤ 60) : ∃ q : Row, q.ok ∧ r = q.val := by
  unfold rowB at h
  split at h
  · rename_i x rest
    by_cases c : anyS ALONE x = true
    · rw [if_pos c] at h
      cases rest with
      | nil => exact ⟨.one x, anyS_mem c, rfl⟩
      | cons _ _ => cases h
    · rw [if_neg c] at h
      split at h
      · rename_i b
        by_cases c2 : x = "put"
        · rw [if_pos c2] at h
          subst c2
          cases b with
          | int i =>
            refine ⟨.put i, ?_, rfl⟩
            have h' : decide ((if i < 0 then -i else i) ≤ 1000000000000) = true := h
            rw [decide_eq_true_eq] at h'
            show i.natAbs ≤ 10 ^ 12
            split at h' <;> omega
          | _ => cases h
        · rw [if_neg c2] at h
          by_cases c3 : x = "call"
          · rw [if_pos c3] at h
            subst c3
            rw [Bool.and_eq_true] at h
            obtain ⟨y, rfl, q⟩ := isName_str h.1
            exact ⟨.nmd _ y, ⟨by decide +kernel, q⟩, rfl⟩
          · rw [if_neg c3] at h
            by_cases c4 : anyS ["go", "if", "try"] x = true
            · rw [if_pos c4] at h
              cases b with
              | int i =>
                have h' : (decide (0 ≤ i) && (decide (i < n) && (!decide (x = "try") || !decide (i = a + 1)))) = true := h
                rw [Bool.and_eq_true, Bool.and_eq_true, decide_eq_true_eq, decide_eq_true_eq] at h'
                obtain ⟨k, rfl⟩ := Int.eq_ofNat_of_zero_le h'.1
                exact ⟨.goes x k, ⟨anyS_mem c4, by omega⟩, rfl⟩
              | _ => cases h
            · rw [if_neg c4, Bool.and_eq_true] at h
              obtain ⟨y, rfl, q⟩ := isName_str h.2
              have := anyS_mem h.1
              exact ⟨.nmd x y, ⟨(List.mem_append_left (["call"] : List Str) this : x ∈ (["get", "set", "look", "change"] : List Str) ++ (["call"] : List Str)), q⟩, rfl⟩
      · cases h
  · cases h
theorem vals_of {α : Type} {f : α → Val} {ok : α → Prop} : ∀ {xs : List Val}, (∀ w ∈ xs, ∃ q, ok q ∧ w = f q) → ∃ qs : List α, xs = qs.map f ∧ ∀ q ∈ qs, ok q
  | [], _ => ⟨[], rfl, fun _ h => nomatch h⟩
  | x :: xs, h => by
    obtain ⟨q, h1, rfl⟩ := h x List.mem_cons_self
    obtain ⟨qs, rfl, h2⟩ := vals_of fun w hw => h w (List.mem_cons_of_mem _ hw)
    refine ⟨q :: qs, rfl, fun z hz => ?_⟩
    rcases List.mem_cons.mp hz with rfl | hz
    · exact h1
    · exact h2 z hz
theorem prs_at : ∀ (xs : List Val) (k j : Nat) (w : Val), xs[j]? = some w → .tup [.int ((k + j : Nat) : Int), w] ∈ prs k xs := by
  intro xs k j w e
  have := prs_get xs k j
  rw [e] at this
  exact List.mem_of_getElem? this
theorem prog_parts {ps : List Val} (h : progB (.tup ps) = true) : ∃ qs : List Part, ps = qs.map Part.val ∧ (∀ q ∈ qs, q.ok) ∧ 1 ≤ qs.length ∧ qs.length ≤ 8 := by
  have h' : (ps.all headed && (unlike 1 8 (.tup (ps.map hd0)) && (ps.flatMap (FB (ps.map hd0))).all id)) = true := h
  rw [Bool.and_eq_true, Bool.and_eq_true] at h'
  obtain ⟨h1, h2, h3⟩ := h'
  have l8 : 1 ≤ ps.length ∧ ps.length ≤ 8 := by
    unfold unlike at h2
    simp at h2
    omega
  have key : ∀ w ∈ ps, ∃ q, Part.ok q ∧ w = Part.val q := by
    intro w hw
    have g := List.all_eq_true.mp h1 w hw
    unfold headed at g
    split at g
    · rename_i a b c
      rw [Bool.and_eq_true, Bool.and_eq_true] at g
      obtain ⟨g1, g2, g3⟩ := g
      obtain ⟨nm, rfl, hn⟩ := isName_str g1
      cases b with
      | tup xs =>
        have g2' : (decide ((0 : Int) ≤ ((xs.length : Nat) : Int)) && (decide (((xs.length : Nat) : Int) ≤ 3) && (xs.all isName && nodB xs))) = true := g2
        rw [Bool.and_eq_true, Bool.and_eq_true, Bool.and_eq_true, decide_eq_true_eq, decide_eq_true_eq] at g2'
        obtain ⟨_, k2, k3, _⟩ := g2'
        obtain ⟨ns, rfl, hns⟩ := vals_of (f := Val.str) (ok := fun y => nameB y = true) (xs := xs) fun w hw => by
          obtain ⟨y, e, q⟩ := isName_str (List.all_eq_true.mp k3 w hw)
          exact ⟨y, q, e⟩
        cases c with
        | tup rows =>
          have g3' : (decide ((1 : Int) ≤ ((rows.length : Nat) : Int)) && decide (((rows.length : Nat) : Int) ≤ 60)) = true := g3
          rw [Bool.and_eq_true, decide_eq_true_eq, decide_eq_true_eq] at g3'
          obtain ⟨rs, rfl, hrs⟩ := vals_of (f := Row.val) (ok := Row.ok) (xs := rows) fun r hr => by
            obtain ⟨j, hj, rfl⟩ := List.getElem_of_mem hr
            have e : rows[j]? = some rows[j] := List.getElem?_eq_getElem hj
            have m := prs_at rows 0 j _ e
            have : rowB rows[j] ((0 + j : Nat) : Int) (rows.length : Nat) (ps.map hd0) = true := by
              refine List.all_eq_true.mp h3 _ (List.mem_flatMap.mpr ⟨_, hw, ?_⟩)
              exact List.mem_map.mpr ⟨_, m, rfl⟩
            exact row_ok this (by omega)
          rw [List.length_map] at g3' k2
          exact ⟨⟨nm, ns, rs⟩, ⟨hn, by show ns.length ≤ 3; omega, hns, by show 1 ≤ rs.length; omega, by show rs.length ≤ 60; omega, hrs⟩, rfl⟩
        | _ => cases g3
      | _ => cases g2
    · cases g
  obtain ⟨qs, rfl, hq⟩ := vals_of key
  rw [List.length_map] at l8
  exact ⟨qs, rfl, hq, l8.1, l8.2⟩
/-! ### texts -/
def zf (j : Nat) : Str := Txt.zfill (numS (j : Nat)) 2
def Row.ws : Row → List Str
  | .one x => [x]
  | .put i => ["put", numS i]
  | .nmd x y => [x, y]
  | .goes x k => [x, numS (k : Nat)]
def rowS (j : Nat) (r : Row) : Str := Txt.join " " (zf j :: r.ws)
def rowsS : Nat → List Row → List Str
  | _, [] => []
  | k, r :: rs => rowS k r :: rowsS (k + 1) rs
def PP : List Str := ["put", "part"]
def headW (p : Part) : List Str := "part" :: p.nm :: p.ns
def headS (p : Part) : Str := Txt.join " " (headW p)
def linesP (p : Part) : List Str := headS p :: rowsS 0 p.rows
def linesS (qs : List Part) : List Str := qs.flatMap linesP
def TX (qs : List Part) : Str := Txt.join "\n" (linesS qs)
structure Word (x : Str) : Prop where
  ln : x.length ≤ 14
  n32 : 32 ∉ TL.tl x
  n10 : 10 ∉ TL.tl x
theorem word_name {x : Str} (h : nameB x = true) : Word x := by
  obtain ⟨h1, h2, h3⟩ := name_iff.mp h
  exact ⟨by omega, fun m => by have := h3 _ m; omega, fun m => by have := h3 _ m; omega⟩
theorem numS_cases (i : Int) : (∃ n : Nat, i = (n : Nat) ∧ TL.tl (numS i) = TL.numL n) ∨ ∃ n : Nat, i = -((n + 1 : Nat) : Int) ∧ TL.tl (numS i) = 45 :: TL.numL (n + 1) := by
  by_cases c : 0 ≤ i
  · obtain ⟨n, rfl⟩ := Int.eq_ofNat_of_zero_le c
    exact .inl ⟨n, rfl, numS_nat n⟩
  · obtain ⟨n, rfl⟩ : ∃ n : Nat, i = -((n + 1 : Nat) : Int) := ⟨(-i - 1).toNat, by omega⟩
    exact .inr ⟨n, rfl, numS_neg n⟩
theorem word_num {i : Int} (l : i.natAbs ≤ 10 ^ 12) : Word (numS i) := by
  have b : ∀ n : Nat, n ≤ 10 ^ 12 → (TL.numL n).length ≤ 13 := fun n hn => TL.numL_len (by decide) (Nat.lt_of_le_of_lt hn (by decide))
  rcases numS_cases i with ⟨n, rfl, e⟩ | ⟨n, rfl, e⟩
  · have := b n (by omega)
    refine ⟨by rw [len_tl, e]; omega, ?_, ?_⟩
    · rw [e]; exact TL.numL_free (.inl (by decide))
    · rw [e]; exact TL.numL_free (.inl (by decide))
  · have := b (n + 1) (by omega)
    refine ⟨by rw [len_tl, e, List.length_cons]; omega, ?_, ?_⟩
    · rw [e]
      intro m
      rcases List.mem_cons.mp m with m | m
      · cases m
      · exact TL.numL_free (.inl (by decide)) m
    · rw [e]
      intro m
      rcases List.mem_cons.mp m with m | m
      · cases m
      · exact TL.numL_free (.inl (by decide)) m
def wordB (x : Str) : Bool := decide (x.length ≤ 14) && ((TL.tl x).all fun c => !decide (c = 32) && !decide (c = 10))
theorem word_lit {x : Str} (h : wordB x = true) : Word x := by
  unfold wordB at h
  rw [Bool.and_eq_true, decide_eq_true_eq, List.all_eq_true] at h
  exact ⟨h.1, fun m => by have := h.2 _ m; simp at this, fun m => by have := h.2 _ m; simp at this⟩
theorem lits_ok : (ALONE ++ (NMD ++ (GOES ++ PP))).all wordB = true := by decide +kernel
theorem zf_all : ∀ j : Fin 60, wordB (zf j.val) = true := by decide +kernel
theorem zf_word {j : Nat} (h : j < 60) : Word (zf j) := word_lit (zf_all ⟨j, h⟩)
theorem lit {x : Str} (h : x ∈ ALONE ++ (NMD ++ (GOES ++ PP))) : Word x := word_lit (List.all_eq_true.mp lits_ok x h)
theorem row_words {r : Row} (h : r.ok) : ∀ x ∈ r.ws, Word x := by
  intro x hx
  cases r with
  | one y =>
    rw [List.mem_singleton.mp hx]
    exact lit (List.mem_append_left _ h)
  | put i =>
    rcases List.mem_cons.mp hx with rfl | hx
    · exact lit (by decide +kernel)
    · rw [List.mem_singleton.mp hx]; exact word_num h
  | nmd y z =>
    rcases List.mem_cons.mp hx with rfl | hx
    · exact lit (List.mem_append_right _ (List.mem_append_left _ h.1))
    · rw [List.mem_singleton.mp hx]; exact word_name h.2
  | goes y k =>
    rcases List.mem_cons.mp hx with rfl | hx
    · exact lit (List.mem_append_right _ (List.mem_append_right _ (List.mem_append_left _ h.1)))
    · rw [List.mem_singleton.mp hx]
      refine word_num ?_
      have := h.2
      omega
theorem txts_str : ∀ ys : List Str, txts (ys.map Val.str) = some ys
  | [] => rfl
  | y :: ys => by
    show (txts (ys.map Val.str)).map _ = _
    rw [txts_str ys]; rfl
theorem sum_le {m : Nat} : ∀ {xs : List Str}, (∀ x : Str, x ∈ xs → x.length ≤ m) → (xs.map (fun x : Str => x.length)).sum ≤ xs.length * m
  | [], _ => by simp
  | x :: xs, h => by
    have := h x List.mem_cons_self
    have := sum_le (xs := xs) fun w hw => h w (List.mem_cons_of_mem _ hw)
    rw [List.map_cons, List.sum_cons, List.length_cons, Nat.succ_mul]
    omega
theorem join_ev {a : Str} {w : Val} {ys : List Str} {h : HH} (e : items w h = some (ys.map Val.str)) (la : a.length ≤ 1) (l : ys.length ≤ 1000) (ly : ∀ y ∈ ys, y.length ≤ 1000) : mJoin (.str a) w h = .ok (.str (Txt.join a ys)) h := by
  show (match items w h with
    | some xs => match txts xs with
      | some ys => if (ys.map (fun y : Str => y.length)).sum + ys.length * a.length ≤ 16777216 then Out.ok (Val.str (Txt.join a ys)) h else .bad
      | none => .bad
    | none => .bad) = _
  rw [e]
  dsimp only
  rw [txts_str]
  dsimp only
  rw [if_pos]
  have := sum_le ly
  have h1 : ys.length * 1000 ≤ 1000 * 1000 := Nat.mul_le_mul_right _ l
  have h2 : ys.length * a.length ≤ 1000 * 1 := Nat.mul_le_mul l la
  omega
theorem joinL_len {S : List Nat} {m : Nat} (hS : S.length ≤ 1) : ∀ {ps : List (List Nat)}, (∀ p ∈ ps, p.length ≤ m) → (TL.joinL S ps).length ≤ ps.length * (m + 1)
  | [], _ => by simp [TL.joinL]
  | [p], h => by
    have := h p (by simp)
    show p.length ≤ 1 * (m + 1)
    omega
  | p :: q :: r, h => by
    have h1 := h p (by simp)
    have h2 := joinL_len hS (ps := q :: r) fun w hw => h w (List.mem_cons_of_mem _ hw)
    show (p ++ (S ++ TL.joinL S (q :: r))).length ≤ (r.length + 1 + 1) * (m + 1)
    rw [List.length_append, List.length_append, Nat.succ_mul]
    have : (q :: r).length = r.length + 1 := rfl
    rw [this] at h2
    omega
theorem join_len {a : Str} {ys : List Str} {m : Nat} (la : a.length ≤ 1) (ly : ∀ y ∈ ys, y.length ≤ m) : (Txt.join a ys).length ≤ ys.length * (m + 1) := by
  rw [TL.join_eq, len_tl, TL.tl_join]
  have := joinL_len (S := TL.tl a) (m := m) (ps := ys.map TL.tl) (by rw [← len_tl]; exact la) fun p hp => by
    obtain ⟨y, hy, rfl⟩ := List.mem_map.mp hp
    rw [← len_tl]
    exact ly y hy
  rwa [List.length_map] at this
theorem joinL_free {S : List Nat} {s : Nat} (hS : s ∉ S) : ∀ {ps : List (List Nat)}, (∀ p ∈ ps, s ∉ p) → s ∉ TL.joinL S ps
  | [], _ => by simp [TL.joinL]
  | [p], h => h p (by simp)
  | p :: q :: r, h => by
    have h1 := h p (by simp)
    have h2 := joinL_free hS (ps := q :: r) fun w hw => h w (List.mem_cons_of_mem _ hw)
    show s ∉ p ++ (S ++ TL.joinL S (q :: r))
    intro m
    rcases List.mem_append.mp m with m | m
    · exact h1 m
    · rcases List.mem_append.mp m with m | m
      · exact hS m
      · exact h2 m
theorem join_free {a : Str} {ys : List Str} {s : Nat} (ha : s ∉ TL.tl a) (ly : ∀ y ∈ ys, s ∉ TL.tl y) : s ∉ TL.tl (Txt.join a ys) := by
  rw [TL.join_eq, TL.tl_join]
  exact joinL_free ha fun p hp => by
    obtain ⟨y, hy, rfl⟩ := List.mem_map.mp hp
    exact ly y hy
/-- a line: short, without a line's end -/
structure Line (x : Str) : Prop where
  ln : x.length ≤ 100
  n10 : 10 ∉ TL.tl x
theorem line_of {ws : List Str} (l : ws.length ≤ 6) (h : ∀ x ∈ ws, Word x) : Line (Txt.join " " ws) := by
  refine ⟨?_, join_free (by decide +kernel) fun y hy => (h y hy).n10⟩
  have := join_len (a := " ") (by decide +kernel) fun y hy => (h y hy).ln
  have h2 : ws.length * (14 + 1) ≤ 6 * (14 + 1) := Nat.mul_le_mul_right _ l
  omega
theorem head_words {p : Part} (h : p.ok) : ∀ x ∈ headW p, Word x := by
  intro x hx
  rcases List.mem_cons.mp hx with rfl | hx
  · exact lit (by decide +kernel)
  · rcases List.mem_cons.mp hx with rfl | hx
    · exact word_name h.nm
    · exact word_name (h.ns x hx)
theorem head_line {p : Part} (h : p.ok) : Line (headS p) := line_of (by
  have := h.ln
  show p.ns.length + 1 + 1 ≤ 6
  omega) (head_words h)
theorem ws_len (r : Row) : 1 ≤ r.ws.length ∧ r.ws.length ≤ 2 := by cases r <;> exact ⟨by simp [Row.ws], by simp [Row.ws]⟩
theorem row_all {j : Nat} {r : Row} (hj : j < 60) (h : r.ok) : ∀ x ∈ zf j :: r.ws, Word x := by
  intro x hx
  rcases List.mem_cons.mp hx with rfl | hx
  · exact zf_word hj
  · exact row_words h x hx
theorem row_line {j : Nat} {r : Row} (hj : j < 60) (h : r.ok) : Line (rowS j r) := line_of (by
  have := (ws_len r).2
  rw [List.length_cons]
  omega) (row_all hj h)
theorem rows_len : ∀ (rs : List Row) (k : Nat), (rowsS k rs).length = rs.length
  | [], _ => rfl
  | r :: rs, k => by
    show (rowsS (k + 1) rs).length + 1 = _
    rw [rows_len rs]; rfl
theorem rows_lines : ∀ {rs : List Row} {k : Nat}, k + rs.length ≤ 60 → (∀ r ∈ rs, r.ok) → ∀ x ∈ rowsS k rs, Line x
  | [], _, _, _, x, hx => nomatch hx
  | r :: rs, k, hk, h, x, hx => by
    rw [List.length_cons] at hk
    rcases List.mem_cons.mp hx with rfl | hx
    · exact row_line (by omega) (h r List.mem_cons_self)
    · exact rows_lines (k := k + 1) (by omega) (fun q hq => h q (List.mem_cons_of_mem _ hq)) x hx
theorem part_lines {p : Part} (h : p.ok) : ∀ x ∈ linesP p, Line x := by
  intro x hx
  rcases List.mem_cons.mp hx with rfl | hx
  · exact head_line h
  · exact rows_lines (k := 0) (by have := h.l2; omega) h.rows x hx
theorem part_count {p : Part} (h : p.ok) : (linesP p).length ≤ 61 := by
  have := h.l2
  show (rowsS 0 p.rows).length + 1 ≤ 61
  rw [rows_len]
  omega
theorem all_lines {qs : List Part} (h : ∀ q ∈ qs, q.ok) : ∀ x ∈ linesS qs, Line x := by
  intro x hx
  obtain ⟨p, hp, hx⟩ := List.mem_flatMap.mp hx
  exact part_lines (h p hp) x hx
theorem all_count : ∀ {qs : List Part}, (∀ q ∈ qs, q.ok) → (linesS qs).length ≤ qs.length * 61
  | [], _ => by simp [linesS]
  | q :: qs, h => by
    have h1 := part_count (h q List.mem_cons_self)
    have h2 := all_count (qs := qs) fun z hz => h z (List.mem_cons_of_mem _ hz)
    show (linesP q ++ linesS qs).length ≤ (qs.length + 1) * 61
    rw [List.length_append]
    omega
end K68
set_option Elab.async false
set_option maxRecDepth 100000
set_option linter.unusedVariables false
set_option linter.unusedSimpArgs false
namespace Z
open PySem PySem.Spec PyProof.Rows L2
/-- a comprehension told by pairs -/
theorem lc_rel {g : GM} {m : SE} {ro : En} {h : HH} : ∀ (zs : List (Val × Val)) (ys : List Val) (k i : Nat) (acc : List Val), ys.drop i = zs.map (·.1) → k = zs.length →
    (∀ z ∈ zs, ∃ ro1, g z.1 ro h = .go .nx ro1 h ∧ m ro1 h = .ok z.2 h) → lcTurns g tYesZ m ro (.st ys) k i acc h = .ok (acc ++ zs.map (·.2)) h
  | [], ys, k, i, acc, e, hk, _ => by
    have en : ys[i]? = none := List.getElem?_eq_none (by have := congrArg List.length e; rw [List.length_drop] at this; simp at this; omega)
    subst hk
    unfold lcTurns
    show (match nxt (.st ys) i h with | some none => Out.ok acc h | _ => .bad) = _
    have : nxt (.st ys) i h = some none := by show some ys[i]? = _; rw [en]
    rw [this]; simp
  | x :: xs, ys, k, i, acc, e, hk, hf => by
    have es : ys[i]? = some x.1 := by
      have := congrArg (fun l => l[0]?) e
      simpa using this
    have ed : ys.drop (i + 1) = xs.map (·.1) := by
      have := congrArg List.tail e
      simpa using this
    have hk : k = xs.length + 1 := hk
    subst hk
    unfold lcTurns
    have : nxt (.st ys) i h = some (some x.1) := by show some ys[i]? = _; rw [es]
    rw [this]
    obtain ⟨ro1, e1, e2⟩ := hf x List.mem_cons_self
    have ih := fun acc => lc_rel xs ys xs.length (i + 1) acc ed rfl fun w hw => hf w (List.mem_cons_of_mem _ hw)
    simp only [e1, tYesZ_e, if_true, e2]
    rw [ih, List.map_cons, List.append_assoc]
    rfl
theorem sLc_rel {mi : SI} {g : GM} {m : SE} {own : List Nat} {ro : En} {h : HH} (zs : List (Val × Val)) (e : mi ro h = .ok (.st (zs.map (·.1)), zs.length) h) (hf : ∀ z ∈ zs, ∃ ro1, g z.1 (wipeN ro own) h = .go .nx ro1 h ∧ m ro1 h = .ok z.2 h) :
    sLc mi g tYesZ m own ro h = .ok (.lst (zs.map (·.2))) h := by
  show obind (mi ro h) _ = _
  rw [e]
  show obind (lcTurns g tYesZ m (wipeN ro own) (.st (zs.map (·.1))) zs.length 0 [] h) _ = _
  rw [lc_rel zs (zs.map (·.1)) zs.length 0 [] rfl rfl hf]
  simp only [List.nil_append, ob_ok, ret_e]
theorem add_ll {xs ys : List Val} {h : HH} (l : xs.length + ys.length ≤ 1000) : bAdd (.lst xs) (.lst ys) h = .ok (.lst (xs ++ ys)) h := by
  show (if xs.length + ys.length ≤ sizeLine then Out.ok (Val.lst (xs ++ ys)) h else .bad) = _
  rw [if_pos (by have := sizeLine_eq; omega)]
theorem ext_l {n : Nat} {xs ys : List Val} {h : HH} (e : h[n]? = some (.lst xs)) (l : xs.length + ys.length ≤ 10000) : mExt (.ref n) [.lst ys] h = .ok .non (h.set n (.lst (xs ++ ys))) := by
  show (match h[n]? with | some (.lst xs) => putL n (xs ++ ys) .non h | _ => .bad) = _
  rw [e]
  show (if (xs ++ ys).length ≤ sizeLine then _ else _) = _
  rw [if_pos (by rw [List.length_append]; have := sizeLine_eq; omega)]
theorem turns_nil {g : GM} {body : SS} {ro : En} {h : HH} : turns g body (.st []) 0 0 ro h = .go .nx ro h := by
  unfold turns
  rfl
theorem turns_one {g : GM} {body : SS} {ro ro1 ro2 : En} {h h1 h2 : HH} {b : Val} (e1 : g b ro h = .go .nx ro1 h1) (e2 : body ro1 h1 = .go .nx ro2 h2) : turns g body (.st [b]) 1 0 ro h = .go .nx ro2 h2 := by
  unfold turns
  have : nxt (.st [b]) 0 h = some (some b) := rfl
  rw [this]
  simp only [e1, e2]
  unfold turns
  rfl
end Z
namespace K68
open PySem PySem.Spec PyProof.Rows L2 Z
theorem sp1 : (" " : Str).length ≤ 1 := by decide +kernel
theorem nl1 : ("\n" : Str).length ≤ 1 := by decide +kernel
/-! ### show_program -/
theorem zf_ev {j : Nat} {h : HH} : mZfill (.str (numS (j : Nat))) (.int 2) h = .ok (.str (zf j)) h := by
  show (if PadOk 2 = true then Out.ok (Val.str (zf j)) h else .bad) = _
  rw [if_pos (by decide +kernel)]
theorem ev_showrow {j : Nat} {r : Row} {h : HH} (hj : j < 60) (q : r.ok) : F_show_row [.int (j : Nat), r.val] h = .ok (.str (rowS j r)) h := by
  rw [e_show_row]
  have s1 : fStr [.int (j : Nat)] h = .ok (.str (numS (j : Nat))) h := str_i (by omega)
  have hc : sLc (iVal (sVar 1)) (gNm 2) tYesZ (sArgs fStr (aCons (sVar 2) aNil)) [2] [some (.int (j : Nat)), some r.val, none] h = .ok (.lst (r.ws.map Val.str)) h := by
    obtain ⟨zs, e1, e2, e3⟩ : ∃ zs : List (Val × Val), r.val = .tup (zs.map (·.1)) ∧ zs.map (·.2) = r.ws.map Val.str ∧ ∀ z ∈ zs, fStr [z.1] h = .ok z.2 h := by
      have ss : ∀ x : Str, fStr [.str x] h = .ok (.str x) h := fun x => rfl
      cases r with
      | one x => exact ⟨[(.str x, .str x)], rfl, rfl, by simp [ss]⟩
      | put i => exact ⟨[(.str "put", .str "put"), (.int i, .str (numS i))], rfl, rfl, by simp [ss, str_i (show i.natAbs ≤ 10 ^ 12 from q)]⟩
      | nmd x y => exact ⟨[(.str x, .str x), (.str y, .str y)], rfl, rfl, by simp [ss]⟩
      | goes x k =>
        have := q.2
        exact ⟨[(.str x, .str x), (.int (k : Nat), .str (numS (k : Nat)))], rfl, rfl, by simp [ss, str_i (i := ((k : Nat) : Int)) (h := h) (by omega)]⟩
    rw [e1, ← e2]
    refine sLc_rel zs (by simp) fun z hz => ⟨_, rfl, ?_⟩
    simp [wipeN, e3 z hz]
  have ad : bAdd (.lst [.str (zf j)]) (.lst (r.ws.map Val.str)) h = .ok (.lst ((zf j :: r.ws).map Val.str)) h := add_ll (by
    have := (ws_len r).2
    simp
    omega)
  have jn : mJoin (.str " ") (.lst ((zf j :: r.ws).map Val.str)) h = .ok (.str (rowS j r)) h := join_ev rfl sp1 (by
    have := (ws_len r).2
    simp
    omega) fun y hy => by
    have := (row_all hj q y hy).ln
    omega
  have fl := fLst_ok (xs := [.str (zf j)]) (h := h) (by simp)
  simp -implicitDefEqProofs only [m_show_row, nSeq_e, nRet_e, sSm_s, sC_e, ob_ok, sBin_e, bind_e, sArgs_e, aCons_e, sVar_0, aNil_e, s1, zf_ev, fl, hc, ad, jn, sb_ok, sq_ret, outOf_ret]
def zsR : Nat → List Row → List (Val × Val)
  | _, [] => []
  | k, r :: rs => (.tup [.int (k : Nat), r.val], .str (rowS k r)) :: zsR (k + 1) rs
theorem zs_fst : ∀ (rs : List Row) (k : Nat), (zsR k rs).map (·.1) = prs k (rs.map Row.val)
  | [], _ => rfl
  | r :: rs, k => by
    show _ :: (zsR (k + 1) rs).map (·.1) = _ :: prs (k + 1) (rs.map Row.val)
    rw [zs_fst rs]
theorem zs_snd : ∀ (rs : List Row) (k : Nat), (zsR k rs).map (·.2) = (rowsS k rs).map Val.str
  | [], _ => rfl
  | r :: rs, k => by
    show _ :: (zsR (k + 1) rs).map (·.2) = _ :: (rowsS (k + 1) rs).map Val.str
    rw [zs_snd rs]
theorem zs_len (rs : List Row) (k : Nat) : (zsR k rs).length = rs.length := by
  have := congrArg List.length (zs_snd rs k)
  rw [List.length_map, List.length_map, rows_len] at this
  exact this
theorem zs_mem {z : Val × Val} : ∀ {rs : List Row} {k : Nat}, z ∈ zsR k rs → ∃ j r, k ≤ j ∧ j < k + rs.length ∧ r ∈ rs ∧ z = (.tup [.int (j : Nat), r.val], .str (rowS j r))
  | [], _, h => nomatch h
  | r :: rs, k, h => by
    rcases List.mem_cons.mp h with rfl | h
    · exact ⟨k, r, Nat.le_refl _, by simp, List.mem_cons_self, rfl⟩
    · obtain ⟨j, q, h1, h2, h3, h4⟩ := zs_mem h
      exact ⟨j, q, by omega, by rw [List.length_cons]; omega, List.mem_cons_of_mem _ h3, h4⟩
def showBody : SS := (nSeq (nExpr (sMtL mApp (sVar 1) (aCons (sSm mJoin (sC (.str " ")) (sBin bAdd (sArgs fTup (aCons (sC (.str "part")) (aCons (sVar 2) aNil))) (sVar 3))) aNil))) (nSeq (nExpr (sMtL mExt (sVar 1) (aCons (sLc (iEn (aCons (sVar 4) aNil)) (gTp 2 (gsCons (gNm 5) (gsCons (gNm 6) gsNil))) tYesZ (sCall F_show_row 2 0 2 (fun ws _ => ws) (aCons (sVar 5) (aCons (sVar 6) aNil)) aNil) [5, 6]) aNil))) nNext))
theorem show_turn {p : Part} (hp : p.ok) {a0 a5 a6 : Option Val} {q : Nat} {xs : List Str} {h : HH} (e : h[q]? = some (.lst (xs.map Val.str))) (l : xs.length ≤ 500) :
    ∃ h', showBody [a0, some (.ref q), some (.str p.nm), some (.tup (p.ns.map Val.str)), some (.tup (p.rows.map Row.val)), a5, a6] h = .go .nx [a0, some (.ref q), some (.str p.nm), some (.tup (p.ns.map Val.str)), some (.tup (p.rows.map Row.val)), a5, a6] h' ∧ h'[q]? = some (.lst ((xs ++ linesP p).map Val.str)) := by
  have ft : fTup [.str "part", .str p.nm] h = .ok (.tup [.str "part", .str p.nm]) h := fTup_ok (by simp)
  have ad : bAdd (.tup [.str "part", .str p.nm]) (.tup (p.ns.map Val.str)) h = .ok (.tup ((headW p).map Val.str)) h := add_tt (by
    have := hp.ln
    simp
    omega)
  have jn : mJoin (.str " ") (.tup ((headW p).map Val.str)) h = .ok (.str (headS p)) h := join_ev rfl sp1 (by
    have := hp.ln
    simp [headW]
    omega) fun y hy => by
    have := (head_words hp y hy).ln
    omega
  have ap : mApp (.ref q) [.str (headS p)] h = .ok .non (h.set q (.lst (xs.map Val.str ++ [.str (headS p)]))) := app_l e (by simp; omega)
  have e1 : (h.set q (.lst (xs.map Val.str ++ [.str (headS p)])))[q]? = some (.lst ((xs ++ [headS p]).map Val.str)) := by
    rw [set_get e, List.map_append]
    rfl
  have m0 := mtL_r (f := mApp) (ra := aCons (sSm mJoin (sC (.str " ")) (sBin bAdd (sArgs fTup (aCons (sC (.str "part")) (aCons (sVar 2) aNil))) (sVar 3))) aNil) (ro := [a0, some (.ref q), some (.str p.nm), some (.tup (p.ns.map Val.str)), some (.tup (p.rows.map Row.val)), a5, a6]) e
  generalize h.set q (.lst (xs.map Val.str ++ [.str (headS p)])) = h1 at ap e1
  have hc : sLc (iEn (aCons (sVar 4) aNil)) (gTp 2 (gsCons (gNm 5) (gsCons (gNm 6) gsNil))) tYesZ (sCall F_show_row 2 0 2 (fun ws _ => ws) (aCons (sVar 5) (aCons (sVar 6) aNil)) aNil) [5, 6]
      [a0, some (.ref q), some (.str p.nm), some (.tup (p.ns.map Val.str)), some (.tup (p.rows.map Row.val)), a5, a6] h1 = .ok (.lst ((rowsS 0 p.rows).map Val.str)) h1 := by
    rw [← zs_snd]
    refine sLc_rel (zsR 0 p.rows) ?_ fun z hz => ?_
    · rw [zs_fst, zs_len]
      simp
    · obtain ⟨j, r, h0, hj, hr, rfl⟩ := zs_mem hz
      have := hp.l2
      exact ⟨_, rfl, by simp [wipeN, ev_showrow (h := h1) (show j < 60 by omega) (hp.rows r hr)]⟩
  have m1 := mtL_r (f := mExt) (ra := aCons (sLc (iEn (aCons (sVar 4) aNil)) (gTp 2 (gsCons (gNm 5) (gsCons (gNm 6) gsNil))) tYesZ (sCall F_show_row 2 0 2 (fun ws _ => ws) (aCons (sVar 5) (aCons (sVar 6) aNil)) aNil) [5, 6]) aNil)
    (ro := [a0, some (.ref q), some (.str p.nm), some (.tup (p.ns.map Val.str)), some (.tup (p.rows.map Row.val)), a5, a6]) e1
  have ex : mExt (.ref q) [.lst ((rowsS 0 p.rows).map Val.str)] h1 = .ok .non (h1.set q (.lst ((xs ++ [headS p]).map Val.str ++ (rowsS 0 p.rows).map Val.str))) := ext_l e1 (by
    have := hp.l2
    simp [rows_len]
    omega)
  refine ⟨h1.set q (.lst ((xs ++ [headS p]).map Val.str ++ (rowsS 0 p.rows).map Val.str)), ?_, ?_⟩
  · simp -implicitDefEqProofs only [showBody, nSeq_e, nExpr_e, sMtL_e, sVar_1, ob_ok, m0, aCons_e, sSm_s, sC_e, sBin_e, bind_e, sArgs_e, sVar_s, sVar_0, aNil_e, ft, ad, jn, ap, sb_ok, sq_nx, m1, hc, ex, nNext_e]
  · rw [set_get e1, ← List.map_append, List.append_assoc]
    rfl
theorem lines_take {qs : List Part} {i : Nat} {p : Part} (e : qs[i]? = some p) : linesS (qs.take (i + 1)) = linesS (qs.take i) ++ linesP p := by
  unfold linesS
  rw [List.take_add_one, e]
  simp
theorem lines_bound {qs : List Part} (hq : ∀ q ∈ qs, q.ok) (l : qs.length ≤ 8) (i : Nat) : (linesS (qs.take i)).length ≤ 488 := by
  have := all_count (qs := qs.take i) fun q hm => hq q (List.mem_of_mem_take hm)
  have h2 : (qs.take i).length ≤ 8 := by rw [List.length_take]; omega
  have h3 : (qs.take i).length * 61 ≤ 8 * 61 := Nat.mul_le_mul_right _ h2
  omega
theorem fin_join {qs : List Part} (hq : ∀ q ∈ qs, q.ok) (l : qs.length ≤ 8) {h : HH} {q : Nat} (e : h[q]? = some (.lst ((linesS qs).map Val.str))) : mJoin (.str "\n") (.ref q) h = .ok (.str (TX qs)) h := by
  refine join_ev ?_ nl1 ?_ fun y hy => ?_
  · show (match h[q]? with | some (.lst xs) => some xs | _ => none) = _
    rw [e]
  · have := lines_bound hq l qs.length
    rw [List.take_length] at this
    omega
  · have := (all_lines hq y hy).ln
    omega
theorem ev_show {qs : List Part} {h : HH} (p : pl (.tup (qs.map Part.val)) = true) (g : progB (.tup (qs.map Part.val)) = true) (hq : ∀ q ∈ qs, q.ok) (l : qs.length ≤ 8) : ∃ h', F_show_program [.tup (qs.map Part.val)] h = .ok (.str (TX qs)) h' := by
  rw [e_show_program]
  have lk : F_look_program [.tup (qs.map Part.val)] h = .ok .non h := by
    rw [e_look_program]
    simp [m_look_program, ev_program p, g]
  have nw : fNew [] h = .ok (.ref h.length) (h ++ [.lst []]) := fNew_ok (by simp)
  generalize eh1 : h ++ [.lst []] = h1 at nw
  have e1 : h1[h.length]? = some (.lst (([] : List Str).map Val.str)) := by rw [← eh1, List.getElem?_concat_length]; rfl
  generalize h.length = q at nw e1
  obtain ⟨ro', h', el, ⟨a2, a3, a4, a5, a6, er⟩, e2⟩ := turns_inv (g := gTp 3 (gsCons (gNm 2) (gsCons (gNm 3) (gsCons (gNm 4) gsNil)))) (body := showBody) (x := .st (qs.map Part.val)) (n := (qs.map Part.val).length)
    (fun i ro g => (∃ a2 a3 a4 a5 a6 : Option Val, ro = [some (.tup (qs.map Part.val)), some (.ref q), a2, a3, a4, a5, a6]) ∧ g[q]? = some (.lst ((linesS (qs.take i)).map Val.str)))
    (fun i ro g ⟨⟨a2, a3, a4, a5, a6, er⟩, eg⟩ hi => by
      subst er
      rw [List.length_map] at hi
      have ei : qs[i]? = some qs[i] := List.getElem?_eq_getElem hi
      have hp := hq _ (List.getElem_mem hi)
      generalize qs[i] = pt at ei hp
      obtain ⟨g2, e3, e4⟩ := show_turn hp (a0 := some (.tup (qs.map Part.val))) (a5 := a5) (a6 := a6) eg (by have := lines_bound hq l i; omega)
      rw [← lines_take ei] at e4
      exact ⟨pt.val, _, g, _, g2, by show some (qs.map Part.val)[i]? = _; rw [List.getElem?_map, ei]; rfl, rfl, e3, ⟨_, _, _, _, _, rfl⟩, e4⟩)
    (fun ro g _ => by show some (qs.map Part.val)[(qs.map Part.val).length]? = _; simp) (qs.map Part.val).length 0 [some (.tup (qs.map Part.val)), some (.ref q), none, none, none, none, none] h1 rfl ⟨⟨_, _, _, _, _, rfl⟩, e1⟩
  subst er
  rw [List.length_map, List.take_length] at e2
  have jn := fin_join hq l e2
  refine ⟨h', ?_⟩
  unfold showBody at el
  simp -implicitDefEqProofs only [m_show_program, nSeq_e, nExpr_e, sCall_e, aCons_e, sVar_0, aNil_e, ob_ok, List.length_cons, List.length_nil, if_true, and_self, lk, sb_ok, sq_nx, nSet_e, sArgs_e, nw, List.set_cons_zero, List.set_cons_succ, nFor_e, iVal_e, itmV_tup, el, nRet_e, sSm_s, sC_e, bind_e, sVar_1, jn, sq_ret, outOf_ret]
end K68
set_option Elab.async false
set_option maxRecDepth 100000
set_option linter.unusedVariables false
set_option linter.unusedSimpArgs false
namespace K68
open PySem PySem.Spec PyProof.Rows L2 Z
/-! ### _law_written -/
/-- all cells but one stay -/
def Keep (q : Nat) (h h' : HH) : Prop := ∀ i, i < h.length → i ≠ q → h'[i]? = h[i]?
theorem Keep.refl (q : Nat) (h : HH) : Keep q h h := fun _ _ _ => rfl
theorem Keep.trans {q : Nat} {h h1 h2 : HH} (a : Keep q h h1) (b : Keep q h1 h2) : Keep q h h2 := fun i l n => by
  have e := a i l n
  rw [List.getElem?_eq_getElem l] at e
  exact (b i (List.getElem?_eq_some_iff.mp e).1 n).trans (a i l n)
theorem Keep.set {q : Nat} {h : HH} {x : Ob} : Keep q h (h.set q x) := fun i l n => by rw [List.getElem?_set_ne (Ne.symm n)]
theorem cut0_all : ∀ j : Fin 60, cutS ("0" ++ numS (j.val : Nat)) (some (-2)) none = zf j.val := by decide +kernel
theorem num_short {j : Nat} (h : j < 60) : (numS (j : Nat)).length ≤ 14 := (word_num (i := ((j : Nat) : Int)) (by omega)).ln
theorem cut0_ev {j : Nat} (hj : j < 60) {h : HH} : bSl (.str ("0" ++ numS (j : Nat))) (some (-2)) none h = .ok (.str (zf j)) h := by
  show (if (("0" : Str) ++ numS (j : Nat)).length ≤ sizeLine then Out.ok (Val.str (cutS ("0" ++ numS (j : Nat)) (some (-2)) none)) h else .bad) = _
  rw [cut0_all ⟨j, hj⟩, if_pos]
  have := num_short hj
  have h2 : (("0" : Str)).length = 1 := by decide +kernel
  rw [len_tl, TL.tl_append, List.length_append, ← len_tl, ← len_tl]
  have := sizeLine_eq
  omega
def TH : SS := (nSeq (nExpr (sMtL mApp (sVar 7) (aCons (sIf (cV (sArgs fIsi (aCons (sVar 8) (aCons (sC (.ty "str")) aNil)))) (sVar 8) (sCall (F__law_figures 2) 1 0 1 (fun ws _ => ws) (aCons (sVar 8) aNil) aNil)) aNil))) nNext)
def wRow : SS := (nSeq (nSet 7 (sArgs fNew (aCons (sSl (sBin bAdd (sC (.str "0")) (sCall (F__law_figures 2) 1 0 1 (fun ws _ => ws) (aCons (sVar 5) aNil) aNil)) (oSome (sUn uNeg (sC (.int 2)))) oNone) (aCons (sBin bIx (sVar 6) (sC (.int 0))) aNil)))) (nSeq (nFor (iVal (sSl (sVar 6) (oSome (sC (.int 1))) oNone)) (gNm 8) TH) (nSeq (nExpr (sMtL mApp (sVar 1) (aCons (sSm mJoin (sC (.str " ")) (sVar 7)) aNil))) nNext)))
def wPart : SS := (nSeq (nExpr (sMtL mApp (sVar 1) (aCons (sSm mJoin (sC (.str " ")) (sBin bAdd (sArgs fLst (aCons (sC (.str "part")) (aCons (sVar 2) aNil))) (sArgs fLof (aCons (sVar 3) aNil)))) aNil))) (nSeq (nFor (iEn (aCons (sVar 4) aNil)) (gTp 2 (gsCons (gNm 5) (gsCons (gNm 6) gsNil))) wRow) nNext))
theorem written_is : m__law_written = (nSeq (nSet 1 (sArgs fNew aNil)) (nSeq (nFor (iVal (sVar 0)) (gTp 3 (gsCons (gNm 2) (gsCons (gNm 3) (gsCons (gNm 4) gsNil)))) wPart) (nSeq (nRet (sSm mJoin (sC (.str "\n")) (sVar 1))) nNext))) := rfl
theorem th_one {a0 a1 a2 a3 a4 a5 a6 a8 : Option Val} {n : Nat} {xs : List Val} {b : Val} {u : Str} {h : HH} (e : h[n]? = some (.lst xs)) (l : xs.length ≤ 100) (c : b = .str u ∨ ∃ i : Int, b = .int i ∧ i.natAbs ≤ 10 ^ 12 ∧ u = numS i) :
    turns (gNm 8) TH (.st [b]) 1 0 [a0, a1, a2, a3, a4, a5, a6, some (.ref n), a8] h = .go .nx [a0, a1, a2, a3, a4, a5, a6, some (.ref n), some b] (h.set n (.lst (xs ++ [.str u]))) := by
  refine turns_one rfl ?_
  have ap := app_l (y := .str u) e (by omega)
  have i2 : sIf (cV (sArgs fIsi (aCons (sVar 8) (aCons (sC (.ty "str")) aNil)))) (sVar 8) (sCall (F__law_figures 2) 1 0 1 (fun ws _ => ws) (aCons (sVar 8) aNil) aNil) [a0, a1, a2, a3, a4, a5, a6, some (.ref n), some b] h = .ok (.str u) h := by
    rcases c with rfl | ⟨i, rfl, l2, rfl⟩
    · have : fIsi [.str u, .ty "str"] h = .ok (.bl true) h := rfl
      simp -implicitDefEqProofs [this]
    · have : fIsi [.int i, .ty "str"] h = .ok (.bl false) h := rfl
      have f := ev_fig (k := 0) (h := h) l2
      simp -implicitDefEqProofs [this, f]
  have m := mtL_r (f := mApp) (ra := aCons (sIf (cV (sArgs fIsi (aCons (sVar 8) (aCons (sC (.ty "str")) aNil)))) (sVar 8) (sCall (F__law_figures 2) 1 0 1 (fun ws _ => ws) (aCons (sVar 8) aNil) aNil)) aNil) (ro := [a0, a1, a2, a3, a4, a5, a6, some (.ref n), some b]) e
  show TH [a0, a1, a2, a3, a4, a5, a6, some (.ref n), some b] h = _
  simp -implicitDefEqProofs only [TH, nSeq_e, nExpr_e, sMtL_e, sVar_s, sVar_0, ob_ok, m, aCons_e, i2, aNil_e, ap, sb_ok, sq_nx, nNext_e]
theorem cut1 {a : Val} {bs : List Val} : cutW (a :: bs) (some 1) none = bs := by
  show (List.drop (HT.sIx (bs.length + 1) 0 (some 1)) (a :: bs)).take (HT.sIx (bs.length + 1) (bs.length + 1) none - HT.sIx (bs.length + 1) 0 (some 1)) = bs
  have e : HT.sIx (bs.length + 1) 0 (some 1) = 1 := by
    unfold HT.sIx
    first
      | (simp; done)
      | (simp; omega)
      | (dsimp only; split <;> omega)
  have e2 : HT.sIx (bs.length + 1) (bs.length + 1) none = bs.length + 1 := rfl
  rw [e, e2]
  simp
/-- the things of a row -/
theorem th_loop {r : Row} (q : r.ok) : ∃ (w0 : Str) (bs : List Val) (us : List Str), r.val = .tup (.str w0 :: bs) ∧ r.ws = w0 :: us ∧ ∀ (a0 a1 a2 a3 a4 a5 a6 a8 : Option Val) (n : Nat) (x : Str) (h : HH), h[n]? = some (.lst [.str x, .str w0]) →
    ∃ a8' h', turns (gNm 8) TH (.st bs) bs.length 0 [a0, a1, a2, a3, a4, a5, a6, some (.ref n), a8] h = .go .nx [a0, a1, a2, a3, a4, a5, a6, some (.ref n), a8'] h' ∧ h'[n]? = some (.lst ((x :: r.ws).map Val.str)) ∧ ∀ i, i ≠ n → h'[i]? = h[i]? := by
  have one : ∀ (w0 u : Str) (b : Val), (b = .str u ∨ ∃ i : Int, b = .int i ∧ i.natAbs ≤ 10 ^ 12 ∧ u = numS i) → ∀ (a0 a1 a2 a3 a4 a5 a6 a8 : Option Val) (n : Nat) (x : Str) (h : HH), h[n]? = some (.lst [.str x, .str w0]) →
    ∃ a8' h', turns (gNm 8) TH (.st [b]) 1 0 [a0, a1, a2, a3, a4, a5, a6, some (.ref n), a8] h = .go .nx [a0, a1, a2, a3, a4, a5, a6, some (.ref n), a8'] h' ∧ h'[n]? = some (.lst ((x :: [w0, u]).map Val.str)) ∧ ∀ i, i ≠ n → h'[i]? = h[i]? := by
    intro w0 u b c a0 a1 a2 a3 a4 a5 a6 a8 n x h e
    refine ⟨_, _, th_one e (by simp) c, ?_, fun i hi => ?_⟩
    · rw [set_get e]; rfl
    · rw [List.getElem?_set_ne (Ne.symm hi)]
  cases r with
  | one x => exact ⟨x, [], [], rfl, rfl, fun a0 a1 a2 a3 a4 a5 a6 a8 n y h e => ⟨a8, h, turns_nil, e, fun _ _ => rfl⟩⟩
  | put i => exact ⟨"put", [.int i], [numS i], rfl, rfl, one _ _ _ (.inr ⟨i, rfl, q, rfl⟩)⟩
  | nmd x y => exact ⟨x, [.str y], [y], rfl, rfl, one _ _ _ (.inl rfl)⟩
  | goes x k =>
    have := q.2
    exact ⟨x, [.int (k : Nat)], [numS (k : Nat)], rfl, rfl, one _ _ _ (.inr ⟨_, rfl, by omega, rfl⟩)⟩
theorem row_turn {j : Nat} {r : Row} (hj : j < 60) (hr : r.ok) {a0 a2 a3 a4 a7 a8 : Option Val} {q : Nat} {xs : List Str} {h : HH} (e : h[q]? = some (.lst (xs.map Val.str))) (l : xs.length ≤ 600) :
    ∃ a7' a8' h', wRow [a0, some (.ref q), a2, a3, a4, some (.int (j : Nat)), some r.val, a7, a8] h = .go .nx [a0, some (.ref q), a2, a3, a4, some (.int (j : Nat)), some r.val, a7', a8'] h' ∧ h'[q]? = some (.lst ((xs ++ [rowS j r]).map Val.str)) ∧ Keep q h h' := by
  have f := ev_fig (k := 0) (i := ((j : Nat) : Int)) (h := h) (by omega)
  have ad : bAdd (.str "0") (.str (numS (j : Nat))) h = .ok (.str ("0" ++ numS (j : Nat))) h := add_ss (by
    have := num_short hj
    have h2 : (("0" : Str)).length = 1 := by decide +kernel
    omega)
  have ct := cut0_ev hj (h := h)
  obtain ⟨w0, bs, us, e1, e2, th⟩ := th_loop hr
  have nw : fNew [.str (zf j), .str w0] h = .ok (.ref h.length) (h ++ [.lst [.str (zf j), .str w0]]) := fNew_ok (by simp)
  have ql : q < h.length := (List.getElem?_eq_some_iff.mp e).1
  have g1 : (h ++ [.lst [.str (zf j), .str w0]])[q]? = some (.lst (xs.map Val.str)) := by rw [List.getElem?_append_left ql, e]
  have g2 : (h ++ [.lst [.str (zf j), .str w0]])[h.length]? = some (.lst [.str (zf j), .str w0]) := by rw [List.getElem?_concat_length]
  have hne : q ≠ h.length := by omega
  have k1 : ∀ i, i < h.length → (h ++ [.lst [.str (zf j), .str w0]])[i]? = h[i]? := fun i l => by rw [List.getElem?_append_left l]
  obtain ⟨h1, eh1⟩ : ∃ h1, h1 = h ++ [Ob.lst [.str (zf j), .str w0]] := ⟨_, rfl⟩
  rw [← eh1] at nw g1 g2 k1
  obtain ⟨n, en⟩ : ∃ n, n = h.length := ⟨_, rfl⟩
  rw [← en] at nw g2 hne
  obtain ⟨a8', h2, e3, e4, e5⟩ := th a0 (some (.ref q)) a2 a3 a4 (some (.int (j : Nat))) (some r.val) a8 n (zf j) h1 g2
  have g3 := (e5 q hne).trans g1
  have jn : mJoin (.str " ") (.ref n) h2 = .ok (.str (rowS j r)) h2 := by
    refine join_ev (ys := zf j :: r.ws) ?_ sp1 ?_ fun y hy => ?_
    · show (match h2[n]? with | some (.lst xs) => some xs | _ => none) = _
      rw [e4]
    · have := (ws_len r).2
      simp
      omega
    · have := (row_all hj hr y hy).ln
      omega
  have ap := app_l (y := .str (rowS j r)) g3 (by simp; omega)
  have m := mtL_r (f := mApp) (ra := aCons (sSm mJoin (sC (.str " ")) (sVar 7)) aNil) (ro := [a0, some (.ref q), a2, a3, a4, some (.int (j : Nat)), some r.val, some (.ref n), a8']) g3
  have ng : uNeg (.int 2) h = .ok (.int (-2)) h := rfl
  have i0 : bIx r.val (.int 0) h = .ok (.str w0) h := by rw [e1]; exact ix_t0
  have s1 : bSl r.val (some 1) none h1 = .ok (.tup bs) h1 := by
    rw [e1, sl_t, cut1]
  refine ⟨some (.ref n), a8', h2.set q (.lst (xs.map Val.str ++ [.str (rowS j r)])), ?_, ?_, fun i hi hq => ?_⟩
  · simp -implicitDefEqProofs only [wRow, nSeq_e, nSet_e, sArgs_e, aCons_e, sSl_e, sBin_e, sC_e, sCall_e, sVar_s, sVar_0, aNil_e, ob_ok, List.length_cons, List.length_nil, if_true, and_self, f, ad, oSome_e, sUn_e, ng, unI_i, oNone_e, ct, i0, nw, sb_ok, sq_nx, List.set_cons_zero, List.set_cons_succ, nFor_e, iVal_e, s1, itmV_tup, e3, nExpr_e, sMtL_e, m, sSm_s, bind_e, jn, ap, nNext_e]
  · rw [set_get g3, List.map_append]
    rfl
  · rw [List.getElem?_set_ne (Ne.symm hq), e5 i (by omega), k1 i hi]
theorem prs_row {rs : List Row} {i : Nat} {r : Row} (e : rs[i]? = some r) : (prs 0 (rs.map Row.val))[i]? = some (.tup [.int (i : Nat), r.val]) := by
  rw [prs_get, List.getElem?_map, e, Nat.zero_add]
  rfl
theorem rowsS_snoc : ∀ (rs : List Row) (k i : Nat) (r : Row), rs[i]? = some r → rowsS k (rs.take (i + 1)) = rowsS k (rs.take i) ++ [rowS (k + i) r]
  | [], _, _, _, e => by simp at e
  | x :: rs, k, 0, r, e => by
    cases e
    rfl
  | x :: rs, k, i + 1, r, e => by
    have := rowsS_snoc rs (k + 1) i r (by simpa using e)
    show rowS k x :: rowsS (k + 1) (rs.take (i + 1)) = rowS k x :: (rowsS (k + 1) (rs.take i) ++ [rowS (k + (i + 1)) r])
    rw [this, show k + 1 + i = k + (i + 1) by omega]
theorem part_turnW {p : Part} (hp : p.ok) {a0 a5 a6 a7 a8 : Option Val} {q : Nat} {xs : List Str} {h : HH} (e : h[q]? = some (.lst (xs.map Val.str))) (l : xs.length ≤ 500) :
    ∃ a5' a6' a7' a8' h', wPart [a0, some (.ref q), some (.str p.nm), some (.tup (p.ns.map Val.str)), some (.tup (p.rows.map Row.val)), a5, a6, a7, a8] h = .go .nx [a0, some (.ref q), some (.str p.nm), some (.tup (p.ns.map Val.str)), some (.tup (p.rows.map Row.val)), a5', a6', a7', a8'] h' ∧ h'[q]? = some (.lst ((xs ++ linesP p).map Val.str)) ∧ Keep q h h' := by
  have ft : fLst [.str "part", .str p.nm] h = .ok (.lst [.str "part", .str p.nm]) h := fLst_ok (by simp)
  have lf : fLof [.tup (p.ns.map Val.str)] h = .ok (.lst (p.ns.map Val.str)) h := lof_t (by
    have := hp.ln
    simp
    omega)
  have ad : bAdd (.lst [.str "part", .str p.nm]) (.lst (p.ns.map Val.str)) h = .ok (.lst ((headW p).map Val.str)) h := add_ll (by
    have := hp.ln
    simp
    omega)
  have jn : mJoin (.str " ") (.lst ((headW p).map Val.str)) h = .ok (.str (headS p)) h := join_ev rfl sp1 (by
    have := hp.ln
    simp [headW]
    omega) fun y hy => by
    have := (head_words hp y hy).ln
    omega
  have ap : mApp (.ref q) [.str (headS p)] h = .ok .non (h.set q (.lst (xs.map Val.str ++ [.str (headS p)]))) := app_l e (by simp; omega)
  have e1 : (h.set q (.lst (xs.map Val.str ++ [.str (headS p)])))[q]? = some (.lst ((xs ++ [headS p]).map Val.str)) := by
    rw [set_get e, List.map_append]
    rfl
  have m0 := mtL_r (f := mApp) (ra := aCons (sSm mJoin (sC (.str " ")) (sBin bAdd (sArgs fLst (aCons (sC (.str "part")) (aCons (sVar 2) aNil))) (sArgs fLof (aCons (sVar 3) aNil)))) aNil) (ro := [a0, some (.ref q), some (.str p.nm), some (.tup (p.ns.map Val.str)), some (.tup (p.rows.map Row.val)), a5, a6, a7, a8]) e
  have K1 : Keep q h (h.set q (.lst (xs.map Val.str ++ [.str (headS p)]))) := Keep.set
  generalize h.set q (.lst (xs.map Val.str ++ [.str (headS p)])) = h1 at ap e1 K1
  have l2 := hp.l2
  obtain ⟨ro', h', el, ⟨b5, b6, b7, b8, er⟩, e2, K2⟩ := turns_inv (g := gTp 2 (gsCons (gNm 5) (gsCons (gNm 6) gsNil))) (body := wRow) (x := .st (prs 0 (p.rows.map Row.val))) (n := p.rows.length)
    (fun i ro g => (∃ b5 b6 b7 b8 : Option Val, ro = [a0, some (.ref q), some (.str p.nm), some (.tup (p.ns.map Val.str)), some (.tup (p.rows.map Row.val)), b5, b6, b7, b8]) ∧ g[q]? = some (.lst ((xs ++ headS p :: rowsS 0 (p.rows.take i)).map Val.str)) ∧ Keep q h g)
    (fun i ro g ⟨⟨b5, b6, b7, b8, er⟩, eg, Kg⟩ hi => by
      subst er
      have ei : p.rows[i]? = some p.rows[i] := List.getElem?_eq_getElem hi
      have hr := hp.rows _ (List.getElem_mem hi)
      generalize p.rows[i] = r at ei hr
      obtain ⟨c7, c8, g2, e3, e4, K3⟩ := row_turn (j := i) (by omega) hr (a0 := a0) (a2 := some (.str p.nm)) (a3 := some (.tup (p.ns.map Val.str))) (a4 := some (.tup (p.rows.map Row.val))) (a7 := b7) (a8 := b8) eg (by simp [rows_len]; omega)
      refine ⟨.tup [.int (i : Nat), r.val], _, g, _, g2, ?_, rfl, e3, ⟨_, _, _, _, rfl⟩, ?_, Kg.trans K3⟩
      · show some (prs 0 (p.rows.map Row.val))[i]? = _
        rw [prs_row ei]
      · rw [e4, rowsS_snoc _ 0 i r ei, Nat.zero_add]
        simp)
    (fun ro g _ => by
      show some (prs 0 (p.rows.map Row.val))[p.rows.length]? = _
      rw [prs_get]
      simp) p.rows.length 0 [a0, some (.ref q), some (.str p.nm), some (.tup (p.ns.map Val.str)), some (.tup (p.rows.map Row.val)), a5, a6, a7, a8] h1 rfl ⟨⟨_, _, _, _, rfl⟩, by rw [e1]; rfl, K1⟩
  subst er
  rw [List.take_length] at e2
  refine ⟨b5, b6, b7, b8, h', ?_, e2, K2⟩
  have el' : turns (gTp 2 (gsCons (gNm 5) (gsCons (gNm 6) gsNil))) wRow (.st (prs 0 (p.rows.map Row.val))) (p.rows.map Row.val).length 0 [a0, some (.ref q), some (.str p.nm), some (.tup (p.ns.map Val.str)), some (.tup (p.rows.map Row.val)), a5, a6, a7, a8] h1 = .go .nx [a0, some (.ref q), some (.str p.nm), some (.tup (p.ns.map Val.str)), some (.tup (p.rows.map Row.val)), b5, b6, b7, b8] h' := by
    rw [List.length_map]; exact el
  simp -implicitDefEqProofs only [wPart, nSeq_e, nExpr_e, sMtL_e, sVar_1, ob_ok, m0, aCons_e, sSm_s, sC_e, sBin_e, bind_e, sArgs_e, sVar_s, sVar_0, aNil_e, ft, lf, ad, jn, ap, sb_ok, sq_nx, nFor_e, iEn_e, fEn_tup, el', nNext_e]
theorem ev_written {qs : List Part} {h : HH} (hq : ∀ q ∈ qs, q.ok) (l : qs.length ≤ 8) : ∃ h', F__law_written [.tup (qs.map Part.val)] h = .ok (.str (TX qs)) h' ∧ ∀ i, i < h.length → h'[i]? = h[i]? := by
  rw [e__law_written, written_is]
  have nw : fNew [] h = .ok (.ref h.length) (h ++ [.lst []]) := fNew_ok (by simp)
  generalize eh1 : h ++ [.lst []] = h1 at nw
  have e1 : h1[h.length]? = some (.lst (([] : List Str).map Val.str)) := by rw [← eh1, List.getElem?_concat_length]; rfl
  have K1 : ∀ i, i < h.length → h1[i]? = h[i]? := fun i l => by rw [← eh1, List.getElem?_append_left l]
  obtain ⟨q, eq⟩ : ∃ q, q = h.length := ⟨_, rfl⟩
  rw [← eq] at nw e1
  obtain ⟨ro', h', el, ⟨a2, a3, a4, a5, a6, a7, a8, er⟩, e2, K2⟩ := turns_inv (g := gTp 3 (gsCons (gNm 2) (gsCons (gNm 3) (gsCons (gNm 4) gsNil)))) (body := wPart) (x := .st (qs.map Part.val)) (n := (qs.map Part.val).length)
    (fun i ro g => (∃ a2 a3 a4 a5 a6 a7 a8 : Option Val, ro = [some (.tup (qs.map Part.val)), some (.ref q), a2, a3, a4, a5, a6, a7, a8]) ∧ g[q]? = some (.lst ((linesS (qs.take i)).map Val.str)) ∧ Keep q h g)
    (fun i ro g ⟨⟨a2, a3, a4, a5, a6, a7, a8, er⟩, eg, Kg⟩ hi => by
      subst er
      rw [List.length_map] at hi
      have ei : qs[i]? = some qs[i] := List.getElem?_eq_getElem hi
      have hp := hq _ (List.getElem_mem hi)
      generalize qs[i] = pt at ei hp
      obtain ⟨b5, b6, b7, b8, g2, e3, e4, K3⟩ := part_turnW hp (a0 := some (.tup (qs.map Part.val))) (a5 := a5) (a6 := a6) (a7 := a7) (a8 := a8) eg (by have := lines_bound hq l i; omega)
      rw [← lines_take ei] at e4
      exact ⟨pt.val, _, g, _, g2, by show some (qs.map Part.val)[i]? = _; rw [List.getElem?_map, ei]; rfl, rfl, e3, ⟨_, _, _, _, _, _, _, rfl⟩, e4, Kg.trans K3⟩)
    (fun ro g _ => by show some (qs.map Part.val)[(qs.map Part.val).length]? = _; simp) (qs.map Part.val).length 0 [some (.tup (qs.map Part.val)), some (.ref q), none, none, none, none, none, none, none] h1 rfl ⟨⟨_, _, _, _, _, _, _, rfl⟩, e1, fun i l n => K1 i l⟩
  subst er
  rw [List.length_map, List.take_length] at e2
  have jn := fin_join hq l e2
  refine ⟨h', ?_, fun i l => K2 i l (by omega)⟩
  simp -implicitDefEqProofs only [nSeq_e, nSet_e, sArgs_e, aNil_e, ob_ok, nw, sb_ok, sq_nx, List.set_cons_zero, List.set_cons_succ, nFor_e, iVal_e, sVar_0, itmV_tup, el, nRet_e, sSm_s, sC_e, bind_e, sVar_1, jn, sq_ret, outOf_ret]
end K68
set_option Elab.async false
set_option maxRecDepth 100000
set_option linter.unusedVariables false
set_option linter.unusedSimpArgs false
namespace K68
open PySem PySem.Spec PyProof.Rows L2 Z
/-! ### numbers read -/
theorem head_num : ∀ n : Nat, 1 ≤ n → ∃ c r, TL.numL n = c :: r ∧ c ≠ 48 := by
  intro n
  induction n using Nat.strongRecOn with
  | ind n ih =>
    intro h
    by_cases l : n < 10
    · exact ⟨48 + n, [], TL.numL_lt l, by omega⟩
    · obtain ⟨c, r, e, hc⟩ := ih (n / 10) (by omega) (by omega)
      refine ⟨c, r ++ [48 + n % 10], ?_, hc⟩
      rw [TL.numL_step (by omega), e]
      rfl
theorem num_shape (n : Nat) : ∃ c r, TL.numL n = c :: r ∧ 48 ≤ c ∧ c ≤ 57 ∧ (c = 48 → r = []) := by
  by_cases h : n = 0
  · subst h
    exact ⟨48, [], TL.numL_lt (by omega), by omega, by omega, fun _ => rfl⟩
  · obtain ⟨c, r, e, hc⟩ := head_num n (by omega)
    have := TL.numL_digits n c (by rw [e]; exact List.mem_cons_self)
    exact ⟨c, r, e, this.1, this.2, fun q => absurd q hc⟩
def figs : Str := "0123456789"
def fg1 (w : Val) : Bool := match w with
  | .str c => !(Builtin.Str.occurrences figs c 0 figs.length 1).isEmpty
  | _ => false
theorem figs_list : figs.cps.toList = (List.range 10).map fun i => 48 + i := by decide +kernel
theorem fg_ok {c : Nat} (h : 48 ≤ c ∧ c ≤ 57) : fg1 (.str ⟨#[c]⟩) = true := by
  show (!(Builtin.Str.occurrences figs ⟨#[c]⟩ 0 figs.length 1).isEmpty) = true
  rw [PySem.StrLaws.found_one, decide_eq_true_eq, figs_list, List.mem_map]
  exact ⟨c - 48, List.mem_range.mpr (by omega), by omega⟩
theorem ix_s0 {x : Str} {c : Nat} {r : List Nat} {h : HH} (e : TL.tl x = c :: r) (l : x.length ≤ 1000) : bIx (.str x) (.int 0) h = .ok (.str ⟨#[c]⟩) h := by
  show (if x.length ≤ sizeLine then (match L2.atI x.cps.toList 0 with
    | some c => Out.ok (Val.str ⟨#[c]⟩) h
    | none => .bad) else .bad) = _
  rw [if_pos (by have := sizeLine_eq; omega)]
  have e' : x.cps.toList = c :: r := e
  rw [e']
  have : L2.atI (c :: r) (0 : Nat) = some c := atI_nat rfl
  have : L2.atI (c :: r) 0 = some c := this
  rw [this]
theorem ev_num {n : Nat} {h : HH} (l : n ≤ 10 ^ 12) : F_number_in [.str (numS (n : Nat)), c_FIGURES] h = .ok (.int (n : Nat)) h := by
  have et : TL.tl (numS (n : Nat)) = TL.numL n := numS_nat n
  have l13 : (TL.numL n).length ≤ 13 := TL.numL_len (by decide) (Nat.lt_of_le_of_lt l (by decide))
  have hi : intText? (numS (n : Nat)) = some (n : Int) := TL.int_num (by omega)
  generalize numS (n : Nat) = x at et hi
  have lx : x.length = (TL.numL n).length := by rw [len_tl, et]
  obtain ⟨c, r, en, c1, c2, c3⟩ := num_shape n
  have l1 : 1 ≤ x.length := by rw [lx, en]; simp
  have hz := sizeLine_eq
  have ls := Z.len_str (x := x) (h := h) (by omega)
  have hc : sLc (iVal (sVar 0)) (gNm 2) tYesZ (sBin (bIn false) (sVar 2) (sVar 1)) [2] [some (.str x), some (.str figs), none] h = .ok (.lst ((Z.signs x).map fun w => .bl (fg1 w))) h := by
    refine sLc_map (f := fun w => .bl (fg1 w)) ?_ fun w hw => ?_
    · simp [itmV_str (x := x) (h := h) (by omega)]
    · obtain ⟨c, _, rfl⟩ := List.mem_map.mp hw
      rfl
  have al : fAll [.lst ((Z.signs x).map fun w => .bl (fg1 w))] h = .ok (.bl true) h := by
    rw [fAll_map]
    have : (Z.signs x).all fg1 = true := by
      rw [List.all_eq_true]
      intro w hw
      obtain ⟨d, hd, rfl⟩ := List.mem_map.mp hw
      exact fg_ok (TL.numL_digits n d (by rw [← et]; exact hd))
    rw [this]
  have i0 := ix_s0 (h := h) (et.trans en) (by omega)
  have lf : fLen [.str figs] h = .ok (.int 10) h := by
    rw [Z.len_str (by rw [show figs.length = 10 by decide +kernel]; omega), show figs.length = 10 by decide +kernel]
    rfl
  have ft : fIntX [.str x, .int 10] h = .ok (.int (n : Nat)) h := by
    show (match PySem.intText? x with
      | some n => if x.length ≤ 640 then Out.ok (Val.int n) h else .bad
      | none => .bad) = _
    rw [hi]
    dsimp only
    rw [if_pos (by omega)]
  have k1 : decide ((1 : Int) ≤ (x.length : Nat)) = true := decide_eq_true (by omega)
  have k2 : decide (((x.length : Nat) : Int) ≤ 40) = true := decide_eq_true (by omega)
  have k3 : (decide ((⟨#[c]⟩ : Str) = "0") && decide ((1 : Int) < (x.length : Nat))) = false := by
    by_cases q : c = 48
    · have : x.length = 1 := by rw [lx, en, c3 q]; rfl
      rw [Bool.and_eq_false_iff]
      exact .inr (decide_eq_false (by omega))
    · rw [Bool.and_eq_false_iff]
      refine .inl (decide_eq_false fun e => q ?_)
      have e2 := congrArg TL.tl e
      have e3 : TL.tl ("0" : Str) = [48] := by decide +kernel
      rw [e3] at e2
      exact (List.cons.inj e2).1
  have cf : c_FIGURES = .str figs := rfl
  rw [e_number_in, cf]
  simp -implicitDefEqProofs only [m_number_in, nSeq_e, nIf_e, cOr_e, cNot_e, asT_e, sChn_e, sC_e, ob_ok, kLink_e, sArgs_e, aCons_e, sVar_0, aNil_e, ls, bOrd_e, kIf_bl, k1, if_true, kLast_e, c_MOST_FIGURES, k2, unB_bl, Bool.not_true, Bool.false_eq_true, if_false, cV_e, hc, al, tr_bl, sb_ok, nNext_e, sq_nx, cAnd_e, cBin_e, sBin_e, i0, eq_ss, nRet_e, sVar_1, lf, ft, sq_ret, outOf_ret]
  by_cases q : (⟨#[c]⟩ : Str) = "0"
  · have k4 : decide ((1 : Int) < (x.length : Nat)) = false := by
      rw [decide_eq_true q, Bool.true_and] at k3
      exact k3
    simp -implicitDefEqProofs only [decide_eq_true q, if_true, k4, unB_bl, ob_ok, sb_ok, Bool.false_eq_true, if_false, nNext_e, sq_nx, nSeq_e, nRet_e, sArgs_e, aCons_e, sVar_0, sVar_1, aNil_e, lf, ft, sq_ret, outOf_ret]
  · simp -implicitDefEqProofs only [decide_eq_false q, Bool.false_eq_true, if_false, unB_bl, ob_ok, sb_ok, nNext_e, sq_nx, nSeq_e, nRet_e, sArgs_e, aCons_e, sVar_0, sVar_1, aNil_e, lf, ft, sq_ret, outOf_ret]
theorem ev_rnum {n : Nat} {h : HH} (l : n ≤ 10 ^ 12) : F_read_row_number [.str (numS (n : Nat))] h = .ok (.int (n : Nat)) h := by
  rw [e_read_row_number]
  simp -implicitDefEqProofs only [m_read_row_number, nSeq_e, nRet_e, sCall_e, aCons_e, sVar_0, sC_e, aNil_e, ob_ok, List.length_cons, List.length_nil, if_true, and_self, ev_num l, sb_ok, sq_ret, outOf_ret]
/-! ### startswith -/
theorem starts_one {x : Str} {c s : Nat} {r : List Nat} (e : TL.tl x = c :: r) {y : Str} (ey : TL.tl y = [s]) : Txt.startswith x y = decide (c = s) := by
  have ly : y.length = 1 := by rw [len_tl, ey]; rfl
  have lx : 1 ≤ x.length := by rw [len_tl, e]; simp
  show (decide (0 + y.length ≤ x.length) && Builtin.Str.subAt x y 0) = _
  rw [decide_eq_true (by omega), Bool.true_and, PySem.StrLaws.subAt_eq, ly]
  have e' : x.cps.toList = c :: r := e
  have ey' : y.cps.toList = [s] := ey
  rw [e', ey']
  show ([c] == [s]) = decide (c = s)
  by_cases q : c = s
  · subst q; simp
  · simp [q]
theorem mstarts_one {x : Str} {c s : Nat} {r : List Nat} (e : TL.tl x = c :: r) {y : Str} (ey : TL.tl y = [s]) {h : HH} : mStarts (.str x) (.str y) h = .ok (.bl (decide (c = s))) h := by
  show Out.ok (Val.bl (Txt.startswith x y)) h = _
  rw [starts_one e ey]
theorem minus_tl : TL.tl ("-" : Str) = [45] := by decide +kernel
theorem x_tl : TL.tl ("x" : Str) = [120] := by decide +kernel
theorem cutS1 {x y : Str} {c : Nat} (e : TL.tl x = c :: TL.tl y) : cutS x (some 1) none = y := by
  refine TL.ext_tl ?_
  have lx : x.length = (TL.tl y).length + 1 := by rw [len_tl, e]; rfl
  show (x.cps.toList.drop (HT.sIx x.length 0 (some ((1 : Nat) : Int)))).take (HT.sIx x.length x.length none - HT.sIx x.length 0 (some ((1 : Nat) : Int))) = TL.tl y
  rw [HT.sIx_nat, HT.sIx_none]
  have e' : x.cps.toList = c :: TL.tl y := e
  rw [e', lx, Nat.min_eq_left (by omega)]
  exact List.take_of_length_le (Nat.le_refl _)
theorem ev_rworth {i : Int} {h : HH} (l : i.natAbs ≤ 10 ^ 12) : F_read_worth [.str (numS i)] h = .ok (.int i) h := by
  rw [e_read_worth]
  rcases numS_cases i with ⟨n, rfl, e⟩ | ⟨n, rfl, e⟩
  · obtain ⟨c, r, en, c1, c2, _⟩ := num_shape n
    have s1 := mstarts_one (e.trans en) minus_tl (h := h)
    have s2 := mstarts_one (e.trans en) x_tl (h := h)
    rw [decide_eq_false (by omega)] at s1 s2
    have nm := ev_num (n := n) (h := h) (by omega)
    have i1 : bIs false (.int (n : Nat)) .non h = .ok (.bl false) h := by rw [is_non]
    simp -implicitDefEqProofs only [m_read_worth, nSeq_e, nSet_e, sIf_e, cV_e, sSm_s, sVar_0, ob_ok, bind_e, sC_e, s1, tr_bl, Bool.false_eq_true, if_false, sb_ok, sq_nx, List.set_cons_zero, List.set_cons_succ, sVar_1, s2, sCall_e, aCons_e, aNil_e, List.length_cons, List.length_nil, if_true, and_self, nm, nIf_e, cOr_e, cBin_e, sVar_s, i1, unB_bl, eq_ss, decide_true, nRet_e, sq_ret, outOf_ret]
  · have e2 : TL.tl (numS ((n + 1 : Nat) : Int)) = TL.numL (n + 1) := numS_nat (n + 1)
    obtain ⟨c, r, en, c1, c2, _⟩ := num_shape (n + 1)
    have s1 := mstarts_one e minus_tl (h := h)
    rw [decide_eq_true rfl] at s1
    have s2 := mstarts_one (e2.trans en) x_tl (h := h)
    rw [decide_eq_false (by omega)] at s2
    have nm := ev_num (n := n + 1) (h := h) (by omega)
    have lw := (word_num l).ln
    have sl : bSl (.str (numS (-((n + 1 : Nat) : Int)))) (some 1) none h = .ok (.str (numS ((n + 1 : Nat) : Int))) h := by
      show (if (numS (-((n + 1 : Nat) : Int))).length ≤ sizeLine then Out.ok (Val.str (cutS (numS (-((n + 1 : Nat) : Int))) (some 1) none)) h else .bad) = _
      rw [cutS1 (e.trans (by rw [e2])), if_pos (by have := sizeLine_eq; omega)]
    have ne : ¬ numS ((n + 1 : Nat) : Int) = numS (-((n + 1 : Nat) : Int)) := by
      intro q
      have := congrArg TL.tl q
      rw [e2, e] at this
      have := congrArg List.length this
      simp at this
    have i1 : bIs false (.int ((n + 1 : Nat) : Int)) .non h = .ok (.bl false) h := by rw [is_non]
    have gt : decide ((0 : Int) < ((n + 1 : Nat) : Int)) = true := decide_eq_true (by omega)
    simp -implicitDefEqProofs only [m_read_worth, nSeq_e, nSet_e, sIf_e, cV_e, sSm_s, sVar_0, ob_ok, bind_e, sC_e, s1, tr_bl, if_true, sSl_e, oSome_e, unI_i, oNone_e, sl, sb_ok, sq_nx, List.set_cons_zero, List.set_cons_succ, sVar_1, s2, Bool.false_eq_true, if_false, sCall_e, aCons_e, aNil_e, List.length_cons, List.length_nil, and_self, nm, nIf_e, cOr_e, cBin_e, sVar_s, i1, unB_bl, eq_ss, decide_eq_false ne, nNext_e, nRet_e, bOrd_e, gt, sUn_e, neg_i, sq_ret, outOf_ret]
/-! ### names read -/
theorem name_strOk {y : Str} (h : nameB y = true) : PyData.strOk y = true := by
  obtain ⟨h1, h2, h3⟩ := name_iff.mp h
  unfold PyData.strOk
  rw [Array.all_eq_true_iff_forall_mem]
  intro c hc
  have := h3 c (Array.mem_toList_iff.mpr hc)
  simp
  omega
theorem name_pl {y : Str} (h : nameB y = true) : pl (.str y) = true := by
  obtain ⟨h1, h2, h3⟩ := name_iff.mp h
  unfold pl
  rw [name_strOk h, Bool.true_and, decide_eq_true_eq]
  omega
theorem ev_isname {y : Str} {h : HH} (q : nameB y = true) : F_is_name [.str y] h = .ok (.bl true) h := by
  rw [ev_name (name_pl q)]
  show Out.ok (Val.bl (nameB y)) h = _
  rw [q]
theorem ev_rname {y : Str} {h : HH} (q : nameB y = true) : F_read_name [.str y] h = .ok (.str y) h := by
  rw [e_read_name]
  simp -implicitDefEqProofs only [m_read_name, nSeq_e, nRet_e, sIf_e, cV_e, sCall_e, aCons_e, sVar_0, sC_e, aNil_e, ob_ok, List.length_cons, List.length_nil, if_true, and_self, ev_isname q, tr_bl, sb_ok, sq_ret, outOf_ret]
/-! ### rows read -/
section
variable {C_READS C_read_name C_read_row_number C_read_worth : Addr}
theorem sCallL_e {i np : Nat} {L : List (Addr × (List Val → M Val))} {ra : En → M (List Val)} {ro : En} {h : HH} {a : Addr} {F : List Val → M Val} (e1 : sVar i ro h = .ok (.glo a) h) (e2 : disp L a = some F) : sCallL i np L ra ro h = obind (ra ro h) fun ws h1 => (if ws.length = np then F ws else fail) h1 := by
  show obind (sVar i ro h) _ = _
  rw [e1]
  show (match disp L a with
    | some F => bind (ra ro) fun ws => if ws.length = np then F ws else fail
    | none => fail) h = _
  rw [e2]
  rfl
theorem row_two {x y : Str} {a : Addr} {F : List Val → M Val} {b : Val} {h : HH} (hx : x ∈ keys_READS) (hn : ¬ anyS ALONE x = true) (lk : (kv_READS C_read_name C_read_row_number C_read_worth).lookup x = some a)
    (ds : disp [(C_read_worth, F_read_worth), (C_read_name, F_read_name), (C_read_row_number, F_read_row_number)] a = some F) (ev : F [.str y] h = .ok b h) (nb : bIs false b .non h = .ok (.bl false) h) :
    F_row_of C_READS C_read_name C_read_row_number C_read_worth [.lst [.str x, .str y]] h = .ok (.tup [.str x, b]) h := by
  have i0 : bIx (.lst [.str x, .str y]) (.int 0) h = .ok (.str x) h := ix_l (i := 0) rfl
  have i1 : bIx (.lst [.str x, .str y]) (.int 1) h = .ok (.str y) h := ix_l (i := 1) rfl
  have kn : bKin true C_READS keys_READS (.str x) (.glo C_READS) h = .ok (.bl false) h := by
    show (if C_READS = C_READS ∧ x ∈ keys_READS then Out.ok (Val.bl (!true)) h else .bad) = _
    rw [if_pos ⟨rfl, hx⟩]; rfl
  have kg : bKget C_READS (kv_READS C_read_name C_read_row_number C_read_worth) (.glo C_READS) (.str x) h = .ok (.glo a) h := by
    show (if C_READS = C_READS then (match (kv_READS C_read_name C_read_row_number C_read_worth).lookup x with
      | some a => Out.ok (Val.glo a) h
      | none => .bad) else .bad) = _
    rw [if_pos rfl, lk]
  have sc := sCallL_e (i := 1) (np := 1) (ra := aCons (sBin bIx (sVar 0) (sC (.int 1))) aNil) (ro := [some (.lst [.str x, .str y]), some (.glo a), none]) (h := h) rfl ds
  have ft : fTup [.str x, b] h = .ok (.tup [.str x, b]) h := fTup_ok (by simp)
  have l2 : decide (((2 : Nat) : Int) = 1) = false := by decide
  have l3 : (!decide (((2 : Nat) : Int) = 2)) = false := by decide
  have ll : fLen [.lst [.str x, .str y]] h = .ok (.int ((2 : Nat) : Int)) h := rfl
  rw [e_row_of]
  simp -implicitDefEqProofs only [m_row_of, nSeq_e, nIf_e, cAnd_e, cBin_e, sArgs_e, aCons_e, sVar_0, aNil_e, ob_ok, ll, sC_e, eq_ii, l2, unB_bl, Bool.false_eq_true, if_false, sb_ok, nNext_e, sq_nx, cOr_e, ne_ii, l3, sBin_e, i0, kn, nSet_e, kg, List.set_cons_zero, List.set_cons_succ, sc, i1, List.length_cons, List.length_nil, if_true, ev, nRet_e, sIf_e, sVar_s, sVar_1, nb, ft, sq_ret, outOf_ret]
theorem ev_rowof {r : Row} {h : HH} (n1 : C_read_name ≠ C_read_row_number) (n2 : C_read_name ≠ C_read_worth) (n3 : C_read_row_number ≠ C_read_worth) (q : r.ok) : F_row_of C_READS C_read_name C_read_row_number C_read_worth [.lst (r.ws.map Val.str)] h = .ok r.val h := by
  have d1 : disp [(C_read_worth, F_read_worth), (C_read_name, F_read_name), (C_read_row_number, F_read_row_number)] C_read_worth = some F_read_worth := by
    unfold disp; rw [if_pos rfl]
  have d2 : disp [(C_read_worth, F_read_worth), (C_read_name, F_read_name), (C_read_row_number, F_read_row_number)] C_read_name = some F_read_name := by
    unfold disp; rw [if_neg n2]; unfold disp; rw [if_pos rfl]
  have d3 : disp [(C_read_worth, F_read_worth), (C_read_name, F_read_name), (C_read_row_number, F_read_row_number)] C_read_row_number = some F_read_row_number := by
    unfold disp; rw [if_neg n3]; unfold disp; rw [if_neg (Ne.symm n1)]; unfold disp; rw [if_pos rfl]
  cases r with
  | one x =>
    have hx : x ∈ ALONE := q
    have an : ((ALONE.map Val.str).any fun y => eqF y (.str x)) = true := by
      show anyS ALONE x = true
      rw [anyS_eq]
      exact List.any_eq_true.mpr ⟨x, hx, by simp⟩
    have i2 : bIn false (.str x) c_BARE h = .ok (.bl true) h := by
      have := in_t (w := .str x) (xs := ALONE.map Val.str) (h := h) rfl (by decide +kernel)
      rw [an] at this
      exact this
    have i0 : bIx (.lst [.str x]) (.int 0) h = .ok (.str x) h := ix_l (i := 0) rfl
    have ll : fLen [.lst [.str x]] h = .ok (.int ((1 : Nat) : Int)) h := rfl
    have l2 : decide (((1 : Nat) : Int) = 1) = true := by decide
    have ft : fTup [.str x] h = .ok (.tup [.str x]) h := fTup_ok (by simp)
    show F_row_of C_READS C_read_name C_read_row_number C_read_worth [.lst [.str x]] h = .ok (.tup [.str x]) h
    rw [e_row_of]
    simp -implicitDefEqProofs only [m_row_of, nSeq_e, nIf_e, cAnd_e, cBin_e, sArgs_e, aCons_e, sVar_0, aNil_e, ob_ok, ll, sC_e, eq_ii, l2, unB_bl, if_true, sBin_e, i0, i2, sb_ok, nRet_e, ft, sq_ret, outOf_ret]
  | put i => exact row_two (by decide +kernel) (by decide +kernel) (show _ = some C_read_worth by rfl) d1 (ev_rworth q) rfl
  | nmd x y =>
    obtain ⟨hx, hy⟩ := q
    have hx' : x = "get" ∨ x = "set" ∨ x = "look" ∨ x = "change" ∨ x = "call" := by simpa [NMD] using hx
    have key : ∀ z : Str, z ∈ keys_READS → ¬ anyS ALONE z = true → (kv_READS C_read_name C_read_row_number C_read_worth).lookup z = some C_read_name → F_row_of C_READS C_read_name C_read_row_number C_read_worth [.lst [.str z, .str y]] h = .ok (.tup [.str z, .str y]) h :=
      fun z h1 h2 h3 => row_two h1 h2 h3 d2 (ev_rname hy) rfl
    rcases hx' with rfl | rfl | rfl | rfl | rfl <;> exact key _ (by decide +kernel) (by decide +kernel) rfl
  | goes x k =>
    obtain ⟨hx, hk⟩ := q
    have hx' : x = "go" ∨ x = "if" ∨ x = "try" := by simpa [GOES] using hx
    have key : ∀ z : Str, z ∈ keys_READS → ¬ anyS ALONE z = true → (kv_READS C_read_name C_read_row_number C_read_worth).lookup z = some C_read_row_number → F_row_of C_READS C_read_name C_read_row_number C_read_worth [.lst [.str z, .str (numS (k : Nat))]] h = .ok (.tup [.str z, .int (k : Nat)]) h :=
      fun z h1 h2 h3 => row_two h1 h2 h3 d3 (ev_rnum (by omega)) rfl
    rcases hx' with rfl | rfl | rfl <;> exact key _ (by decide +kernel) (by decide +kernel) rfl
end
end K68
set_option Elab.async false
set_option maxRecDepth 100000
set_option linter.unusedVariables false
set_option linter.unusedSimpArgs false
namespace Z
open PySem PySem.Spec PyProof.Rows L2
/-! ### deep readings -/
def RdA (h : HH) (c : Nat) (w a : Val) : Prop := ∀ m, c ≤ m → rdD h m w = some a
theorem RdA.mono {h : HH} {c d : Nat} {w a : Val} (r : RdA h c w a) (l : c ≤ d) : RdA h d w a := fun m hm => r m (by omega)
theorem rda_str {h : HH} {x : Str} : RdA h 1 (.str x) (.str x) := fun m hm => by
  obtain ⟨m, rfl⟩ : ∃ k, m = k + 1 := ⟨m - 1, by omega⟩
  unfold rdD; rfl
theorem rda_int {h : HH} {x : Int} : RdA h 1 (.int x) (.int x) := fun m hm => by
  obtain ⟨m, rfl⟩ : ∃ k, m = k + 1 := ⟨m - 1, by omega⟩
  unfold rdD; rfl
theorem rdas {h : HH} {c : Nat} : ∀ {zs : List (Val × Val)}, (∀ z ∈ zs, RdA h c z.1 z.2) → ∀ m, c + zs.length + 1 ≤ m → rdDs h m (zs.map (·.1)) = some (zs.map (·.2))
  | [], _, m, hm => by
    obtain ⟨m, rfl⟩ : ∃ k, m = k + 1 := ⟨m - 1, by omega⟩
    show rdDs h (m + 1) [] = _
    unfold rdDs; rfl
  | z :: zs, hz, m, hm => by
    rw [List.length_cons] at hm
    obtain ⟨m, rfl⟩ : ∃ k, m = k + 1 := ⟨m - 1, by omega⟩
    show rdDs h (m + 1) (z.1 :: zs.map (·.1)) = _
    unfold rdDs
    rw [hz z List.mem_cons_self m (by omega), rdas (fun y hy => hz y (List.mem_cons_of_mem _ hy)) m (by omega)]
    rfl
theorem rda_tup {h : HH} {c : Nat} {zs : List (Val × Val)} (hz : ∀ z ∈ zs, RdA h c z.1 z.2) : RdA h (c + zs.length + 2) (.tup (zs.map (·.1))) (.tup (zs.map (·.2))) := fun m hm => by
  obtain ⟨m, rfl⟩ : ∃ k, m = k + 1 := ⟨m - 1, by omega⟩
  unfold rdD
  rw [rdas hz m (by omega)]; rfl
theorem rda_lst {h : HH} {c : Nat} {zs : List (Val × Val)} (hz : ∀ z ∈ zs, RdA h c z.1 z.2) : RdA h (c + zs.length + 2) (.lst (zs.map (·.1))) (.lst (zs.map (·.2))) := fun m hm => by
  obtain ⟨m, rfl⟩ : ∃ k, m = k + 1 := ⟨m - 1, by omega⟩
  unfold rdD
  rw [rdas hz m (by omega)]; rfl
theorem rda_ref {h : HH} {c i : Nat} {zs : List (Val × Val)} (e : h[i]? = some (.lst (zs.map (·.1)))) (hz : ∀ z ∈ zs, RdA h c z.1 z.2) : RdA h (c + zs.length + 2) (.ref i) (.lst (zs.map (·.2))) := fun m hm => by
  obtain ⟨m, rfl⟩ : ∃ k, m = k + 1 := ⟨m - 1, by omega⟩
  unfold rdD
  rw [e]
  show (rdDs h m _).map _ = _
  rw [rdas hz m (by omega)]; rfl
theorem okVs_of : ∀ {xs : List Val}, (∀ w ∈ xs, okV w = true) → okVs xs = true
  | [], _ => rfl
  | x :: xs, h => by
    show (okV x && okVs xs) = true
    rw [h x List.mem_cons_self, okVs_of fun w hw => h w (List.mem_cons_of_mem _ hw)]; rfl
theorem eqD_nil {neg : Bool} {h : HH} {c : Nat} {w : Val} {xs : List Val} (r : RdA h c w (.lst xs)) (l : c ≤ 100000) (o : ∀ w ∈ xs, okV w = true) : bEqD neg w (.lst []) h = .ok (.bl (if neg then !xs.isEmpty else xs.isEmpty)) h := by
  have r2 : RdA h (0 + 0 + 2) (.lst []) (.lst []) := rda_lst (c := 0) (zs := []) (fun _ h => nomatch h)
  have e1 := r 100000 l
  have e2 := r2 100000 (by omega)
  have e3 : PyData.eqv (toD (.lst xs)) (toD (.lst [])) = xs.isEmpty := by cases xs <;> rfl
  show (match rdD h 100000 w, rdD h 100000 (.lst []) with
    | some a, some b => if okV a = true ∧ okV b = true ∧ min (toD a).depth (toD b).depth ≤ 64 then Out.ok (Val.bl (if neg then !PyData.eqv (toD a) (toD b) else PyData.eqv (toD a) (toD b))) h else .bad
    | _, _ => .bad) = _
  rw [e1, e2]
  dsimp only
  rw [if_pos ⟨by unfold okV; exact okVs_of o, rfl, Nat.le_trans (Nat.min_le_right _ _) (by decide)⟩, e3]
theorem ix_last {n : Nat} {xs : List Val} {x : Val} {h : HH} (e : h[n]? = some (.lst (xs ++ [x]))) : bIx (.ref n) (.int (-1)) h = .ok x h := by
  have : items (.ref n) h = some (xs ++ [x]) := by unfold items; dsimp only; rw [e]
  show (match items (.ref n) h with | some xs => (match L2.atI xs (-1) with | some w => Out.ok w h | none => .bad) | none => .bad) = _
  rw [this]
  dsimp only
  have : L2.atI (xs ++ [x]) (-1) = some x := by
    have e2 : ixN (xs ++ [x]).length (-1) = some xs.length := by
      unfold ixN
      simp
      first
        | omega
        | (split <;> omega)
    unfold L2.atI
    rw [e2]
    simp
  rw [this]
theorem gSt_l {g : List Val → En → HH → SO} {x : Val} {ys : List Val} {ro : En} {h : HH} : gSt g (.lst (x :: ys)) ro h = g [x, .lst ys] ro h := rfl
theorem turns_step {g : GM} {body : SS} {x : Itm} {k i : Nat} {ro ro1 ro2 : En} {h h1 h2 : HH} {w : Val} (e0 : nxt x i h = some (some w)) (e1 : g w ro h = .go .nx ro1 h1) (e2 : body ro1 h1 = .go .nx ro2 h2) :
    turns g body x (k + 1) i ro h = turns g body x k (i + 1) ro2 h2 := by
  conv => lhs; unfold turns
  rw [e0]
  simp only [e1, e2]
theorem lc_relI {x : Itm} {g : GM} {m : SE} {ro : En} {h : HH} {ys : List Val} (hx : ∀ i, nxt x i h = some ys[i]?) : ∀ (zs : List (Val × Val)) (k i : Nat) (acc : List Val), ys.drop i = zs.map (·.1) → k = zs.length →
    (∀ z ∈ zs, ∃ ro1, g z.1 ro h = .go .nx ro1 h ∧ m ro1 h = .ok z.2 h) → lcTurns g tYesZ m ro x k i acc h = .ok (acc ++ zs.map (·.2)) h
  | [], k, i, acc, e, hk, _ => by
    have en : ys[i]? = none := List.getElem?_eq_none (by have := congrArg List.length e; rw [List.length_drop] at this; simp at this; omega)
    subst hk
    unfold lcTurns
    show (match nxt x i h with | some none => Out.ok acc h | _ => .bad) = _
    rw [hx, en]; simp
  | z :: zs, k, i, acc, e, hk, hf => by
    have es : ys[i]? = some z.1 := by
      have := congrArg (fun l => l[0]?) e
      simpa using this
    have ed : ys.drop (i + 1) = zs.map (·.1) := by
      have := congrArg List.tail e
      simpa using this
    have hk : k = zs.length + 1 := hk
    subst hk
    unfold lcTurns
    rw [hx, es]
    obtain ⟨ro1, e1, e2⟩ := hf z List.mem_cons_self
    have ih := fun acc => lc_relI hx zs zs.length (i + 1) acc ed rfl fun w hw => hf w (List.mem_cons_of_mem _ hw)
    simp only [e1, tYesZ_e, if_true, e2]
    rw [ih, List.map_cons, List.append_assoc]
    rfl
theorem sLc_ref {mi : SI} {g : GM} {m : SE} {own : List Nat} {ro : En} {h : HH} {n k : Nat} (zs : List (Val × Val)) (e0 : h[n]? = some (.lst (zs.map (·.1)))) (e : mi ro h = .ok (.dyn n, k) h) (hk : k = zs.length) (hf : ∀ z ∈ zs, ∃ ro1, g z.1 (wipeN ro own) h = .go .nx ro1 h ∧ m ro1 h = .ok z.2 h) :
    sLc mi g tYesZ m own ro h = .ok (.lst (zs.map (·.2))) h := by
  subst hk
  show obind (mi ro h) _ = _
  rw [e]
  show obind (lcTurns g tYesZ m (wipeN ro own) (.dyn n) zs.length 0 [] h) _ = _
  rw [lc_relI (ys := zs.map (·.1)) (fun i => by
    show (match h[n]? with | some (.lst xs) => some xs[i]? | _ => none) = _
    rw [e0]) zs zs.length 0 [] rfl rfl hf]
  simp only [List.nil_append, ob_ok, ret_e]
end Z
namespace K68
open PySem PySem.Spec PyProof.Rows L2 Z
/-! ### parts as they are read -/
structure Pre (p : Part) : Prop where
  nm : nameB p.nm = true
  ln : p.ns.length ≤ 3
  ns : ∀ y ∈ p.ns, nameB y = true
  l2 : p.rows.length ≤ 60
  rows : ∀ r ∈ p.rows, r.ok
def own (z : Part × Nat) : Val := .tup [.str z.1.nm, .tup (z.1.ns.map Val.str), .ref z.2]
def ownD (z : Part × Nat) : Val := .tup [.str z.1.nm, .tup (z.1.ns.map Val.str), .lst (z.1.rows.map Row.val)]
structure Inv (p : Nat) (L : List (Part × Nat)) (h : HH) : Prop where
  pt : h[p]? = some (.lst (L.map own))
  rows : ∀ z ∈ L, h[z.2]? = some (.lst (z.1.rows.map Row.val)) ∧ z.2 ≠ p
  ok : ∀ z ∈ L, Pre z.1
  nd : (L.map (·.2)).Nodup
theorem lits_str : (ALONE ++ (NMD ++ (GOES ++ PP))).all PyData.strOk = true := by decide +kernel
theorem lit_str {x : Str} (h : x ∈ ALONE ++ (NMD ++ (GOES ++ PP))) : PyData.strOk x = true := List.all_eq_true.mp lits_str x h
theorem okV_two {a b : Val} (h1 : okV a = true) (h2 : okV b = true) : okV (.tup [a, b]) = true := by
  show (okV a && (okV b && true)) = true
  rw [h1, h2]; rfl
theorem okV_row {r : Row} (h : r.ok) : okV r.val = true := by
  cases r with
  | one x =>
    show (PyData.strOk x && true) = true
    rw [lit_str (List.mem_append_left _ h)]; rfl
  | put i => exact okV_two (lit_str (x := "put") (by decide +kernel)) rfl
  | nmd x y => exact okV_two (lit_str (List.mem_append_right _ (List.mem_append_left _ h.1))) (name_strOk h.2)
  | goes x k => exact okV_two (lit_str (List.mem_append_right _ (List.mem_append_right _ (List.mem_append_left _ h.1)))) rfl
theorem map_self {α β : Type} (f : α → β) (xs : List α) : (xs.map fun x => (f x, f x)).map (·.1) = xs.map f ∧ (xs.map fun x => (f x, f x)).map (·.2) = xs.map f := by
  rw [List.map_map, List.map_map]
  exact ⟨rfl, rfl⟩
theorem rda_row {h : HH} (r : Row) : RdA h 5 r.val r.val := by
  have two : ∀ a b : Val, RdA h 1 a a → RdA h 1 b b → RdA h 5 (.tup [a, b]) (.tup [a, b]) := fun a b h1 h2 => rda_tup (c := 1) (zs := [(a, a), (b, b)]) (by
    intro z hz
    simp only [List.mem_cons, List.not_mem_nil, or_false] at hz
    rcases hz with rfl | rfl
    · exact h1
    · exact h2)
  cases r with
  | one x => exact (rda_tup (c := 1) (zs := [(.str x, .str x)]) (by
      intro z hz
      rw [List.mem_singleton.mp hz]
      exact rda_str)).mono (by simp)
  | put i => exact two _ _ rda_str rda_int
  | nmd x y => exact two _ _ rda_str rda_str
  | goes x k => exact two _ _ rda_str rda_int
theorem rda_rows {h : HH} {q : Nat} {rs : List Row} (e : h[q]? = some (.lst (rs.map Row.val))) (l : rs.length ≤ 60) : RdA h 67 (.ref q) (.lst (rs.map Row.val)) := by
  obtain ⟨m1, m2⟩ := map_self Row.val rs
  have := rda_ref (h := h) (c := 5) (i := q) (zs := rs.map fun r => (r.val, r.val)) (by rw [m1]; exact e) (by
    intro z hz
    obtain ⟨r, _, rfl⟩ := List.mem_map.mp hz
    exact rda_row r)
  rw [m2] at this
  exact this.mono (by simp; omega)
theorem rda_strs {h : HH} (xs : List Str) : (∀ z ∈ xs.map fun x => (Val.str x, Val.str x), RdA h 1 z.1 z.2) := by
  intro z hz
  obtain ⟨r, _, rfl⟩ := List.mem_map.mp hz
  exact rda_str
theorem rda_own {h : HH} {z : Part × Nat} (e : h[z.2]? = some (.lst (z.1.rows.map Row.val))) (P : Pre z.1) : RdA h 100 (own z) (ownD z) := by
  obtain ⟨m1, m2⟩ := map_self Val.str z.1.ns
  have r2 := rda_tup (rda_strs (h := h) z.1.ns)
  rw [m1, m2] at r2
  have r3 := rda_rows e P.l2
  have l := P.ln
  exact (rda_tup (c := 67) (zs := [(.str z.1.nm, .str z.1.nm), (.tup (z.1.ns.map Val.str), .tup (z.1.ns.map Val.str)), (.ref z.2, .lst (z.1.rows.map Row.val))]) (by
    intro y hy
    simp only [List.mem_cons, List.not_mem_nil, or_false] at hy
    rcases hy with rfl | rfl | rfl
    · exact rda_str.mono (by omega)
    · exact r2.mono (by simp; omega)
    · exact r3)).mono (by simp)
theorem ownD_ok {z : Part × Nat} (P : Pre z.1) : okV (ownD z) = true := by
  show (PyData.strOk z.1.nm && (okVs (z.1.ns.map Val.str) && (okVs (z.1.rows.map Row.val) && true))) = true
  rw [name_strOk P.nm, okVs_of, okVs_of]
  · rfl
  · intro w hw
    obtain ⟨r, hr, rfl⟩ := List.mem_map.mp hw
    exact okV_row (P.rows r hr)
  · intro w hw
    obtain ⟨y, hy, rfl⟩ := List.mem_map.mp hw
    exact name_strOk (P.ns y hy)
theorem eq_parts {neg : Bool} {p : Nat} {L : List (Part × Nat)} {h : HH} (I : Inv p L h) (l : L.length ≤ 8) : bEqD neg (.ref p) (.lst []) h = .ok (.bl (if neg then !L.isEmpty else L.isEmpty)) h := by
  have m1 : (L.map fun z => (own z, ownD z)).map (·.1) = L.map own := by rw [List.map_map]; rfl
  have m2 : (L.map fun z => (own z, ownD z)).map (·.2) = L.map ownD := by rw [List.map_map]; rfl
  have := rda_ref (h := h) (c := 100) (i := p) (zs := L.map fun z => (own z, ownD z)) (by rw [m1]; exact I.pt) (by
    intro z hz
    obtain ⟨y, hy, rfl⟩ := List.mem_map.mp hz
    exact rda_own (I.rows y hy).1 (I.ok y hy))
  rw [m2] at this
  rw [eqD_nil (neg := neg) this (by simp; omega) (by
    intro w hw
    obtain ⟨y, hy, rfl⟩ := List.mem_map.mp hw
    exact ownD_ok (I.ok y hy))]
  cases L <;> rfl
theorem eq_rows {neg : Bool} {q : Nat} {rs : List Row} {h : HH} (e : h[q]? = some (.lst (rs.map Row.val))) (l : rs.length ≤ 60) (hr : ∀ r ∈ rs, r.ok) : bEqD neg (.ref q) (.lst []) h = .ok (.bl (if neg then !rs.isEmpty else rs.isEmpty)) h := by
  rw [eqD_nil (neg := neg) (rda_rows e l) (by omega) (by
    intro w hw
    obtain ⟨y, hy, rfl⟩ := List.mem_map.mp hw
    exact okV_row (hr y hy))]
  cases rs <;> rfl
theorem last_part {p : Nat} {L : List (Part × Nat)} {z : Part × Nat} {h : HH} (I : Inv p (L ++ [z]) h) : bIx (.ref p) (.int (-1)) h = .ok (own z) h := by
  have := I.pt
  rw [List.map_append] at this
  exact ix_last this
theorem own_2 {z : Part × Nat} {h : HH} : bIx (own z) (.int 2) h = .ok (.ref z.2) h := ix_t2
/-! ### begins_part -/
theorem begin_ok {p : Nat} {L : List (Part × Nat)} {h : HH} {nm : Str} {ns : List Str} (I : Inv p L h) (lL : L.length ≤ 7) (hn : nameB nm = true) (hns : ∀ y ∈ ns, nameB y = true) (ln : ns.length ≤ 3) (hl : ∀ z ∈ L, 1 ≤ z.1.rows.length) :
    ∃ h', F_begins_part [.ref p, .lst ((nm :: ns).map Val.str)] h = .ok (.bl true) h' ∧ Inv p (L ++ [(⟨nm, ns, []⟩, h.length)]) h' := by
  have all : ∀ y ∈ nm :: ns, nameB y = true := by
    intro y hy
    rcases List.mem_cons.mp hy with rfl | hy
    · exact hn
    · exact hns y hy
  have fl : fLst [] h = .ok (.lst []) h := fLst_ok (by simp)
  have q1 : bEqD false (.lst ((nm :: ns).map Val.str)) (.lst []) h = .ok (.bl false) h := by
    obtain ⟨m1, m2⟩ := map_self Val.str (nm :: ns)
    have r2 := rda_lst (rda_strs (h := h) (nm :: ns))
    rw [m1, m2] at r2
    rw [eqD_nil (neg := false) r2 (by simp; omega) (by
      intro w hw
      obtain ⟨y, hy, rfl⟩ := List.mem_map.mp hw
      exact name_strOk (all y hy))]
    rfl
  have hc : sLc (iVal (sVar 1)) (gNm 4) tYesZ (sCall F_is_name 1 0 1 (fun ws _ => ws) (aCons (sVar 4) aNil) aNil) [4] [some (.ref p), some (.lst ((nm :: ns).map Val.str)), none, none, none] h = .ok (.lst (((nm :: ns).map Val.str).map fun w => .bl true)) h := by
    refine sLc_map (f := fun w => .bl true) (by simp) fun w hw => ?_
    obtain ⟨y, hy, rfl⟩ := List.mem_map.mp hw
    simp [wipeN, ev_isname (all y hy)]
  have al : fAll [.lst (((nm :: ns).map Val.str).map fun w => .bl true)] h = .ok (.bl true) h := by
    rw [fAll_map (fun _ => true)]
    simp
  have ng : uNeg (.int 1) h = .ok (.int (-1)) h := rfl
  have hC : cAnd (cBin (bEqD true) (sVar 0) (sArgs fLst aNil)) (cBin (bEqD false) (sBin bIx (sBin bIx (sVar 0) (sUn uNeg (sC (.int 1)))) (sC (.int 2))) (sArgs fLst aNil)) [some (.ref p), some (.lst ((nm :: ns).map Val.str)), none, none, none] h = .ok false h := by
    rcases List.eq_nil_or_concat L with rfl | ⟨L', z, rfl⟩
    · have := eq_parts (neg := true) I (by simp)
      simp -implicitDefEqProofs only [cAnd_e, cBin_e, sVar_0, sArgs_e, aNil_e, ob_ok, fl, this, List.isEmpty_nil, if_true, Bool.not_true, unB_bl, Bool.false_eq_true, if_false]
    · rw [List.concat_eq_append] at I hl lL
      have h1 := eq_parts (neg := true) I (by omega)
      have h2 := last_part I
      have zm : z ∈ L' ++ [z] := List.mem_append_right _ (List.mem_singleton.mpr rfl)
      have h3 := eq_rows (neg := false) (I.rows z zm).1 (I.ok z zm).l2 (I.ok z zm).rows
      have e1 : (L' ++ [z]).isEmpty = false := by cases L' <;> rfl
      have e2 : z.1.rows.isEmpty = false := by
        have := hl z zm
        cases c : z.1.rows with
        | nil => rw [c] at this; simp at this
        | cons _ _ => rfl
      simp -implicitDefEqProofs only [cAnd_e, cBin_e, sVar_0, sArgs_e, aNil_e, ob_ok, fl, h1, e1, if_true, Bool.not_false, unB_bl, sBin_e, sUn_e, sC_e, ng, h2, own_2, h3, e2, Bool.false_eq_true, if_false]
  have nw : fNew [] h = .ok (.ref h.length) (h ++ [.lst []]) := fNew_ok (by simp)
  have pl : p < h.length := (List.getElem?_eq_some_iff.mp I.pt).1
  have g1 : (h ++ [.lst []])[p]? = some (.lst (L.map own)) := by rw [List.getElem?_append_left pl, I.pt]
  have tp : fTpl [.lst (ns.map Val.str)] h = .ok (.tup (ns.map Val.str)) h := fTpl_l
  have ft : fTup [.str nm, .tup (ns.map Val.str), .ref h.length] (h ++ [.lst []]) = .ok (own (⟨nm, ns, []⟩, h.length)) (h ++ [.lst []]) := fTup_ok (by simp)
  have ap := app_l (y := own (⟨nm, ns, []⟩, h.length)) g1 (by simp; omega)
  have m0 := mtL_r (f := mApp) (ra := aCons (sArgs fTup (aCons (sVar 2) (aCons (sArgs fTpl (aCons (sVar 3) aNil)) (aCons (sArgs fNew aNil) aNil)))) aNil) (ro := [some (.ref p), some (.lst ((nm :: ns).map Val.str)), some (.str nm), some (.lst (ns.map Val.str)), none]) I.pt
  have gs : gSt (gsCons (gNm 2) (gsCons (gNm 3) gsNil)) (.lst ((nm :: ns).map Val.str)) [some (.ref p), some (.lst ((nm :: ns).map Val.str)), none, none, none] h = .go .nx [some (.ref p), some (.lst ((nm :: ns).map Val.str)), some (.str nm), some (.lst (ns.map Val.str)), none] h := rfl
  refine ⟨(h ++ [Ob.lst []]).set p (.lst (L.map own ++ [own (⟨nm, ns, []⟩, h.length)])), ?_, ?_⟩
  · rw [e_begins_part]
    unfold m_begins_part
    simp -implicitDefEqProofs only [nSeq_e, nIf_e, cOr_e, hC, cBin_e, sVar_1, sArgs_e, aNil_e, ob_ok, fl, q1, unB_bl, Bool.false_eq_true, if_false, cNot_e, cV_e, aCons_e, hc, al, tr_bl, Bool.not_true, sb_ok, nNext_e, sq_nx, nAsg_e, gs, asg_nx, nExpr_e, sMtL_e, sVar_0, m0, sVar_s, tp, nw, ft, ap, nRet_e, sC_e, sq_ret, outOf_ret]
  · refine ⟨?_, ?_, ?_, ?_⟩
    · rw [set_get g1, List.map_append]; rfl
    · intro z hz
      rcases List.mem_append.mp hz with hz | hz
      · obtain ⟨a, b⟩ := I.rows z hz
        have zl : z.2 < h.length := (List.getElem?_eq_some_iff.mp a).1
        exact ⟨by rw [List.getElem?_set_ne (Ne.symm b), List.getElem?_append_left zl, a], b⟩
      · rw [List.mem_singleton.mp hz]
        have b : h.length ≠ p := by omega
        exact ⟨by rw [List.getElem?_set_ne (Ne.symm b), List.getElem?_concat_length]; rfl, b⟩
    · intro z hz
      rcases List.mem_append.mp hz with hz | hz
      · exact I.ok z hz
      · rw [List.mem_singleton.mp hz]
        exact ⟨hn, ln, hns, by simp, fun _ h => nomatch h⟩
    · rw [List.map_append]
      refine List.nodup_append.mpr ⟨I.nd, by simp, ?_⟩
      intro a ha b hb
      obtain ⟨z, hz, rfl⟩ := List.mem_map.mp ha
      have zl : z.2 < h.length := (List.getElem?_eq_some_iff.mp (I.rows z hz).1).1
      have : b = h.length := by simpa using hb
      omega
end K68
set_option Elab.async false
set_option maxRecDepth 100000
set_option linter.unusedVariables false
set_option linter.unusedSimpArgs false
namespace K68
open PySem PySem.Spec PyProof.Rows L2 Z
/-! ### by sixteens -/
def hd16 (d : Nat) : Nat := if d < 10 then 48 + d else 87 + d
def hexL (n : Nat) : List Nat := if n < 16 then [hd16 n] else hexL (n / 16) ++ [hd16 (n % 16)]
termination_by n
decreasing_by omega
theorem hexL_lt {n : Nat} (h : n < 16) : hexL n = [hd16 n] := by
  unfold hexL
  rw [if_pos h]
theorem hexL_step {n : Nat} (h : 16 ≤ n) : hexL n = hexL (n / 16) ++ [hd16 (n % 16)] := by
  conv => lhs; unfold hexL
  rw [if_neg (by omega)]
theorem hd_ok {d : Nat} (h : d < 16) : hexC (hd16 d) = true ∧ Hx.hv (hd16 d) = d ∧ hd16 d < 103 ∧ 48 ≤ hd16 d ∧ (hd16 d = 48 → d = 0) := by
  have : ∀ d : Fin 16, hexC (hd16 d.val) = true ∧ Hx.hv (hd16 d.val) = d.val ∧ hd16 d.val < 103 ∧ 48 ≤ hd16 d.val ∧ (hd16 d.val = 48 → d.val = 0) := by decide
  exact this ⟨d, h⟩
theorem hexL_hex : ∀ (n : Nat), ∀ c ∈ hexL n, hexC c = true := by
  intro n
  induction n using Nat.strongRecOn with
  | ind n ih =>
    intro c hc
    by_cases l : n < 16
    · rw [hexL_lt l] at hc
      rw [List.mem_singleton.mp hc]
      exact (hd_ok l).1
    · rw [hexL_step (by omega)] at hc
      rcases List.mem_append.mp hc with hc | hc
      · exact ih (n / 16) (by omega) c hc
      · rw [List.mem_singleton.mp hc]
        exact (hd_ok (Nat.mod_lt _ (by decide))).1
theorem hexC_rng {c : Nat} (h : hexC c = true) : 48 ≤ c ∧ c ≤ 102 ∧ (c ≤ 57 ∨ 97 ≤ c) := by
  unfold hexC at h
  rw [Bool.or_eq_true, Bool.and_eq_true, Bool.and_eq_true, decide_eq_true_eq, decide_eq_true_eq, decide_eq_true_eq, decide_eq_true_eq] at h
  omega
theorem hexL_num : ∀ n : Nat, Hx.hexNum (hexL n) = n := by
  intro n
  induction n using Nat.strongRecOn with
  | ind n ih =>
    by_cases l : n < 16
    · rw [hexL_lt l]
      show 0 * 16 + Hx.hv (hd16 n) = n
      rw [(hd_ok l).2.1]
      omega
    · rw [hexL_step (by omega)]
      unfold Hx.hexNum
      rw [List.foldl_append]
      show (Hx.hexNum (hexL (n / 16))) * 16 + Hx.hv (hd16 (n % 16)) = n
      rw [ih (n / 16) (by omega), (hd_ok (Nat.mod_lt _ (by decide))).2.1]
      omega
theorem hexL_len : ∀ (k n : Nat), 0 < k → n < 16 ^ k → (hexL n).length ≤ k := by
  intro k
  induction k with
  | zero => intro n h; omega
  | succ k ih =>
    intro n _ h
    by_cases l : n < 16
    · rw [hexL_lt l]
      simp
    · rw [hexL_step (by omega), List.length_append, List.length_singleton]
      have : k ≠ 0 := by
        intro z
        subst z
        rw [Nat.zero_add, Nat.pow_one] at h
        exact l h
      have h2 : n / 16 < 16 ^ k := by
        rw [Nat.div_lt_iff_lt_mul (by decide), ← Nat.pow_succ]
        exact h
      have := ih (n / 16) (by omega) h2
      omega
theorem hexL_12 {n : Nat} (l : n ≤ 10 ^ 12) : (hexL n).length ≤ 10 := hexL_len 10 n (by decide) (Nat.lt_of_le_of_lt l (by decide))
theorem hexL_shape : ∀ n : Nat, ∃ c r, hexL n = c :: r ∧ 48 ≤ c ∧ c ≤ 102 ∧ (c = 48 → r = []) := by
  have pos : ∀ n : Nat, 1 ≤ n → ∃ c r, hexL n = c :: r ∧ c ≠ 48 := by
    intro n
    induction n using Nat.strongRecOn with
    | ind n ih =>
      intro h
      by_cases l : n < 16
      · exact ⟨hd16 n, [], hexL_lt l, fun q => by have := (hd_ok l).2.2.2.2 q; omega⟩
      · obtain ⟨c, r, e, hc⟩ := ih (n / 16) (by omega) (by omega)
        refine ⟨c, r ++ [hd16 (n % 16)], ?_, hc⟩
        rw [hexL_step (by omega), e]
        rfl
  intro n
  by_cases h : n = 0
  · subst h
    exact ⟨48, [], hexL_lt (by omega), by omega, by omega, fun _ => rfl⟩
  · obtain ⟨c, r, e, hc⟩ := pos n (by omega)
    have := hexC_rng (hexL_hex n c (by rw [e]; exact List.mem_cons_self))
    exact ⟨c, r, e, this.1, this.2.1, fun q => absurd q hc⟩
def hexS (n : Nat) : Str := ⟨(hexL n).toArray⟩
theorem hexS_tl (n : Nat) : TL.tl (hexS n) = hexL n := rfl
def hexT (i : Int) : Str := if 0 ≤ i then "x" ++ hexS i.toNat else "-" ++ ("x" ++ hexS (-i).toNat)
theorem x_tl' : TL.tl ("x" : Str) = [120] := by decide +kernel
theorem hexT_pos (n : Nat) : TL.tl (hexT (n : Nat)) = 120 :: hexL n := by
  unfold hexT
  rw [if_pos (by omega), Int.toNat_natCast, TL.tl_append, x_tl', hexS_tl]
  rfl
theorem hexT_neg (n : Nat) : TL.tl (hexT (-((n + 1 : Nat) : Int))) = 45 :: 120 :: hexL (n + 1) := by
  unfold hexT
  rw [if_neg (by omega), TL.tl_append, TL.tl_append, x_tl', minus_tl, hexS_tl]
  rw [show (-(-((n + 1 : Nat) : Int))).toNat = n + 1 by omega]
  rfl
/-! ### _law_sixteen -/
def figs16 : Str := "0123456789abcdef"
theorem figs16_list : figs16.cps.toList = (List.range 16).map hd16 := by decide +kernel
theorem dig16_at {i : Nat} (l : i < 16) {h : HH} : bIx (.str figs16) (.int (i : Nat)) h = .ok (.str ⟨#[hd16 i]⟩) h := by
  show (if figs16.length ≤ sizeLine then (match L2.atI figs16.cps.toList (i : Nat) with
    | some c => Out.ok (Val.str ⟨#[c]⟩) h
    | none => .bad) else .bad) = _
  rw [if_pos (by decide +kernel), figs16_list]
  have e : ((List.range 16).map hd16)[i]? = some (hd16 i) := by
    rw [List.getElem?_map, List.getElem?_range l]; rfl
  have : L2.atI ((List.range 16).map hd16) (i : Nat) = some (hd16 i) := atI_nat e
  rw [this]
theorem six_loop : ∀ (f n : Nat) (t : Str) (h : HH), n < 16 ^ (f + 1) → t.length + f ≤ 1000 → ∃ (m : Nat) (u : Str), wturns (cBin (bOrd fun i j => decide (j < i)) (sVar 0) (sC (.int 15))) (nSeq (nSet 0 (sBin bDiv (sVar 0) (sC (.int 16)))) (nSeq (nSet 1 (sBin bAdd (sBin bIx (sC (.str figs16)) (sBin bMod (sVar 0) (sC (.int 16)))) (sVar 1))) nNext)) (f + 1)
    [some (.int (n : Nat)), some (.str t)] h = .go .nx [some (.int (m : Nat)), some (.str u)] h ∧ TL.tl u = (if n < 16 then TL.tl t else hexL (n / 16) ++ TL.tl t) := by
  intro f
  induction f with
  | zero =>
    intro n t h hn _
    refine ⟨n, t, ?_, by rw [if_pos (by simpa using hn)]⟩
    unfold wturns
    have : ¬ (15 : Int) < (n : Nat) := by
      have : n < 16 := by simpa using hn
      omega
    simp [this]
  | succ f ih =>
    intro n t h hn hl
    by_cases c : n < 16
    · refine ⟨n, t, ?_, by rw [if_pos c]⟩
      unfold wturns
      have : ¬ (15 : Int) < (n : Nat) := by omega
      simp [this]
    · have c2 : (15 : Int) < (n : Nat) := by omega
      have hp : (16 : Nat) ^ (f + 1 + 1) = 16 ^ (f + 1) * 16 := Nat.pow_succ ..
      have h2 : n / 16 < 16 ^ (f + 1) := by rw [Nat.div_lt_iff_lt_mul (by decide)]; omega
      have hd : n / 16 % 16 < 16 := Nat.mod_lt _ (by decide)
      have l1 : (⟨#[hd16 (n / 16 % 16)]⟩ : Str).length = 1 := rfl
      have lz : ((⟨#[hd16 (n / 16 % 16)]⟩ : Str) ++ t).length = 1 + t.length := by
        rw [len_tl, TL.tl_append, List.length_append, ← len_tl, ← len_tl]; rfl
      obtain ⟨m, u, e, eu⟩ := ih (n / 16) ((⟨#[hd16 (n / 16 % 16)]⟩ : Str) ++ t) h h2 (by omega)
      refine ⟨m, u, ?_, ?_⟩
      · have dv : bDiv (.int (n : Nat)) (.int 16) h = .ok (.int ((n / 16 : Nat) : Int)) h := by rw [div_ii (by decide) (by decide)]; rfl
        have md : bMod (.int ((n / 16 : Nat) : Int)) (.int 16) h = .ok (.int ((n / 16 % 16 : Nat) : Int)) h := by rw [mod_ii (by decide)]; rfl
        have dg := dig16_at hd (h := h)
        have ad := add_ss (x := ⟨#[hd16 (n / 16 % 16)]⟩) (y := t) (h := h) (by omega)
        unfold wturns
        simp -implicitDefEqProofs only [cBin_e, sVar_0, ob_ok, sC_e, bOrd_e, unB_bl, decide_eq_true c2, if_true, nSeq_e, nSet_e, sBin_e, dv, sb_ok, List.set_cons_zero, sq_nx, md, dg, sVar_1, ad, List.set_cons_succ, nNext_e, e]
      · rw [eu, if_neg c, TL.tl_append]
        show (if n / 16 < 16 then [hd16 (n / 16 % 16)] ++ TL.tl t else hexL (n / 16 / 16) ++ ([hd16 (n / 16 % 16)] ++ TL.tl t)) = _
        by_cases c3 : n / 16 < 16
        · rw [if_pos c3, hexL_lt c3, Nat.mod_eq_of_lt c3]
        · rw [if_neg c3, hexL_step (n := n / 16) (by omega), List.append_assoc]
theorem ev_six_nat {k n : Nat} {h : HH} (hn : n ≤ 10 ^ 12) : F__law_sixteen (k + 1) [.int (n : Nat)] h = .ok (.str (hexT (n : Nat))) h := by
  have hd : n % 16 < 16 := Nat.mod_lt _ (by decide)
  obtain ⟨m, u, e, eu⟩ := six_loop 19 n ⟨#[hd16 (n % 16)]⟩ h (Nat.lt_of_le_of_lt hn (by decide)) (by show 1 + 19 ≤ 1000; decide)
  have lu : TL.tl u = hexL n := by
    rw [eu]
    show (if n < 16 then [hd16 (n % 16)] else hexL (n / 16) ++ [hd16 (n % 16)]) = _
    by_cases c : n < 16
    · rw [if_pos c, hexL_lt c, Nat.mod_eq_of_lt c]
    · rw [if_neg c, hexL_step (n := n) (by omega)]
  have en : ("x" : Str) ++ u = hexT (n : Nat) := by
    refine TL.ext_tl ?_
    rw [hexT_pos, TL.tl_append, x_tl', lu]
    rfl
  have l10 := hexL_12 hn
  have ad := add_ss (x := "x") (y := u) (h := h) (by
    have : (("x" : Str)).length = 1 := by decide +kernel
    rw [len_tl u, lu]
    omega)
  rw [en] at ad
  rw [e__law_sixteen]
  have md : bMod (.int (n : Nat)) (.int 16) h = .ok (.int ((n % 16 : Nat) : Int)) h := by rw [mod_ii (by decide)]; rfl
  have dg := dig16_at hd (h := h)
  have c0 : ¬ ((n : Nat) : Int) < 0 := by omega
  unfold figs16 at dg e
  simp -implicitDefEqProofs only [m__law_sixteen, nSeq_e, nIf_e, cBin_e, sVar_0, ob_ok, sC_e, bOrd_e, unB_bl, decide_eq_false c0, sb_ok, Bool.false_eq_true, if_false, nNext_e, sq_nx, nSet_e, sBin_e, md, dg, List.set_cons_zero, List.set_cons_succ, nWhile, e, nRet_e, sVar_1, ad, sq_ret, outOf_ret]
theorem ev_six {k : Nat} {i : Int} {h : HH} (l : i.natAbs ≤ 10 ^ 12) : F__law_sixteen (k + 2) [.int i] h = .ok (.str (hexT i)) h := by
  by_cases c : 0 ≤ i
  · obtain ⟨n, rfl⟩ := Int.eq_ofNat_of_zero_le c
    exact ev_six_nat (k := k + 1) (show n ≤ 10 ^ 12 from l)
  · obtain ⟨n, rfl⟩ : ∃ n : Nat, i = -((n + 1 : Nat) : Int) := ⟨(-i - 1).toNat, by omega⟩
    have l2 : n + 1 ≤ 10 ^ 12 := by omega
    have e := ev_six_nat (k := k) (n := n + 1) (h := h) l2
    have c0 : -((n + 1 : Nat) : Int) < 0 := by omega
    have es : ∀ j : Nat, (0 : Int) - -((j : Nat) : Int) = (j : Nat) := fun j => by omega
    have ln : (hexT ((n + 1 : Nat) : Int)).length ≤ 11 := by
      have := hexL_12 l2
      rw [len_tl, hexT_pos, List.length_cons]
      omega
    have ad := add_ss (x := "-") (y := hexT ((n + 1 : Nat) : Int)) (h := h) (by
      have : (("-" : Str)).length = 1 := by decide +kernel
      omega)
    have en : ("-" : Str) ++ hexT ((n + 1 : Nat) : Int) = hexT (-((n + 1 : Nat) : Int)) := by
      refine TL.ext_tl ?_
      rw [hexT_neg, TL.tl_append, hexT_pos, minus_tl]
      rfl
    rw [e__law_sixteen]
    simp -implicitDefEqProofs only [m__law_sixteen, nSeq_e, nIf_e, cBin_e, sVar_0, ob_ok, sC_e, bOrd_e, unB_bl, decide_eq_true c0, sb_ok, if_true, nRet_e, sBin_e, sCall_e, aCons_e, aNil_e, sub_ii, es, List.length_cons, List.length_nil, and_self, e, ad, en, sq_ret, outOf_ret]
/-! ### read by sixteens -/
def fx1 (w : Val) : Bool := match w with
  | .str c => !(Builtin.Str.occurrences figs16 c 0 figs16.length 1).isEmpty
  | _ => false
theorem fx_ok {c : Nat} (h : hexC c = true) : fx1 (.str ⟨#[c]⟩) = true := by
  show (!(Builtin.Str.occurrences figs16 ⟨#[c]⟩ 0 figs16.length 1).isEmpty) = true
  rw [PySem.StrLaws.found_one, decide_eq_true_eq, figs16_list, List.mem_map]
  have r := hexC_rng h
  by_cases q : c ≤ 57
  · refine ⟨c - 48, List.mem_range.mpr (by omega), ?_⟩
    unfold hd16
    rw [if_pos (by omega)]
    omega
  · refine ⟨c - 87, List.mem_range.mpr (by omega), ?_⟩
    unfold hd16
    rw [if_neg (by omega)]
    omega
theorem ev_numX {n : Nat} {h : HH} (l : n ≤ 10 ^ 12) : F_number_in [.str (hexS n), c_SIXTEEN] h = .ok (.int (n : Nat)) h := by
  have et : TL.tl (hexS n) = hexL n := hexS_tl n
  have l10 := hexL_12 l
  have hn := hexL_num n
  generalize hexS n = x at et
  have lx : x.length = (hexL n).length := by rw [len_tl, et]
  obtain ⟨c, r, en, c1, c2, c3⟩ := hexL_shape n
  have l1 : 1 ≤ x.length := by rw [lx, en]; simp
  have hz := sizeLine_eq
  have ls := Z.len_str (x := x) (h := h) (by omega)
  have hc : sLc (iVal (sVar 0)) (gNm 2) tYesZ (sBin (bIn false) (sVar 2) (sVar 1)) [2] [some (.str x), some (.str figs16), none] h = .ok (.lst ((Z.signs x).map fun w => .bl (fx1 w))) h := by
    refine sLc_map (f := fun w => .bl (fx1 w)) ?_ fun w hw => ?_
    · simp [itmV_str (x := x) (h := h) (by omega)]
    · obtain ⟨c, _, rfl⟩ := List.mem_map.mp hw
      rfl
  have al : fAll [.lst ((Z.signs x).map fun w => .bl (fx1 w))] h = .ok (.bl true) h := by
    rw [fAll_map]
    have : (Z.signs x).all fx1 = true := by
      rw [List.all_eq_true]
      intro w hw
      obtain ⟨d, hd, rfl⟩ := List.mem_map.mp hw
      exact fx_ok (hexL_hex n d (by rw [← et]; exact hd))
    rw [this]
  have i0 := ix_s0 (h := h) (et.trans en) (by omega)
  have lf : fLen [.str figs16] h = .ok (.int 16) h := by
    rw [Z.len_str (by rw [show figs16.length = 16 by decide +kernel]; omega), show figs16.length = 16 by decide +kernel]
    rfl
  have ft : fIntX [.str x, .int 16] h = .ok (.int (n : Nat)) h := by
    show (if x.cps.toList.all hexC = true ∧ x.cps.toList ≠ [] ∧ x.cps.toList.length ≤ 640 then Out.ok (Val.int ((Hx.hexNum x.cps.toList : Nat) : Int)) h else .bad) = _
    have e' : x.cps.toList = hexL n := et
    rw [e', if_pos ⟨List.all_eq_true.mpr (hexL_hex n), by rw [en]; simp, by omega⟩, hn]
  have k1 : decide ((1 : Int) ≤ (x.length : Nat)) = true := decide_eq_true (by omega)
  have k2 : decide (((x.length : Nat) : Int) ≤ 40) = true := decide_eq_true (by omega)
  have k3 : (decide ((⟨#[c]⟩ : Str) = "0") && decide ((1 : Int) < (x.length : Nat))) = false := by
    by_cases q : c = 48
    · have : x.length = 1 := by rw [lx, en, c3 q]; rfl
      rw [Bool.and_eq_false_iff]
      exact .inr (decide_eq_false (by omega))
    · rw [Bool.and_eq_false_iff]
      refine .inl (decide_eq_false fun e => q ?_)
      have e2 := congrArg TL.tl e
      have e3 : TL.tl ("0" : Str) = [48] := by decide +kernel
      rw [e3] at e2
      exact (List.cons.inj e2).1
  have cf : c_SIXTEEN = .str figs16 := rfl
  rw [e_number_in, cf]
  simp -implicitDefEqProofs only [m_number_in, nSeq_e, nIf_e, cOr_e, cNot_e, asT_e, sChn_e, sC_e, ob_ok, kLink_e, sArgs_e, aCons_e, sVar_0, aNil_e, ls, bOrd_e, kIf_bl, k1, if_true, kLast_e, c_MOST_FIGURES, k2, unB_bl, Bool.not_true, Bool.false_eq_true, if_false, cV_e, hc, al, tr_bl, sb_ok, nNext_e, sq_nx, cAnd_e, cBin_e, sBin_e, i0, eq_ss, nRet_e, sVar_1, lf, ft, sq_ret, outOf_ret]
  by_cases q : (⟨#[c]⟩ : Str) = "0"
  · have k4 : decide ((1 : Int) < (x.length : Nat)) = false := by
      rw [decide_eq_true q, Bool.true_and] at k3
      exact k3
    simp -implicitDefEqProofs only [decide_eq_true q, if_true, k4, unB_bl, ob_ok, sb_ok, Bool.false_eq_true, if_false, nNext_e, sq_nx, nSeq_e, nRet_e, sArgs_e, aCons_e, sVar_0, sVar_1, aNil_e, lf, ft, sq_ret, outOf_ret]
  · simp -implicitDefEqProofs only [decide_eq_false q, Bool.false_eq_true, if_false, unB_bl, ob_ok, sb_ok, nNext_e, sq_nx, nSeq_e, nRet_e, sArgs_e, aCons_e, sVar_0, sVar_1, aNil_e, lf, ft, sq_ret, outOf_ret]
theorem hexT_len {i : Int} (l : i.natAbs ≤ 10 ^ 12) : (hexT i).length ≤ 14 := by
  by_cases c : 0 ≤ i
  · obtain ⟨n, rfl⟩ := Int.eq_ofNat_of_zero_le c
    have := hexL_12 (n := n) l
    rw [len_tl, hexT_pos, List.length_cons]
    omega
  · obtain ⟨n, rfl⟩ : ∃ n : Nat, i = -((n + 1 : Nat) : Int) := ⟨(-i - 1).toNat, by omega⟩
    have := hexL_12 (n := n + 1) (by omega)
    rw [len_tl, hexT_neg, List.length_cons, List.length_cons]
    omega
theorem ev_rworthX {i : Int} {h : HH} (l : i.natAbs ≤ 10 ^ 12) : F_read_worth [.str (hexT i)] h = .ok (.int i) h := by
  rw [e_read_worth]
  by_cases c : 0 ≤ i
  · obtain ⟨n, rfl⟩ := Int.eq_ofNat_of_zero_le c
    have e := hexT_pos n
    have s1 := mstarts_one e minus_tl (h := h)
    have s2 := mstarts_one e x_tl (h := h)
    rw [decide_eq_false (by omega)] at s1
    rw [decide_eq_true rfl] at s2
    have nm := ev_numX (n := n) (h := h) (by omega)
    have lw := hexT_len l
    have sl : bSl (.str (hexT (n : Nat))) (some 1) none h = .ok (.str (hexS n)) h := by
      show (if (hexT (n : Nat)).length ≤ sizeLine then Out.ok (Val.str (cutS (hexT (n : Nat)) (some 1) none)) h else .bad) = _
      rw [cutS1 (y := hexS n) e, if_pos (by have := sizeLine_eq; omega)]
    have i1 : bIs false (.int (n : Nat)) .non h = .ok (.bl false) h := by rw [is_non]
    simp -implicitDefEqProofs only [m_read_worth, nSeq_e, nSet_e, sIf_e, cV_e, sSm_s, sVar_0, ob_ok, bind_e, sC_e, s1, tr_bl, Bool.false_eq_true, if_false, sb_ok, sq_nx, List.set_cons_zero, List.set_cons_succ, sVar_1, s2, if_true, sSl_e, oSome_e, unI_i, oNone_e, sl, sCall_e, aCons_e, aNil_e, List.length_cons, List.length_nil, and_self, nm, nIf_e, cOr_e, cBin_e, sVar_s, i1, unB_bl, eq_ss, decide_true, nRet_e, sq_ret, outOf_ret]
  · obtain ⟨n, rfl⟩ : ∃ n : Nat, i = -((n + 1 : Nat) : Int) := ⟨(-i - 1).toNat, by omega⟩
    have e := hexT_neg n
    have e2 := hexT_pos (n + 1)
    have s1 := mstarts_one e minus_tl (h := h)
    rw [decide_eq_true rfl] at s1
    have s2 := mstarts_one e2 x_tl (h := h)
    rw [decide_eq_true rfl] at s2
    have nm := ev_numX (n := n + 1) (h := h) (by omega)
    have lw := hexT_len l
    have lw2 := hexT_len (i := ((n + 1 : Nat) : Int)) (by omega)
    have sl : bSl (.str (hexT (-((n + 1 : Nat) : Int)))) (some 1) none h = .ok (.str (hexT ((n + 1 : Nat) : Int))) h := by
      show (if (hexT (-((n + 1 : Nat) : Int))).length ≤ sizeLine then Out.ok (Val.str (cutS (hexT (-((n + 1 : Nat) : Int))) (some 1) none)) h else .bad) = _
      rw [cutS1 (e.trans (by rw [e2])), if_pos (by have := sizeLine_eq; omega)]
    have sl2 : bSl (.str (hexT ((n + 1 : Nat) : Int))) (some 1) none h = .ok (.str (hexS (n + 1))) h := by
      show (if (hexT ((n + 1 : Nat) : Int)).length ≤ sizeLine then Out.ok (Val.str (cutS (hexT ((n + 1 : Nat) : Int)) (some 1) none)) h else .bad) = _
      rw [cutS1 (y := hexS (n + 1)) e2, if_pos (by have := sizeLine_eq; omega)]
    have ne : ¬ hexT ((n + 1 : Nat) : Int) = hexT (-((n + 1 : Nat) : Int)) := by
      intro q
      have := congrArg TL.tl q
      rw [e2, e] at this
      have := congrArg List.length this
      simp at this
    have i1 : bIs false (.int ((n + 1 : Nat) : Int)) .non h = .ok (.bl false) h := by rw [is_non]
    have gt : decide ((0 : Int) < ((n + 1 : Nat) : Int)) = true := decide_eq_true (by omega)
    simp -implicitDefEqProofs only [m_read_worth, nSeq_e, nSet_e, sIf_e, cV_e, sSm_s, sVar_0, ob_ok, bind_e, sC_e, s1, tr_bl, if_true, sSl_e, oSome_e, unI_i, oNone_e, sl, sb_ok, sq_nx, List.set_cons_zero, List.set_cons_succ, sVar_1, s2, sl2, Bool.false_eq_true, if_false, sCall_e, aCons_e, aNil_e, List.length_cons, List.length_nil, and_self, nm, nIf_e, cOr_e, cBin_e, sVar_s, i1, unB_bl, eq_ss, decide_eq_false ne, nNext_e, nRet_e, bOrd_e, gt, sUn_e, neg_i, sq_ret, outOf_ret]
end K68
set_option Elab.async false
set_option maxRecDepth 100000
set_option linter.unusedVariables false
set_option linter.unusedSimpArgs false
namespace K68
open PySem PySem.Spec PyProof.Rows L2 Z
/-! ### lines by tens or by sixteens -/
def Row.wt (r : Row) (b : Bool) : List Str := match r, b with
  | .put i, true => ["put", hexT i]
  | r, _ => r.ws
theorem wt_false (r : Row) : r.wt false = r.ws := by cases r <;> rfl
theorem wt_len (r : Row) (b : Bool) : 1 ≤ (r.wt b).length ∧ (r.wt b).length ≤ 2 := by
  cases b
  · rw [wt_false]; exact ws_len r
  · cases r <;> exact ⟨by simp [Row.wt, Row.ws], by simp [Row.wt, Row.ws]⟩
theorem hexT_tl (i : Int) : ∀ c ∈ TL.tl (hexT i), c = 45 ∨ c = 120 ∨ hexC c = true := by
  intro c hc
  by_cases q : 0 ≤ i
  · obtain ⟨n, rfl⟩ := Int.eq_ofNat_of_zero_le q
    rw [hexT_pos] at hc
    rcases List.mem_cons.mp hc with rfl | hc
    · exact .inr (.inl rfl)
    · exact .inr (.inr (hexL_hex n c hc))
  · obtain ⟨n, rfl⟩ : ∃ n : Nat, i = -((n + 1 : Nat) : Int) := ⟨(-i - 1).toNat, by omega⟩
    rw [hexT_neg] at hc
    rcases List.mem_cons.mp hc with rfl | hc
    · exact .inl rfl
    · rcases List.mem_cons.mp hc with rfl | hc
      · exact .inr (.inl rfl)
      · exact .inr (.inr (hexL_hex (n + 1) c hc))
theorem word_hex {i : Int} (l : i.natAbs ≤ 10 ^ 12) : Word (hexT i) := by
  have key : ∀ c ∈ TL.tl (hexT i), 45 ≤ c := by
    intro c hc
    rcases hexT_tl i c hc with rfl | rfl | h
    · omega
    · omega
    · have := hexC_rng h; omega
  exact ⟨hexT_len l, fun m => by have := key _ m; omega, fun m => by have := key _ m; omega⟩
theorem wt_words {r : Row} {b : Bool} (h : r.ok) : ∀ x ∈ r.wt b, Word x := by
  cases b
  · rw [wt_false]; exact row_words h
  · cases r with
    | put i =>
      intro x hx
      rcases List.mem_cons.mp hx with rfl | hx
      · exact lit (by decide +kernel)
      · rw [List.mem_singleton.mp hx]; exact word_hex h
    | one x => exact row_words h
    | nmd x y => exact row_words h
    | goes x k => exact row_words h
inductive LI where
  | head (p : Part)
  | row (j : Nat) (r : Row)
def LI.ws (b : Bool) : LI → List Str
  | .head p => headW p
  | .row j r => zf j :: r.wt b
def LI.txt (b : Bool) (x : LI) : Str := Txt.join " " (x.ws b)
def LI.ok : LI → Prop
  | .head p => p.ok
  | .row j r => j < 60 ∧ r.ok
def itemsR : Nat → List Row → List LI
  | _, [] => []
  | k, r :: rs => .row k r :: itemsR (k + 1) rs
def itemsP (p : Part) : List LI := .head p :: itemsR 0 p.rows
def itemsS (qs : List Part) : List LI := qs.flatMap itemsP
theorem itemsR_len : ∀ (rs : List Row) (k : Nat), (itemsR k rs).length = rs.length
  | [], _ => rfl
  | r :: rs, k => by
    show (itemsR (k + 1) rs).length + 1 = _
    rw [itemsR_len rs]; rfl
theorem itemsR_txt : ∀ (rs : List Row) (k : Nat), (itemsR k rs).map (LI.txt false) = rowsS k rs
  | [], _ => rfl
  | r :: rs, k => by
    show Txt.join " " (zf k :: r.wt false) :: (itemsR (k + 1) rs).map (LI.txt false) = _
    rw [itemsR_txt rs, wt_false]; rfl
theorem itemsS_txt (qs : List Part) : (itemsS qs).map (LI.txt false) = linesS qs := by
  unfold itemsS linesS
  rw [List.map_flatMap]
  congr
  funext p
  show headS p :: (itemsR 0 p.rows).map (LI.txt false) = _
  rw [itemsR_txt]; rfl
theorem itemsR_ok : ∀ {rs : List Row} {k : Nat}, k + rs.length ≤ 60 → (∀ r ∈ rs, r.ok) → ∀ x ∈ itemsR k rs, x.ok
  | [], _, _, _, x, hx => nomatch hx
  | r :: rs, k, hk, h, x, hx => by
    rw [List.length_cons] at hk
    rcases List.mem_cons.mp hx with rfl | hx
    · exact ⟨by omega, h r List.mem_cons_self⟩
    · exact itemsR_ok (k := k + 1) (by omega) (fun q hq => h q (List.mem_cons_of_mem _ hq)) x hx
theorem itemsS_ok {qs : List Part} (h : ∀ q ∈ qs, q.ok) : ∀ x ∈ itemsS qs, x.ok := by
  intro x hx
  obtain ⟨p, hp, hx⟩ := List.mem_flatMap.mp hx
  have hp := h p hp
  rcases List.mem_cons.mp hx with rfl | hx
  · exact hp
  · exact itemsR_ok (k := 0) (by have := hp.l2; omega) hp.rows x hx
theorem li_words {x : LI} {b : Bool} (h : x.ok) : ∀ y ∈ x.ws b, Word y := by
  cases x with
  | head p => exact head_words h
  | row j r =>
    intro y hy
    rcases List.mem_cons.mp hy with rfl | hy
    · exact zf_word h.1
    · exact wt_words h.2 y hy
theorem li_len {x : LI} {b : Bool} (h : x.ok) : (x.ws b).length ≤ 6 := by
  cases x with
  | head p =>
    have := h.ln
    show p.ns.length + 1 + 1 ≤ 6
    omega
  | row j r =>
    have := (wt_len r b).2
    show (r.wt b).length + 1 ≤ 6
    omega
theorem li_ne {x : LI} {b : Bool} : x.ws b ≠ [] := by cases x <;> simp [LI.ws, headW]
theorem li_line {x : LI} {b : Bool} (h : x.ok) : Line (x.txt b) := line_of (li_len h) (li_words h)
section
variable {C_READS C_read_name C_read_row_number C_read_worth : Addr}
theorem ev_rowofW {r : Row} {b : Bool} {h : HH} (n1 : C_read_name ≠ C_read_row_number) (n2 : C_read_name ≠ C_read_worth) (n3 : C_read_row_number ≠ C_read_worth) (q : r.ok) : F_row_of C_READS C_read_name C_read_row_number C_read_worth [.lst ((r.wt b).map Val.str)] h = .ok r.val h := by
  cases b
  · rw [wt_false]; exact ev_rowof n1 n2 n3 q
  · cases r with
    | put i =>
      have d1 : disp [(C_read_worth, F_read_worth), (C_read_name, F_read_name), (C_read_row_number, F_read_row_number)] C_read_worth = some F_read_worth := by
        unfold disp; rw [if_pos rfl]
      have ev := ev_rworthX (h := h) (show i.natAbs ≤ 10 ^ 12 from q)
      show F_row_of C_READS C_read_name C_read_row_number C_read_worth [.lst [.str "put", .str (hexT i)]] h = .ok (.tup [.str "put", .int i]) h
      generalize hexT i = y at ev ⊢
      exact row_two (x := "put") (y := y) (by decide +kernel) (by decide +kernel) (show _ = some C_read_worth by rfl) d1 ev rfl
    | one x => exact ev_rowof (r := .one x) n1 n2 n3 q
    | nmd x y => exact ev_rowof (r := .nmd x y) n1 n2 n3 q
    | goes x k => exact ev_rowof (r := .goes x k) n1 n2 n3 q
/-! ### stands -/
theorem head_stands {p : Nat} {L : List (Part × Nat)} {h : HH} {t : Part} (I : Inv p L h) (lL : L.length ≤ 7) (ht : t.ok) (hl : ∀ z ∈ L, 1 ≤ z.1.rows.length) :
    ∃ h' q, F_stands C_READS C_read_name C_read_row_number C_read_worth [.ref p, .lst ((headW t).map Val.str)] h = .ok (.bl true) h' ∧ Inv p (L ++ [(⟨t.nm, t.ns, []⟩, q)]) h' := by
  obtain ⟨h', e, I'⟩ := begin_ok I lL ht.nm ht.ns ht.ln hl
  refine ⟨h', h.length, ?_, I'⟩
  have gs : gSt (gsCons (gNm 2) (gsCons (gNm 3) gsNil)) (.lst ((headW t).map Val.str)) [some (.ref p), some (.lst ((headW t).map Val.str)), none, none, none] h = .go .nx [some (.ref p), some (.lst ((headW t).map Val.str)), some (.str "part"), some (.lst ((t.nm :: t.ns).map Val.str)), none] h := rfl
  rw [e_stands]
  simp -implicitDefEqProofs only [m_stands, nSeq_e, nAsg_e, sVar_1, sb_ok, gs, asg_nx, sq_nx, nIf_e, cBin_e, sVar_s, sVar_0, sC_e, ob_ok, eq_ss, decide_true, unB_bl, if_true, nRet_e, sCall_e, aCons_e, aNil_e, List.length_cons, List.length_nil, and_self, e, sq_ret, outOf_ret]
theorem zf_part : ∀ j : Fin 60, decide (zf j.val = "part") = false := by decide +kernel
theorem row_stands (n1 : C_read_name ≠ C_read_row_number) (n2 : C_read_name ≠ C_read_worth) (n3 : C_read_row_number ≠ C_read_worth) {p q : Nat} {L : List (Part × Nat)} {h : HH} {t : Part} {r : Row} {b : Bool} (I : Inv p (L ++ [(t, q)]) h) (lL : L.length ≤ 7) (hr : r.ok) (hj : t.rows.length < 60) :
    ∃ h', F_stands C_READS C_read_name C_read_row_number C_read_worth [.ref p, .lst ((zf t.rows.length :: r.wt b).map Val.str)] h = .ok (.bl true) h' ∧ Inv p (L ++ [(⟨t.nm, t.ns, t.rows ++ [r]⟩, q)]) h' := by
  have ro := ev_rowofW (C_READS := C_READS) (b := b) (h := h) n1 n2 n3 hr
  generalize r.wt b = wsr at ro ⊢
  have gs : gSt (gsCons (gNm 2) (gsCons (gNm 3) gsNil)) (.lst ((zf t.rows.length :: wsr).map Val.str)) [some (.ref p), some (.lst ((zf t.rows.length :: wsr).map Val.str)), none, none, none] h = .go .nx [some (.ref p), some (.lst ((zf t.rows.length :: wsr).map Val.str)), some (.str (zf t.rows.length)), some (.lst (wsr.map Val.str)), none] h := rfl
  have zm : (t, q) ∈ L ++ [(t, q)] := List.mem_append_right _ (List.mem_singleton.mpr rfl)
  obtain ⟨a1, a2⟩ := I.rows _ zm
  have fl : fLst [] h = .ok (.lst []) h := fLst_ok (by simp)
  have q1 := eq_parts (neg := false) I (by simp; omega)
  have e1 : (L ++ [(t, q)]).isEmpty = false := by cases L <;> rfl
  have ng : uNeg (.int 1) h = .ok (.int (-1)) h := rfl
  have lp := last_part I
  have o2 := own_2 (z := (t, q)) (h := h)
  have ll := len_r a1
  rw [List.length_map] at ll
  have ne : decide (((t.rows.length : Nat) : Int) = 100) = false := decide_eq_false (by omega)
  have st : fStr [.int (t.rows.length : Nat)] h = .ok (.str (numS (t.rows.length : Nat))) h := str_i (by omega)
  have zp : decide (zf t.rows.length = "part") = false := zf_part ⟨_, hj⟩
  have nn : bIs false r.val .non h = .ok (.bl false) h := by cases r <;> rfl
  have m0 := mtL_r (f := mApp) (ra := aCons (sVar 4) aNil) (ro := [some (.ref p), some (.lst ((zf t.rows.length :: wsr).map Val.str)), some (.str (zf t.rows.length)), some (.lst (wsr.map Val.str)), some r.val]) a1
  have ap := app_l (y := r.val) a1 (by simp; omega)
  refine ⟨h.set q (.lst (t.rows.map Row.val ++ [r.val])), ?_, ?_⟩
  · rw [e_stands]
    simp -implicitDefEqProofs only [m_stands, nSeq_e, nAsg_e, sVar_1, sb_ok, gs, asg_nx, sq_nx, nIf_e, cBin_e, sVar_s, sVar_0, sC_e, ob_ok, eq_ss, zp, unB_bl, Bool.false_eq_true, if_false, nNext_e, cOr_e, sArgs_e, aNil_e, fl, q1, e1, aCons_e, sBin_e, sUn_e, ng, lp, o2, ll, c_MOST_WRITTEN, eq_ii, ne, sSm_s, st, bind_e, zf_ev, ne_ss, decide_true, Bool.not_true,
      nSet_e, sCall_e, List.length_cons, List.length_nil, if_true, and_self, ro, List.set_cons_zero, List.set_cons_succ, nn, nExpr_e, sMtL_e, m0, ap, nRet_e, sq_ret, outOf_ret]
  · refine ⟨?_, ?_, ?_, ?_⟩
    · rw [List.getElem?_set_ne a2, I.pt, List.map_append, List.map_append]
      rfl
    · intro z hz
      rcases List.mem_append.mp hz with hz | hz
      · obtain ⟨b1, b2⟩ := I.rows z (List.mem_append_left _ hz)
        have nd := I.nd
        rw [List.map_append] at nd
        have nq : z.2 ≠ q := fun e => (List.nodup_append.mp nd).2.2 z.2 (List.mem_map.mpr ⟨z, hz, rfl⟩) q (by simp) e
        exact ⟨by rw [List.getElem?_set_ne (Ne.symm nq), b1], b2⟩
      · rw [List.mem_singleton.mp hz]
        exact ⟨by rw [set_get a1, List.map_append]; rfl, a2⟩
    · intro z hz
      rcases List.mem_append.mp hz with hz | hz
      · exact I.ok z (List.mem_append_left _ hz)
      · rw [List.mem_singleton.mp hz]
        obtain ⟨k1, k2, k3, k4, k5⟩ := I.ok _ zm
        refine ⟨k1, k2, k3, by simp; omega, fun x hx => ?_⟩
        rcases List.mem_append.mp hx with hx | hx
        · exact k5 x hx
        · rw [List.mem_singleton.mp hx]; exact hr
    · have := I.nd
      rw [List.map_append] at this ⊢
      exact this
/-! ### lines -/
theorem split_line {ws : List Str} (hne : ws ≠ []) (h : ∀ x ∈ ws, Word x) : Txt.split (Txt.join " " ws) " " = ws := TL.split_join (s := 32) (S := []) (by decide +kernel) (by decide +kernel) hne fun p hp => (h p hp).n32
theorem msplit_line {ws : List Str} {h : HH} (hne : ws ≠ []) (l : ws.length ≤ 6) (hw : ∀ x ∈ ws, Word x) : mSplit (.str (Txt.join " " ws)) (.str " ") h = .ok (.lst (ws.map Val.str)) h := by
  show (if ((" " : Str).length == 0) = false ∧ (Txt.join " " ws).length ≤ 100000 then Out.ok (Val.lst ((Txt.split (Txt.join " " ws) " ").map Val.str)) h else .bad) = _
  rw [split_line hne hw, if_pos ⟨by decide +kernel, by have := (line_of l hw).ln; omega⟩]
def G2 : GM := gTp 2 (gsCons (gNm 3) (gsCons (gNm 4) gsNil))
variable (C_READS C_read_name C_read_row_number C_read_worth) in
def rBody : SS := (nSeq (nIf (cNot (cV (sCall (F_stands C_READS C_read_name C_read_row_number C_read_worth) 2 0 2 (fun ws _ => ws) (aCons (sVar 1) (aCons (sSm mSplit (sVar 4) (sC (.str " "))) aNil)) aNil))) (nSeq nBad nNext) nNext) nNext)
theorem line_turn {a0 a2 a3 a5 a6 a7 a8 : Option Val} {p : Nat} {ws : List Str} {h h' : HH} (hne : ws ≠ []) (l : ws.length ≤ 6) (hw : ∀ x ∈ ws, Word x) (e : F_stands C_READS C_read_name C_read_row_number C_read_worth [.ref p, .lst (ws.map Val.str)] h = .ok (.bl true) h') :
    rBody C_READS C_read_name C_read_row_number C_read_worth [a0, some (.ref p), a2, a3, some (.str (Txt.join " " ws)), a5, a6, a7, a8] h = .go .nx [a0, some (.ref p), a2, a3, some (.str (Txt.join " " ws)), a5, a6, a7, a8] h' := by
  have ms := msplit_line (h := h) hne l hw
  simp -implicitDefEqProofs only [rBody, nSeq_e, nIf_e, cNot_e, cV_e, sCall_e, aCons_e, sVar_1, sVar_s, sVar_0, sSm_s, sC_e, bind_e, aNil_e, ob_ok, ms, List.length_cons, List.length_nil, if_true, and_self, e, tr_bl, Bool.not_true, sb_ok, Bool.false_eq_true, if_false, nNext_e, sq_nx]
theorem read_rows (n1 : C_read_name ≠ C_read_row_number) (n2 : C_read_name ≠ C_read_worth) (n3 : C_read_row_number ≠ C_read_worth) {lines : List Str} {fl : Nat → Bool} {p : Nat} {a0 a2 a5 a6 a7 a8 : Option Val} : ∀ (rs : List Row) (t : Part) (q : Nat) (L : List (Part × Nat)) (i k : Nat) (h : HH) (a3 a4 : Option Val),
    (∀ j x, (itemsR t.rows.length rs)[j]? = some x → lines[i + j]? = some (x.txt (fl (i + j)))) → Inv p (L ++ [(t, q)]) h → L.length ≤ 7 → t.rows.length + rs.length ≤ 60 → (∀ r ∈ rs, r.ok) →
    ∃ a3' a4' h', turns G2 (rBody C_READS C_read_name C_read_row_number C_read_worth) (.st (prs 0 (lines.map Val.str))) (k + rs.length) i [a0, some (.ref p), a2, a3, a4, a5, a6, a7, a8] h = turns G2 (rBody C_READS C_read_name C_read_row_number C_read_worth) (.st (prs 0 (lines.map Val.str))) k (i + rs.length) [a0, some (.ref p), a2, a3', a4', a5, a6, a7, a8] h' ∧ Inv p (L ++ [(⟨t.nm, t.ns, t.rows ++ rs⟩, q)]) h'
  | [], t, q, L, i, k, h, a3, a4, hs, I, lL, l60, hr => ⟨a3, a4, h, rfl, by rw [List.append_nil]; exact I⟩
  | r :: rs, t, q, L, i, k, h, a3, a4, hs, I, lL, l60, hr => by
    rw [List.length_cons] at l60
    have hro := hr r List.mem_cons_self
    obtain ⟨h1, e1, I1⟩ := row_stands (C_READS := C_READS) (b := fl i) n1 n2 n3 I lL hro (by omega)
    have ln0 : lines[i]? = some ((LI.row t.rows.length r).txt (fl i)) := hs 0 _ rfl
    have e0 : nxt (.st (prs 0 (lines.map Val.str))) i h = some (some (.tup [.int (i : Nat), .str ((LI.row t.rows.length r).txt (fl i))])) := by
      show some (prs 0 (lines.map Val.str))[i]? = _
      rw [prs_get, List.getElem?_map, ln0, Nat.zero_add]
      rfl
    have e2 := line_turn (a0 := a0) (a2 := a2) (a3 := some (.int (i : Nat))) (a5 := a5) (a6 := a6) (a7 := a7) (a8 := a8) li_ne (li_len (x := .row t.rows.length r) (b := fl i) ⟨by omega, hro⟩) (li_words (x := .row t.rows.length r) (b := fl i) ⟨by omega, hro⟩) e1
    obtain ⟨a3', a4', h', e3, I3⟩ := read_rows n1 n2 n3 (lines := lines) (fl := fl) (a0 := a0) (a2 := a2) (a5 := a5) (a6 := a6) (a7 := a7) (a8 := a8) rs ⟨t.nm, t.ns, t.rows ++ [r]⟩ q L (i + 1) k h1 (some (.int (i : Nat))) (some (.str ((LI.row t.rows.length r).txt (fl i)))) (fun j x e => by
      have := hs (j + 1) x (by
        show (itemsR (t.rows.length + 1) rs)[j]? = some x
        rw [show t.rows.length + 1 = (t.rows ++ [r]).length by simp]
        exact e)
      rwa [show i + (j + 1) = i + 1 + j by omega] at this) I1 lL (by simp; omega) (fun x hx => hr x (List.mem_cons_of_mem _ hx))
    refine ⟨a3', a4', h', ?_, ?_⟩
    · rw [List.length_cons, show k + (rs.length + 1) = (k + rs.length) + 1 by omega, turns_step (g := G2) e0 rfl e2, show i + (rs.length + 1) = i + 1 + rs.length by omega]
      exact e3
    · have : (t.rows ++ [r]) ++ rs = t.rows ++ r :: rs := by simp
      rw [← this]
      exact I3
theorem read_parts (n1 : C_read_name ≠ C_read_row_number) (n2 : C_read_name ≠ C_read_worth) (n3 : C_read_row_number ≠ C_read_worth) {lines : List Str} {fl : Nat → Bool} {p : Nat} {a0 a2 a5 a6 a7 a8 : Option Val} : ∀ (qs : List Part) (L : List (Part × Nat)) (i k : Nat) (h : HH) (a3 a4 : Option Val),
    (∀ j x, (itemsS qs)[j]? = some x → lines[i + j]? = some (x.txt (fl (i + j)))) → Inv p L h → (∀ z ∈ L, 1 ≤ z.1.rows.length) → L.length + qs.length ≤ 8 → (∀ q ∈ qs, q.ok) →
    ∃ Q a3' a4' h', turns G2 (rBody C_READS C_read_name C_read_row_number C_read_worth) (.st (prs 0 (lines.map Val.str))) (k + (itemsS qs).length) i [a0, some (.ref p), a2, a3, a4, a5, a6, a7, a8] h = turns G2 (rBody C_READS C_read_name C_read_row_number C_read_worth) (.st (prs 0 (lines.map Val.str))) k (i + (itemsS qs).length) [a0, some (.ref p), a2, a3', a4', a5, a6, a7, a8] h' ∧ Inv p (L ++ Q) h' ∧ Q.map (·.1) = qs
  | [], L, i, k, h, a3, a4, hs, I, hl, l8, hq => ⟨[], a3, a4, h, rfl, by rw [List.append_nil]; exact I, rfl⟩
  | t :: qs, L, i, k, h, a3, a4, hs, I, hl, l8, hq => by
    rw [List.length_cons] at l8
    have ht := hq t List.mem_cons_self
    obtain ⟨h1, q, e1, I1⟩ := head_stands (C_READS := C_READS) (C_read_name := C_read_name) (C_read_row_number := C_read_row_number) (C_read_worth := C_read_worth) I (by omega) ht hl
    have ln0 : lines[i]? = some (headS t) := hs 0 _ rfl
    have e0 : nxt (.st (prs 0 (lines.map Val.str))) i h = some (some (.tup [.int (i : Nat), .str (headS t)])) := by
      show some (prs 0 (lines.map Val.str))[i]? = _
      rw [prs_get, List.getElem?_map, ln0, Nat.zero_add]
      rfl
    have e2 := line_turn (a0 := a0) (a2 := a2) (a3 := some (.int (i : Nat))) (a5 := a5) (a6 := a6) (a7 := a7) (a8 := a8) (by simp [headW]) (by
      have := ht.ln
      show t.ns.length + 1 + 1 ≤ 6
      omega) (head_words ht) e1
    have lr := itemsR_len t.rows 0
    obtain ⟨b3, b4, h2, e3, I3⟩ := read_rows n1 n2 n3 (lines := lines) (fl := fl) (a0 := a0) (a2 := a2) (a5 := a5) (a6 := a6) (a7 := a7) (a8 := a8) t.rows ⟨t.nm, t.ns, []⟩ q L (i + 1) (k + (itemsS qs).length) h1 (some (.int (i : Nat))) (some (.str (headS t))) (fun j x e => by
      have l : j < (itemsR 0 t.rows).length := (List.getElem?_eq_some_iff.mp e).1
      have := hs (j + 1) x (by
        show (LI.head t :: itemsR 0 t.rows ++ itemsS qs)[j + 1]? = some x
        rw [List.cons_append, List.getElem?_cons_succ, List.getElem?_append_left l]
        exact e)
      rwa [show i + (j + 1) = i + 1 + j by omega] at this) I1 (by omega) (by
        have := ht.l2
        simp
        omega) ht.rows
    have I3' : Inv p (L ++ [(t, q)]) h2 := I3
    obtain ⟨Q, a3', a4', h', e4, I4, eQ⟩ := read_parts n1 n2 n3 (lines := lines) (fl := fl) (a0 := a0) (a2 := a2) (a5 := a5) (a6 := a6) (a7 := a7) (a8 := a8) qs (L ++ [(t, q)]) (i + 1 + t.rows.length) k h2 b3 b4 (fun j x e => by
      have := hs (1 + t.rows.length + j) x (by
        show (LI.head t :: itemsR 0 t.rows ++ itemsS qs)[1 + t.rows.length + j]? = some x
        rw [List.cons_append, show 1 + t.rows.length + j = (t.rows.length + j) + 1 by omega, List.getElem?_cons_succ, List.getElem?_append_right (by omega), lr, Nat.add_sub_cancel_left]
        exact e)
      rwa [show i + (1 + t.rows.length + j) = i + 1 + t.rows.length + j by omega] at this) I3' (fun z hz => by
        rcases List.mem_append.mp hz with hz | hz
        · exact hl z hz
        · rw [List.mem_singleton.mp hz]; exact ht.l1) (by simp; omega) (fun x hx => hq x (List.mem_cons_of_mem _ hx))
    refine ⟨(t, q) :: Q, a3', a4', h', ?_, ?_, by rw [List.map_cons, eQ]⟩
    · have ll : (itemsS (t :: qs)).length = 1 + t.rows.length + (itemsS qs).length := by
        show (LI.head t :: itemsR 0 t.rows ++ itemsS qs).length = _
        rw [List.length_append, List.length_cons, lr]
        omega
      rw [ll, show k + (1 + t.rows.length + (itemsS qs).length) = (k + (itemsS qs).length + t.rows.length) + 1 by omega, turns_step (g := G2) e0 rfl e2]
      refine e3.trans ?_
      rw [e4, show i + (1 + t.rows.length + (itemsS qs).length) = i + 1 + t.rows.length + (itemsS qs).length by omega]
    · have : L ++ (t, q) :: Q = (L ++ [(t, q)]) ++ Q := by simp
      rw [this]
      exact I4
/-! ### read_program -/
/-- lines that are a program's, each by tens or by sixteens -/
structure Lns (qs : List Part) (fl : Nat → Bool) (N : List Str) : Prop where
  len : N.length = (itemsS qs).length
  it : ∀ (j : Nat) (x : LI), (itemsS qs)[j]? = some x → N[j]? = some (x.txt (fl j))
theorem lns_line {qs : List Part} {fl : Nat → Bool} {N : List Str} (hq : ∀ q ∈ qs, q.ok) (l : Lns qs fl N) : ∀ y ∈ N, Line y := by
  intro y hy
  obtain ⟨j, hj, rfl⟩ := List.getElem_of_mem hy
  have hj2 : j < (itemsS qs).length := by rw [← l.len]; exact hj
  have e := l.it j _ (List.getElem?_eq_getElem hj2)
  rw [List.getElem?_eq_getElem hj] at e
  rw [Option.some.inj e]
  exact li_line (itemsS_ok hq _ (List.getElem_mem hj2))
theorem items_len {qs : List Part} : (itemsS qs).length = (linesS qs).length := by rw [← itemsS_txt, List.length_map]
theorem lns_len {qs : List Part} {fl : Nat → Bool} {N : List Str} (hq : ∀ q ∈ qs, q.ok) (l8 : qs.length ≤ 8) (l : Lns qs fl N) : N.length ≤ 488 := by
  have h2 := lines_bound hq l8 qs.length
  rw [List.take_length] at h2
  rw [l.len, items_len]
  exact h2
theorem lines_ne {qs : List Part} (l : 1 ≤ qs.length) : linesS qs ≠ [] := by
  cases qs with
  | nil => simp at l
  | cons q qs => simp [linesS, linesP]
theorem lns_ne {qs : List Part} {fl : Nat → Bool} {N : List Str} (l1 : 1 ≤ qs.length) (l : Lns qs fl N) : N ≠ [] := by
  have h1 := l.len
  rw [items_len] at h1
  intro z
  subst z
  exact lines_ne l1 (List.length_eq_zero_iff.mp h1.symm)
theorem txn_len {N : List Str} (l : N.length ≤ 488) (hl : ∀ y ∈ N, Line y) : (Txt.join "\n" N).length ≤ 100000 := by
  have h1 := join_len (a := "\n") nl1 fun y hy => (hl y hy).ln
  have h3 : N.length * (100 + 1) ≤ 488 * (100 + 1) := Nat.mul_le_mul_right _ l
  omega
theorem split_n {N : List Str} (hne : N ≠ []) (hl : ∀ y ∈ N, Line y) : Txt.split (Txt.join "\n" N) "\n" = N := TL.split_join (s := 10) (S := []) (by decide +kernel) (by decide +kernel) hne fun p hp => (hl p hp).n10
theorem msplit_tx {N : List Str} {h : HH} (hne : N ≠ []) (l : N.length ≤ 488) (hl : ∀ y ∈ N, Line y) : mSplit (.str (Txt.join "\n" N)) (.str "\n") h = .ok (.lst (N.map Val.str)) h := by
  show (if (("\n" : Str).length == 0) = false ∧ (Txt.join "\n" N).length ≤ 100000 then Out.ok (Val.lst ((Txt.split (Txt.join "\n" N) "\n").map Val.str)) h else .bad) = _
  rw [split_n hne hl, if_pos ⟨by decide +kernel, txn_len l hl⟩]
theorem ev_read (n1 : C_read_name ≠ C_read_row_number) (n2 : C_read_name ≠ C_read_worth) (n3 : C_read_row_number ≠ C_read_worth) {qs : List Part} {fl : Nat → Bool} {N : List Str} {h : HH} (ln : Lns qs fl N) (pp : pl (.tup (qs.map Part.val)) = true) (g : progB (.tup (qs.map Part.val)) = true) (hq : ∀ q ∈ qs, q.ok) (l1 : 1 ≤ qs.length) (l : qs.length ≤ 8) :
    ∃ h', F_read_program C_READS C_read_name C_read_row_number C_read_worth [.str (Txt.join "\n" N)] h = .ok (.tup (qs.map Part.val)) h' := by
  have is : fIsi [.str (Txt.join "\n" N), .ty "str"] h = .ok (.bl true) h := rfl
  have nw : fNew [] h = .ok (.ref h.length) (h ++ [.lst []]) := fNew_ok (by simp)
  generalize eh1 : h ++ [.lst []] = h1 at nw
  have e1 : h1[h.length]? = some (.lst []) := by rw [← eh1, List.getElem?_concat_length]
  generalize h.length = p at nw e1
  have ms := msplit_tx (h := h1) (lns_ne l1 ln) (lns_len hq l ln) (lns_line hq ln)
  have I0 : Inv p [] h1 := ⟨e1, (fun _ h => nomatch h), (fun _ h => nomatch h), by simp⟩
  obtain ⟨Q, b3, b4, h2, e2, I2, eQ⟩ := read_parts (C_READS := C_READS) n1 n2 n3 (lines := N) (fl := fl) (p := p) (a0 := some (.str (Txt.join "\n" N))) (a2 := some (.lst ((N).map Val.str))) (a5 := none) (a6 := none) (a7 := none) (a8 := none) qs [] 0 0 h1 none none (fun j x e => by rw [Nat.zero_add]; exact ln.it j x e) I0 (fun _ h => nomatch h) (by simpa using l) hq
  rw [Nat.zero_add, ← ln.len] at e2
  rw [List.nil_append] at I2
  have e3 : turns G2 (rBody C_READS C_read_name C_read_row_number C_read_worth) (.st (prs 0 ((N).map Val.str))) 0 (N).length [some (.str (Txt.join "\n" N)), some (.ref p), some (.lst ((N).map Val.str)), b3, b4, none, none, none, none] h2 = .go .nx [some (.str (Txt.join "\n" N)), some (.ref p), some (.lst ((N).map Val.str)), b3, b4, none, none, none, none] h2 := by
    unfold turns
    have : nxt (.st (prs 0 ((N).map Val.str))) (N).length h2 = some none := by
      show some (prs 0 ((N).map Val.str))[(N).length]? = _
      rw [prs_get]
      simp
    rw [this]
  have el := e2.trans e3
  have lQ : Q.length = qs.length := by rw [← eQ, List.length_map]
  rcases List.eq_nil_or_concat Q with rfl | ⟨Q', z, eQ'⟩
  · simp at lQ; omega
  rw [List.concat_eq_append] at eQ'
  have I2' := I2
  rw [eQ'] at I2'
  have lp := last_part I2'
  have o2 := own_2 (z := z) (h := h2)
  have zm : z ∈ Q := by rw [eQ']; exact List.mem_append_right _ (List.mem_singleton.mpr rfl)
  have zq : z.1 ∈ qs := by rw [← eQ]; exact List.mem_map.mpr ⟨z, zm, rfl⟩
  have er := eq_rows (neg := false) (I2.rows z zm).1 (I2.ok z zm).l2 (I2.ok z zm).rows
  have ee : z.1.rows.isEmpty = false := by
    have := (hq z.1 zq).l1
    cases c : z.1.rows with
    | nil => rw [c] at this; simp at this
    | cons _ _ => rfl
  have fl : fLst [] h2 = .ok (.lst []) h2 := fLst_ok (by simp)
  have ng : uNeg (.int 1) h2 = .ok (.int (-1)) h2 := rfl
  have m1 : (Q.map fun z => (own z, z.1.val)).map (·.1) = Q.map own := by rw [List.map_map]; rfl
  have m2 : (Q.map fun z => (own z, z.1.val)).map (·.2) = qs.map Part.val := by rw [List.map_map, ← eQ, List.map_map]; rfl
  have hc : sLc (iVal (sVar 1)) (gTp 3 (gsCons (gNm 6) (gsCons (gNm 7) (gsCons (gNm 8) gsNil)))) tYesZ (sArgs fTup (aCons (sVar 6) (aCons (sVar 7) (aCons (sArgs fTpl (aCons (sVar 8) aNil)) aNil)))) [6, 7, 8]
      [some (.str (Txt.join "\n" N)), some (.ref p), some (.lst ((N).map Val.str)), b3, b4, none, none, none, none] h2 = .ok (.lst (qs.map Part.val)) h2 := by
    rw [← m2]
    refine sLc_ref (n := p) (k := (Q.map own).length) _ (by rw [m1]; exact I2.pt) ?_ (by simp) fun y hy => ?_
    · have : itmV (.ref p) h2 = .ok (Itm.dyn p, (Q.map own).length) h2 := by
        show (match h2[p]? with
          | some (.lst xs) => Out.ok (Itm.dyn p, xs.length) h2
          | _ => .bad) = _
        rw [I2.pt]
      simp -implicitDefEqProofs only [iVal_e, sVar_1, ob_ok, this]
    · obtain ⟨z, hz, rfl⟩ := List.mem_map.mp hy
      have tp := tpl_r (I2.rows z hz).1
      have ft : fTup [.str z.1.nm, .tup (z.1.ns.map Val.str), .tup (z.1.rows.map Row.val)] h2 = .ok z.1.val h2 := fTup_ok (by simp)
      refine ⟨_, rfl, ?_⟩
      simp [wipeN, tp, ft]
  have ip := ev_program (h := h2) pp
  rw [g] at ip
  have fe : fEn [.lst ((N).map Val.str)] h1 = .ok (.st (prs 0 ((N).map Val.str)), ((N).map Val.str).length) h1 := rfl
  have lm : ((N).map Val.str).length = (N).length := List.length_map ..
  refine ⟨h2, ?_⟩
  rw [e_read_program]
  unfold G2 rBody at el
  simp -implicitDefEqProofs only [m_read_program, nSeq_e, nIf_e, cNot_e, cV_e, sArgs_e, aCons_e, sVar_0, sC_e, aNil_e, ob_ok, is, tr_bl, Bool.not_true, sb_ok, Bool.false_eq_true, if_false, nNext_e, sq_nx, nSet_e, nw, List.set_cons_zero, List.set_cons_succ, sSm_s, bind_e, ms, nFor_e, iEn_e, sVar_s, fe, lm, el, cBin_e, sBin_e, sUn_e, ng, lp, o2, fl, er, ee, unB_bl, hc, fTpl_l,
    sCall_e, List.length_cons, List.length_nil, if_true, and_self, ip, nRet_e, sq_ret, outOf_ret]
end
end K68
set_option Elab.async false
set_option maxRecDepth 100000
set_option linter.unusedVariables false
set_option linter.unusedSimpArgs false
namespace K68
open PySem PySem.Spec PyProof.Rows L2 Z
/-! ### signs below 128 -/
def Asc (x : Str) : Prop := ∀ c ∈ TL.tl x, c < 128
theorem joinL_asc {S : List Nat} (hS : ∀ c ∈ S, c < 128) : ∀ {ps : List (List Nat)}, (∀ p ∈ ps, ∀ c ∈ p, c < 128) → ∀ c ∈ TL.joinL S ps, c < 128
  | [], _, c, hc => by simp [TL.joinL] at hc
  | [p], h, c, hc => h p (by simp) c hc
  | p :: q :: r, h, c, hc => by
    have h1 := h p (by simp)
    have h2 := joinL_asc hS (ps := q :: r) fun w hw => h w (List.mem_cons_of_mem _ hw)
    have hc' : c ∈ p ++ (S ++ TL.joinL S (q :: r)) := hc
    rcases List.mem_append.mp hc' with m | m
    · exact h1 c m
    · rcases List.mem_append.mp m with m | m
      · exact hS c m
      · exact h2 c m
theorem join_asc {a : Str} {ys : List Str} (ha : Asc a) (h : ∀ y ∈ ys, Asc y) : Asc (Txt.join a ys) := by
  unfold Asc
  rw [TL.join_eq, TL.tl_join]
  exact joinL_asc ha fun p hp => by
    obtain ⟨y, hy, rfl⟩ := List.mem_map.mp hp
    exact h y hy
def ascB (x : Str) : Bool := (TL.tl x).all fun c => decide (c < 128)
theorem asc_lit {x : Str} (h : ascB x = true) : Asc x := fun c hc => of_decide_eq_true (List.all_eq_true.mp h c hc)
theorem lits_asc : (ALONE ++ (NMD ++ (GOES ++ PP))).all ascB = true := by decide +kernel
theorem lit_asc {x : Str} (h : x ∈ ALONE ++ (NMD ++ (GOES ++ PP))) : Asc x := asc_lit (List.all_eq_true.mp lits_asc x h)
theorem zf_asc : ∀ j : Fin 60, ascB (zf j.val) = true := by decide +kernel
theorem name_asc {x : Str} (h : nameB x = true) : Asc x := fun c hc => by
  have := (name_iff.mp h).2.2 c hc
  omega
theorem num_asc (i : Int) : Asc (numS i) := by
  intro c hc
  rcases numS_cases i with ⟨n, rfl, e⟩ | ⟨n, rfl, e⟩
  · rw [e] at hc
    have := TL.numL_digits n c hc
    omega
  · rw [e] at hc
    rcases List.mem_cons.mp hc with rfl | hc
    · omega
    · have := TL.numL_digits (n + 1) c hc
      omega
theorem ws_asc {r : Row} (h : r.ok) : ∀ x ∈ r.ws, Asc x := by
  intro x hx
  cases r with
  | one y =>
    rw [List.mem_singleton.mp hx]
    exact lit_asc (List.mem_append_left _ h)
  | put i =>
    rcases List.mem_cons.mp hx with rfl | hx
    · exact lit_asc (by decide +kernel)
    · rw [List.mem_singleton.mp hx]; exact num_asc _
  | nmd y z =>
    rcases List.mem_cons.mp hx with rfl | hx
    · exact lit_asc (List.mem_append_right _ (List.mem_append_left _ h.1))
    · rw [List.mem_singleton.mp hx]; exact name_asc h.2
  | goes y k =>
    rcases List.mem_cons.mp hx with rfl | hx
    · exact lit_asc (List.mem_append_right _ (List.mem_append_right _ (List.mem_append_left _ h.1)))
    · rw [List.mem_singleton.mp hx]; exact num_asc _
theorem row_asc {j : Nat} {r : Row} (hj : j < 60) (h : r.ok) : Asc (rowS j r) := join_asc (asc_lit (by decide +kernel)) fun y hy => by
  rcases List.mem_cons.mp hy with rfl | hy
  · exact asc_lit (zf_asc ⟨j, hj⟩)
  · exact ws_asc h y hy
theorem rows_asc : ∀ {rs : List Row} {k : Nat}, k + rs.length ≤ 60 → (∀ r ∈ rs, r.ok) → ∀ x ∈ rowsS k rs, Asc x
  | [], _, _, _, x, hx => nomatch hx
  | r :: rs, k, hk, h, x, hx => by
    rw [List.length_cons] at hk
    rcases List.mem_cons.mp hx with rfl | hx
    · exact row_asc (by omega) (h r List.mem_cons_self)
    · exact rows_asc (k := k + 1) (by omega) (fun q hq => h q (List.mem_cons_of_mem _ hq)) x hx
theorem tx_asc {qs : List Part} (h : ∀ q ∈ qs, q.ok) : Asc (TX qs) := join_asc (asc_lit (by decide +kernel)) fun x hx => by
  obtain ⟨p, hp, hx⟩ := List.mem_flatMap.mp hx
  have hp := h p hp
  rcases List.mem_cons.mp hx with rfl | hx
  · refine join_asc (asc_lit (by decide +kernel)) fun y hy => ?_
    rcases List.mem_cons.mp hy with rfl | hy
    · exact lit_asc (by decide +kernel)
    · rcases List.mem_cons.mp hy with rfl | hy
      · exact name_asc hp.nm
      · exact name_asc (hp.ns y hy)
  · exact rows_asc (k := 0) (by have := hp.l2; omega) hp.rows x hx
theorem asc_ok {x : Str} (h : Asc x) : PyData.strOk x = true := by
  unfold PyData.strOk
  rw [Array.all_eq_true_iff_forall_mem]
  intro c hc
  have := h c (Array.mem_toList_iff.mpr hc)
  simp
  omega
/-! ### how great programs are -/
theorem fine_int {n d : Nat} {i : Int} (h : i.natAbs ≤ 10 ^ 12) : fine n d (.int i) = true := by
  have q : decide (i.natAbs ≤ 10 ^ 39 + n) = true := decide_eq_true (by
    have : (10 : Nat) ^ 12 ≤ 10 ^ 39 := by decide
    omega)
  cases d <;> exact q
theorem fine_str {n d : Nat} {x : Str} (h : PyData.strOk x = true) (l : x.length ≤ 14) : fine n d (.str x) = true ∧ sz (.str x) ≤ 142 := by
  have q : (PyData.strOk x && decide (x.length ≤ 20)) = true := by
    rw [h, Bool.true_and, decide_eq_true_eq]; omega
  refine ⟨by cases d <;> exact q, ?_⟩
  show 10 * x.length + 2 ≤ 142
  omega
theorem szs_le {m : Nat} : ∀ {xs : List Val}, (∀ w ∈ xs, sz w ≤ m) → szs xs ≤ xs.length * (m + 2)
  | [], _ => Nat.zero_le _
  | x :: xs, h => by
    have := h x List.mem_cons_self
    have := szs_le (xs := xs) fun w hw => h w (List.mem_cons_of_mem _ hw)
    rw [List.length_cons, Nat.succ_mul]
    show sz x + 2 + szs xs ≤ _
    omega
theorem name_fine {n d : Nat} {x : Str} (h : nameB x = true) : fine n d (.str x) = true ∧ sz (.str x) ≤ 142 := fine_str (name_strOk h) (by have := (name_iff.mp h).2.1; omega)
theorem lit_fine {n d : Nat} {x : Str} (h : x ∈ ALONE ++ (NMD ++ (GOES ++ PP))) : fine n d (.str x) = true ∧ sz (.str x) ≤ 142 := fine_str (lit_str h) (lit h).ln
theorem row_fine {n : Nat} {r : Row} (h : r.ok) : fine n 1 r.val = true ∧ sz r.val ≤ 300 := by
  have two : ∀ a b : Val, fine n 0 a = true ∧ sz a ≤ 142 → fine n 0 b = true ∧ sz b ≤ 142 → fine n 1 (.tup [a, b]) = true ∧ sz (.tup [a, b]) ≤ 300 := fun a b h1 h2 => by
    refine ⟨fine_tup.mpr ⟨by simp; omega, fun w hw => ?_⟩, ?_⟩
    · simp only [List.mem_cons, List.not_mem_nil, or_false] at hw
      rcases hw with rfl | rfl
      · exact h1.1
      · exact h2.1
    · show sz a + 2 + (sz b + 2 + 0) + 3 ≤ 300
      have := h1.2
      have := h2.2
      omega
  cases r with
  | one x =>
    have h1 := lit_fine (n := n) (d := 0) (List.mem_append_left _ h : x ∈ ALONE ++ (NMD ++ (GOES ++ PP)))
    refine ⟨fine_tup.mpr ⟨by simp; omega, fun w hw => ?_⟩, ?_⟩
    · rw [List.mem_singleton.mp hw]; exact h1.1
    · show sz (.str x) + 2 + 0 + 3 ≤ 300
      have := h1.2
      omega
  | put i => exact two _ _ (lit_fine (x := "put") (by decide +kernel)) ⟨fine_int h, by show 60 ≤ 142; omega⟩
  | nmd x y => exact two _ _ (lit_fine (List.mem_append_right _ (List.mem_append_left _ h.1))) (name_fine h.2)
  | goes x k => exact two _ _ (lit_fine (List.mem_append_right _ (List.mem_append_right _ (List.mem_append_left _ h.1)))) ⟨fine_int (by have := h.2; omega), by show 60 ≤ 142; omega⟩
theorem part_fine {p : Part} (h : p.ok) : fine 0 3 p.val = true ∧ sz p.val ≤ 19000 := by
  have hn := name_fine (n := 0) (d := 2) h.nm
  have s1 := szs_le (m := 142) (xs := p.ns.map Val.str) fun w hw => by
    obtain ⟨y, hy, rfl⟩ := List.mem_map.mp hw
    exact (name_fine (n := 0) (d := 0) (h.ns y hy)).2
  have s2 := szs_le (m := 300) (xs := p.rows.map Row.val) fun w hw => by
    obtain ⟨y, hy, rfl⟩ := List.mem_map.mp hw
    exact (row_fine (n := 0) (h.rows y hy)).2
  rw [List.length_map] at s1 s2
  refine ⟨fine_tup.mpr ⟨by simp, fun w hw => ?_⟩, ?_⟩
  · simp only [List.mem_cons, List.not_mem_nil, or_false] at hw
    rcases hw with rfl | rfl | rfl
    · exact hn.1
    · refine fine_tup.mpr ⟨by have := h.ln; simp; omega, fun w hw => ?_⟩
      obtain ⟨y, hy, rfl⟩ := List.mem_map.mp hw
      exact (name_fine (h.ns y hy)).1
    · refine fine_tup.mpr ⟨by have := h.l2; simp; omega, fun w hw => ?_⟩
      obtain ⟨y, hy, rfl⟩ := List.mem_map.mp hw
      exact (row_fine (h.rows y hy)).1
  · show sz (.str p.nm) + 2 + (szs (p.ns.map Val.str) + 3 + 2 + (szs (p.rows.map Row.val) + 3 + 2 + 0)) + 3 ≤ 19000
    have h3 : p.ns.length * (142 + 2) ≤ 3 * (142 + 2) := Nat.mul_le_mul_right _ h.ln
    have h4 : p.rows.length * (300 + 2) ≤ 60 * (300 + 2) := Nat.mul_le_mul_right _ h.l2
    have := hn.2
    omega
theorem prog_fine {qs : List Part} (h : ∀ q ∈ qs, q.ok) (l : qs.length ≤ 8) : fine 0 4 (.tup (qs.map Part.val)) = true ∧ sz (.tup (qs.map Part.val)) ≤ 200000 := by
  have s1 := szs_le (m := 19000) (xs := qs.map Part.val) fun w hw => by
    obtain ⟨y, hy, rfl⟩ := List.mem_map.mp hw
    exact (part_fine (h y hy)).2
  rw [List.length_map] at s1
  refine ⟨fine_tup.mpr ⟨by simp; omega, fun w hw => ?_⟩, ?_⟩
  · obtain ⟨y, hy, rfl⟩ := List.mem_map.mp hw
    exact (part_fine (h y hy)).1
  · show szs (qs.map Part.val) + 3 ≤ 200000
    have h3 : qs.length * (19000 + 2) ≤ 8 * (19000 + 2) := Nat.mul_le_mul_right _ l
    omega
/-! ### what is a program -/
structure Good (qs : List Part) : Prop where
  ok : ∀ q ∈ qs, q.ok
  nd : (qs.map Part.nm).Nodup
  nns : ∀ q ∈ qs, q.ns.Nodup
  l1 : 1 ≤ qs.length
  l8 : qs.length ≤ 8
  rows : ∀ q ∈ qs, ∀ (j : Nat) (r : Row), q.rows[j]? = some r → rowB r.val (j : Nat) (q.rows.length : Nat) ((qs.map Part.nm).map Val.str) = true
theorem unlike_ok {xs : List Str} {a b : Nat} (h1 : a ≤ xs.length) (h2 : xs.length ≤ b) (hn : ∀ x ∈ xs, nameB x = true) (nd : xs.Nodup) : unlike (a : Nat) (b : Nat) (.tup (xs.map Val.str)) = true := by
  show (decide (((a : Nat) : Int) ≤ (((xs.map Val.str).length : Nat) : Int)) && (decide ((((xs.map Val.str).length : Nat) : Int) ≤ (b : Nat)) && ((xs.map Val.str).all isName && nodB (xs.map Val.str)))) = true
  have e1 : (xs.map Val.str).all isName = true := by
    rw [List.all_map, List.all_eq_true]
    exact hn
  have e2 : nodB (xs.map Val.str) = true := by
    unfold nodB
    rw [txts_str]
    dsimp only
    rw [List.length_map, decide_eq_true_eq, ZS.dcnt_eq]
    exact nd
  rw [e1, e2, List.length_map, decide_eq_true (by omega), decide_eq_true (by omega)]
  rfl
theorem rowsOf_all (f : Val → Int → Bool) : ∀ (rows : List Val) (k : Nat), (∀ j r, rows[j]? = some r → f r ((k + j : Nat) : Int) = true) → ((prs k rows).map fun z => match z with
  | .tup [.int i, r] => f r i
  | _ => false).all id = true
  | [], _, _ => rfl
  | r :: rows, k, h => by
    show (f r ((k : Nat) : Int) && ((prs (k + 1) rows).map _).all id) = true
    have h0 := h 0 r rfl
    rw [Nat.add_zero] at h0
    rw [h0, Bool.true_and]
    exact rowsOf_all f rows (k + 1) fun j r' e => by
      have := h (j + 1) r' (by simpa using e)
      rwa [show k + 1 + j = k + (j + 1) by omega]
theorem good_prog {qs : List Part} (g : Good qs) : progB (.tup (qs.map Part.val)) = true := by
  have eh : (qs.map Part.val).map hd0 = (qs.map Part.nm).map Val.str := by
    rw [List.map_map, List.map_map]; rfl
  show ((qs.map Part.val).all headed && (unlike 1 8 (.tup ((qs.map Part.val).map hd0)) && ((qs.map Part.val).flatMap (FB ((qs.map Part.val).map hd0))).all id)) = true
  rw [eh]
  have e1 : (qs.map Part.val).all headed = true := by
    rw [List.all_eq_true]
    intro w hw
    obtain ⟨q, hq, rfl⟩ := List.mem_map.mp hw
    have ho := g.ok q hq
    show (nameB q.nm && (unlike (0 : Nat) (3 : Nat) (.tup (q.ns.map Val.str)) && (decide ((1 : Int) ≤ (((q.rows.map Row.val).length : Nat) : Int)) && decide ((((q.rows.map Row.val).length : Nat) : Int) ≤ 60)))) = true
    have := ho.l1
    have := ho.l2
    rw [ho.nm, unlike_ok (by omega) ho.ln ho.ns (g.nns q hq), List.length_map, decide_eq_true (by omega), decide_eq_true (by omega)]
    rfl
  have e2 : unlike (1 : Nat) (8 : Nat) (.tup ((qs.map Part.nm).map Val.str)) = true := unlike_ok (by rw [List.length_map]; exact g.l1) (by rw [List.length_map]; exact g.l8) (fun x hx => by
    obtain ⟨q, hq, rfl⟩ := List.mem_map.mp hx
    exact (g.ok q hq).nm) g.nd
  have e2' : unlike 1 8 (.tup ((qs.map Part.nm).map Val.str)) = true := e2
  rw [e1, e2', Bool.true_and, Bool.true_and, List.all_eq_true]
  intro b hb
  obtain ⟨w, hw, hb⟩ := List.mem_flatMap.mp hb
  obtain ⟨q, hq, rfl⟩ := List.mem_map.mp hw
  have := rowsOf_all (fun r i => rowB r i ((q.rows.map Row.val).length : Nat) ((qs.map Part.nm).map Val.str)) (q.rows.map Row.val) 0 fun j r e => by
    rw [List.getElem?_map] at e
    obtain ⟨r', e', rfl⟩ := Option.map_eq_some_iff.mp e
    rw [Nat.zero_add, List.length_map]
    exact g.rows q hq j r' e'
  exact List.all_eq_true.mp this b hb
end K68
set_option Elab.async false
set_option maxRecDepth 100000
set_option linter.unusedVariables false
set_option linter.unusedSimpArgs false
namespace Z
open PySem PySem.Spec PyProof.Rows L2
/-- a comprehension whose element draws -/
theorem lc_draw {g : GM} {m : SE} {ro : En} {ys : List Val} (P : Nat → HH → Prop) (R : Nat → Val → Prop) (hf : ∀ i w h, ys[i]? = some w → P i h → ∃ ro1 y h1, g w ro h = .go .nx ro1 h ∧ m ro1 h = .ok y h1 ∧ R i y ∧ P (i + 1) h1) :
    ∀ (k i : Nat) (acc : List Val) (h : HH), k + i = ys.length → P i h → ∃ zs h', lcTurns g tYesZ m ro (.st ys) k i acc h = .ok (acc ++ zs) h' ∧ zs.length = k ∧ (∀ j y, zs[j]? = some y → R (i + j) y) ∧ P ys.length h'
  | 0, i, acc, h, e, p => by
    have : i = ys.length := by omega
    subst this
    refine ⟨[], h, ?_, rfl, fun j y q => by simp at q, p⟩
    unfold lcTurns
    have : nxt (.st ys) ys.length h = some none := by show some ys[ys.length]? = _; simp
    rw [this]; simp
  | k + 1, i, acc, h, e, p => by
    have l : i < ys.length := by omega
    have es : ys[i]? = some ys[i] := List.getElem?_eq_getElem l
    obtain ⟨ro1, y, h1, e1, e2, r, p1⟩ := hf i ys[i] h es p
    obtain ⟨zs, h', e3, l3, r3, p3⟩ := lc_draw P R hf k (i + 1) (acc ++ [y]) h1 (by omega) p1
    refine ⟨y :: zs, h', ?_, by simp [l3], fun j z q => ?_, p3⟩
    · unfold lcTurns
      have : nxt (.st ys) i h = some (some ys[i]) := by show some ys[i]? = _; rw [es]
      rw [this]
      simp only [e1, tYesZ_e, if_true, e2, e3, List.append_assoc, List.singleton_append]
    · cases j with
      | zero =>
        have : y = z := by simpa using q
        subst this
        exact r
      | succ j =>
        have := r3 j z (by simpa using q)
        rwa [show i + (j + 1) = i + 1 + j by omega]
theorem sLc_eq {mi : SI} {g : GM} {t : En → M Bool} {m : SE} {own : List Nat} {ro : En} {h h1 : HH} {x : Itm} {k : Nat} (e : mi ro h = .ok (x, k) h1) : sLc mi g t m own ro h = obind (lcTurns g t m (wipeN ro own) x k 0 [] h1) fun ys => ret (.lst ys) := by
  show obind (mi ro h) _ = _
  rw [e]
  rfl
theorem iRg1_ev {m : SE} {ro : En} {h h1 : HH} {n : Nat} (e : m ro h = .ok (.int (n : Nat)) h1) (l : n ≤ 1000) : iRgN 1 (aCons m aNil) ro h = .ok (.st (nums 0 n), n) h1 := by
  simp -implicitDefEqProofs only [iRgN_e, aCons_e, e, aNil_e, ob_ok]
  rw [if_pos (show [Val.int (n : Int)].length = 1 from rfl), fRg1 l]
theorem nums_len {n : Nat} {lo : Int} : (nums lo n).length = n := by simp [nums]
theorem fint_b {p : Bool} {h : HH} : fInt [.bl p] h = .ok (.int (if p = true then 1 else 0)) h := rfl
theorem str_at {x : Str} {i c : Nat} {h : HH} (e : x.cps.toList[i]? = some c) (l : x.length ≤ 1000) : bIx (.str x) (.int (i : Nat)) h = .ok (.str ⟨#[c]⟩) h := by
  show (if x.length ≤ sizeLine then (match L2.atI x.cps.toList (i : Nat) with
    | some c => Out.ok (Val.str ⟨#[c]⟩) h
    | none => .bad) else .bad) = _
  rw [if_pos (by have := sizeLine_eq; omega)]
  have : L2.atI x.cps.toList (i : Nat) = some c := atI_nat e
  rw [this]
end Z
namespace K68
open PySem PySem.Spec PyProof.Rows L2 Z
/-! ### draws -/
def BagK (b : Nat) (h : HH) : Prop := ∃ f m : Int, h[b]? = some (.lst [.int f, .int m]) ∧ 0 ≤ f ∧ 0 ≤ m ∧ m < 2 ^ 31
theorem BagK.lt {b : Nat} {h : HH} (B : BagK b h) : b < h.length := by
  obtain ⟨f, l, e, _⟩ := B
  exact (List.getElem?_eq_some_iff.mp e).1
/-- what a draw leaves: the bag alone is changed -/
def Kp (b : Nat) (h h' : HH) : Prop := h.length ≤ h'.length ∧ ∀ i, i < h.length → i ≠ b → h'[i]? = h[i]?
theorem Kp.refl (b : Nat) (h : HH) : Kp b h h := ⟨Nat.le_refl _, fun _ _ _ => rfl⟩
theorem Kp.trans {b : Nat} {h h1 h2 : HH} (a : Kp b h h1) (c : Kp b h1 h2) : Kp b h h2 := ⟨Nat.le_trans a.1 c.1, fun i l n => (c.2 i (Nat.lt_of_lt_of_le l a.1) n).trans (a.2 i l n)⟩
theorem Kp.set {b : Nat} {h : HH} {x : Ob} : Kp b h (h.set b x) := ⟨by simp, fun i l n => by rw [List.getElem?_set_ne (Ne.symm n)]⟩
theorem Kp.new {b : Nat} {h : HH} {x : Ob} : Kp b h (h ++ [x]) := ⟨by simp, fun i l n => by rw [List.getElem?_append_left l]⟩
structure Aft (b : Nat) (h h' : HH) : Prop where
  kp : Kp b h h'
  bag : BagK b h'
theorem Aft.trans {b : Nat} {h h1 h2 : HH} (a : Aft b h h1) (d : Aft b h1 h2) : Aft b h h2 := ⟨a.kp.trans d.kp, d.bag⟩
theorem Aft.refl {b : Nat} {h : HH} (B : BagK b h) : Aft b h h := ⟨Kp.refl b h, B⟩
theorem Aft.new {b : Nat} {h : HH} {x : Ob} (B : BagK b h) : Aft b h (h ++ [x]) := by
  have l := B.lt
  obtain ⟨f, m, e, q⟩ := B
  exact ⟨Kp.new, f, m, by rw [List.getElem?_append_left l]; exact e, q⟩
theorem Aft.put {b q : Nat} {h h1 : HH} {x : Ob} (A : Aft b h h1) (lq : h.length ≤ q) (n : q ≠ b) : Aft b h (h1.set q x) := by
  refine ⟨⟨by simp; exact A.kp.1, fun i hi ni => ?_⟩, ?_⟩
  · rw [List.getElem?_set_ne (by omega)]
    exact A.kp.2 i hi ni
  · obtain ⟨f, m, e, z⟩ := A.bag
    exact ⟨f, m, by rw [List.getElem?_set_ne n]; exact e, z⟩
theorem ev_take {b : Nat} {h : HH} {many : Int} (B : BagK b h) (hm : 0 < many) (hm2 : many ≤ 2 ^ 40) :
    ∃ (v : Int) (h' : HH), F__law_take [.ref b, .int many] h = .ok (.int v) h' ∧ 0 ≤ v ∧ v < many ∧ Aft b h h' := by
  obtain ⟨f, l, e, f0, l0, l1⟩ := B
  have i0 : bIx (.ref b) (.int 0) h = .ok (.int f) h := ix_r (i := 0) e rfl
  rw [e__law_take]
  by_cases hf : 0 < f
  · refine ⟨f % many, h.set b (.lst [.int (f / many), .int l]), ?_, Int.emod_nonneg _ (by omega), Int.emod_lt_of_pos _ hm, Kp.set, ⟨_, _, set_get e, Int.ediv_nonneg f0 (by omega), l0, l1⟩⟩
    have g0 : gSb (sVar 0) (sC (.int 0)) (.int (f / many)) [some (.ref b), some (.int many), some (.int (f % many))] h = .go .nx [some (.ref b), some (.int many), some (.int (f % many))] (h.set b (.lst [.int (f / many), .int l])) := gSb_e (j := 0) (sVar_e rfl) rfl e rfl
    have d0 : bDiv (.int f) (.int many) h = .ok (.int (f / many)) h := div_ii hm (by omega)
    have d1 : bMod (.int f) (.int many) h = .ok (.int (f % many)) h := mod_ii hm
    simp -implicitDefEqProofs only [m__law_take, nSeq_e, nIf_e, cBin_e, sBin_e, sVar_0, sC_e, ob_ok, i0, bOrd_e, unB_bl, decide_eq_true hf, sb_ok, if_true, nSet_e, sVar_1, d1, sq_nx, List.set_cons_zero, List.set_cons_succ, nAsg_e, d0, g0, asg_nx, nRet_e, sVar_s, sq_ret, outOf_ret]
  · have i1 : bIx (.ref b) (.int 1) h = .ok (.int l) h := ix_r (i := 1) e rfl
    have m1 : bMul (.int l) (.int 48271) h = .ok (.int (l * 48271)) h := mul_ii (.inl ⟨by omega, by omega⟩)
    generalize em : (l * 48271 + 7919) % 2147483647 = m2
    have m20 : 0 ≤ m2 := by rw [← em]; exact Int.emod_nonneg _ (by omega)
    have m21 : m2 < 2147483647 := by rw [← em]; exact Int.emod_lt_of_pos _ (by omega)
    have k1 : bMod (.int (l * 48271 + 7919)) (.int 2147483647) h = .ok (.int m2) h := by rw [mod_ii (by omega), em]
    have e1 : (h.set b (.lst [.int f, .int m2]))[b]? = some (.lst [.int f, .int m2]) := set_get e
    have g0 : gSb (sVar 0) (sC (.int 1)) (.int m2) [some (.ref b), some (.int many), none] h = .go .nx [some (.ref b), some (.int many), none] (h.set b (.lst [.int f, .int m2])) := gSb_e (j := 1) (sVar_e rfl) rfl e rfl
    have K : Kp b h (h.set b (.lst [.int f, .int m2])) := Kp.set
    generalize h.set b (.lst [.int f, .int m2]) = h1 at e1 g0 K
    have j1 : bIx (.ref b) (.int 1) h1 = .ok (.int m2) h1 := ix_r (i := 1) e1 rfl
    have pw : bPow (.int m2) (.int 3) h1 = .ok (.int (m2 ^ 3)) h1 := pow_ii (n := 31) (j := 3) (by omega) (by decide)
    have k2 : bMod (.int (m2 ^ 3)) (.int 2147483587) h1 = .ok (.int (m2 ^ 3 % 2147483587)) h1 := mod_ii (by omega)
    have z0 : 0 ≤ m2 ^ 3 % 2147483587 := Int.emod_nonneg _ (by omega)
    have z1 : m2 ^ 3 % 2147483587 < 2147483587 := Int.emod_lt_of_pos _ (by omega)
    generalize m2 ^ 3 % 2147483587 = z at k2 z0 z1
    have k3 : bDiv (.int z) (.int 7) h1 = .ok (.int (z / 7)) h1 := div_ii (by omega) (by omega)
    have k4 : bMul (.int (z / 7)) (.int 69621) h1 = .ok (.int (z / 7 * 69621)) h1 := mul_ii (.inl ⟨by omega, by omega⟩)
    have k5 : bMod (.int (z / 7 * 69621)) (.int 1073741789) h1 = .ok (.int (z / 7 * 69621 % 1073741789)) h1 := mod_ii (by omega)
    have k6 : bMod (.int (z / 7 * 69621 % 1073741789)) (.int many) h1 = .ok (.int (z / 7 * 69621 % 1073741789 % many)) h1 := mod_ii hm
    refine ⟨z / 7 * 69621 % 1073741789 % many, h1, ?_, Int.emod_nonneg _ (by omega), Int.emod_lt_of_pos _ hm, K, ⟨f, m2, e1, f0, m20, by omega⟩⟩
    simp -implicitDefEqProofs only [m__law_take, nSeq_e, nIf_e, cBin_e, sBin_e, sVar_0, sC_e, ob_ok, i0, bOrd_e, unB_bl, decide_eq_false hf, sb_ok, Bool.false_eq_true, if_false, nNext_e, sq_nx, nAsg_e, i1, m1, add_ii, k1, g0, asg_nx, nRet_e, j1, pw, k2, k3, k4, k5, sVar_1, k6, sq_ret, outOf_ret]
def tk (n : Int) : SE := sCall F__law_take 2 0 2 (fun ws _ => ws) (aCons (sVar 0) (aCons (sC (.int n)) aNil)) aNil
theorem tk_e {n : Int} {ro : En} {h : HH} {b : Nat} (e : ro[0]? = some (some (.ref b))) : tk n ro h = F__law_take [.ref b, .int n] h := by
  unfold tk
  simp [sVar_e e]
/-! ### names drawn -/
def abcS : Str := "abcdefghijklmnopqrstuvwxyz"
theorem abc_list : abcS.cps.toList = (List.range 26).map fun i => 97 + i := by decide +kernel
theorem abc_at {i : Nat} (l : i < 26) {h : HH} : bIx (.str abcS) (.int (i : Nat)) h = .ok (.str ⟨#[97 + i]⟩) h :=
  str_at (by rw [abc_list, List.getElem?_map, List.getElem?_range l]; rfl) (by decide +kernel)
def ahS : Str := "abcdefgh"
theorem ah_list : ahS.cps.toList = (List.range 8).map fun i => 97 + i := by decide +kernel
theorem ah_at {i : Nat} (l : i < 8) {h : HH} : bIx (.str ahS) (.int (i : Nat)) h = .ok (.str ⟨#[97 + i]⟩) h :=
  str_at (by rw [ah_list, List.getElem?_map, List.getElem?_range l]; rfl) (by decide +kernel)
def letE : SE := sLc (iRgN 1 (aCons (tk 8) aNil)) (gNm 8) tYesZ (sBin bIx (sVar 2) (tk 26)) [8]
theorem let_lc {b : Nat} {h : HH} {a1 a3 a4 a5 a6 a7 a8 : Option Val} (B : BagK b h) : ∃ (cs : List Nat) (h' : HH), letE [some (.ref b), a1, some (.str abcS), a3, a4, a5, a6, a7, a8] h = .ok (.lst ((cs.map fun c => (⟨#[c]⟩ : Str)).map Val.str)) h' ∧ cs.length ≤ 7 ∧ (∀ c ∈ cs, 97 ≤ c ∧ c < 123) ∧ Aft b h h' := by
  obtain ⟨v, h1, t1, v0, v1, A1⟩ := ev_take (many := 8) B (by decide) (by decide)
  obtain ⟨n, rfl⟩ := Int.eq_ofNat_of_zero_le v0
  have rn : iRgN 1 (aCons (tk 8) aNil) [some (.ref b), a1, some (.str abcS), a3, a4, a5, a6, a7, a8] h = .ok (.st (nums 0 n), n) h1 := iRg1_ev (by rw [tk_e rfl, t1]) (by omega)
  obtain ⟨zs, h', e, lz, hz, p1⟩ := lc_draw (g := gNm 8) (m := sBin bIx (sVar 2) (tk 26)) (ro := [some (.ref b), a1, some (.str abcS), a3, a4, a5, a6, a7, none]) (ys := nums 0 n) (fun _ g => Aft b h1 g) (fun _ y => ∃ c : Nat, y = .str ⟨#[c]⟩ ∧ 97 ≤ c ∧ c < 123)
    (fun i w g e A => by
      obtain ⟨v, g', t2, v0, v1, A2⟩ := ev_take (many := 26) A.bag (by decide) (by decide)
      obtain ⟨c, rfl⟩ := Int.eq_ofNat_of_zero_le v0
      refine ⟨[some (.ref b), a1, some (.str abcS), a3, a4, a5, a6, a7, some w], .str ⟨#[97 + c]⟩, g', rfl, ?_, ⟨97 + c, rfl, by omega, by omega⟩, A.trans A2⟩
      have tt := tk_e (n := 26) (ro := [some (.ref b), a1, some (.str abcS), a3, a4, a5, a6, a7, some w]) (h := g) (b := b) rfl
      simp -implicitDefEqProofs only [sBin_e, sVar_s, sVar_0, ob_ok, tt, t2, abc_at (show c < 26 by omega)])
    n 0 [] h1 (by rw [nums_len]; omega) (Aft.refl A1.bag)
  have key : ∀ w ∈ zs, ∃ c : Nat, (97 ≤ c ∧ c < 123) ∧ w = .str ⟨#[c]⟩ := by
    intro w hw
    obtain ⟨j, hj, rfl⟩ := List.getElem_of_mem hw
    obtain ⟨c, e, q⟩ := hz j _ (List.getElem?_eq_getElem hj)
    exact ⟨c, q, e⟩
  obtain ⟨cs, rfl, hcs⟩ := vals_of (f := fun c : Nat => Val.str ⟨#[c]⟩) key
  refine ⟨cs, h', ?_, by rw [List.length_map] at lz; omega, hcs, A1.trans p1⟩
  show sLc _ _ _ _ _ _ _ = _
  rw [sLc_eq rn]
  have e' : lcTurns (gNm 8) tYesZ (sBin bIx (sVar 2) (tk 26)) (wipeN [some (.ref b), a1, some (.str abcS), a3, a4, a5, a6, a7, a8] [8]) (.st (nums 0 n)) n 0 [] h1 = .ok ([] ++ cs.map fun c => Val.str ⟨#[c]⟩) h' := e
  rw [e']
  simp only [ob_ok, ret_e, List.nil_append, List.map_map]
  rfl
def WORDS : List Str := ["part", "put", "back", "x", "add", "go", "abcdefgh", "say"]
theorem words_ok : ∀ w ∈ WORDS.map Val.str, ∃ y, w = .str y ∧ nameB y = true := by
  have : WORDS.all nameB = true := by decide +kernel
  intro w hw
  obtain ⟨y, hy, rfl⟩ := List.mem_map.mp hw
  exact ⟨y, rfl, List.all_eq_true.mp this y hy⟩
theorem own_name {cs : List Nat} {k : Nat} (l : cs.length ≤ 7) (hc : ∀ c ∈ cs, 97 ≤ c ∧ c < 123) (hk : k < 8) : nameB ((⟨cs.toArray⟩ : Str) ++ ⟨#[97 + k]⟩) = true := by
  have e : TL.tl ((⟨cs.toArray⟩ : Str) ++ ⟨#[97 + k]⟩) = cs ++ [97 + k] := by rw [TL.tl_append]
  refine name_iff.mpr ⟨?_, ?_, ?_⟩
  · rw [len_tl, e]; simp
  · rw [len_tl, e]; simp; omega
  · rw [e]
    intro c m
    rcases List.mem_append.mp m with m | m
    · exact hc c m
    · have := List.mem_singleton.mp m
      omega
def nBody : SS := (nSeq (nSet 5 (sBin bAdd (sSm mJoin (sC (.str "")) letE) (sBin bIx (sC (.str ahS)) (sVar 4)))) (nSeq (nSet 6 (sArgs fLst (aCons (sC (.str "part")) (aCons (sC (.str "put")) (aCons (sC (.str "back")) (aCons (sC (.str "x")) (aCons (sC (.str "add")) (aCons (sC (.str "go")) (aCons (sC (.str "abcdefgh")) (aCons (sC (.str "say")) aNil)))))))))) (nSeq (nExpr (sMtL mApp (sVar 3) (aCons (sBin bIx (sArgs fLst (aCons (sVar 5) (aCons (sBin bIx (sVar 6) (sVar 4)) aNil))) (sArgs fInt (aCons (sBin bEq (tk 3) (sC (.int 0))) aNil))) aNil))) nNext)))
theorem name_turn {b q k : Nat} {h : HH} {a1 a5 a6 a7 a8 : Option Val} {ys : List Str} (B : BagK b h) (hq : q ≠ b) (e : h[q]? = some (.lst (ys.map Val.str))) (l : ys.length ≤ 100) (hk : k < 8) :
    ∃ a5' a6' y h', nBody [some (.ref b), a1, some (.str abcS), some (.ref q), some (.int (k : Nat)), a5, a6, a7, a8] h = .go .nx [some (.ref b), a1, some (.str abcS), some (.ref q), some (.int (k : Nat)), a5', a6', a7, a8] h' ∧ nameB y = true ∧ h'[q]? = some (.lst ((ys ++ [y]).map Val.str)) ∧ ∃ h2, Aft b h h2 ∧ h' = h2.set q (.lst ((ys ++ [y]).map Val.str)) := by
  have ql : q < h.length := (List.getElem?_eq_some_iff.mp e).1
  obtain ⟨cs, h1, e1, lc, hc, A1⟩ := let_lc (a1 := a1) (a3 := some (.ref q)) (a4 := some (.int (k : Nat))) (a5 := a5) (a6 := a6) (a7 := a7) (a8 := a8) B
  have jn : mJoin (.str "") (.lst ((cs.map fun c => (⟨#[c]⟩ : Str)).map Val.str)) h1 = .ok (.str ⟨cs.toArray⟩) h1 := by
    rw [← join_one cs]
    refine join_ev rfl (by decide +kernel) (by simp; omega) fun y hy => ?_
    obtain ⟨c, _, rfl⟩ := List.mem_map.mp hy
    show 1 ≤ 1000
    omega
  have ad : bAdd (.str ⟨cs.toArray⟩) (.str ⟨#[97 + k]⟩) h1 = .ok (.str ((⟨cs.toArray⟩ : Str) ++ ⟨#[97 + k]⟩)) h1 := add_ss (by
    have : (⟨cs.toArray⟩ : Str).length = cs.length := by rw [len_tl]
    have : (⟨#[97 + k]⟩ : Str).length = 1 := rfl
    omega)
  have on := own_name lc hc hk
  generalize (⟨cs.toArray⟩ : Str) ++ ⟨#[97 + k]⟩ = own at ad on
  have fw : fLst [.str "part", .str "put", .str "back", .str "x", .str "add", .str "go", .str "abcdefgh", .str "say"] h1 = .ok (.lst (WORDS.map Val.str)) h1 := fLst_ok (by simp)
  obtain ⟨w, hw, ixw⟩ := ix_any (xs := WORDS.map Val.str) (h := h1) (v := (k : Nat)) (by omega) (by have : (WORDS.map Val.str).length = 8 := rfl; omega)
  obtain ⟨y2, rfl, hy2⟩ := words_ok w hw
  have fl : fLst [.str own, .str y2] h1 = .ok (.lst [.str own, .str y2]) h1 := fLst_ok (by simp)
  obtain ⟨v, h2, t2, v0, v1, A2⟩ := ev_take (many := 3) A1.bag (by decide) (by decide)
  obtain ⟨y, hy, ixy⟩ : ∃ y, nameB y = true ∧ bIx (.lst [.str own, .str y2]) (.int (if decide (v = 0) = true then 1 else 0)) h2 = .ok (.str y) h2 := by
    by_cases c : v = 0
    · exact ⟨y2, hy2, by rw [decide_eq_true c]; exact ix_l (i := 1) rfl⟩
    · exact ⟨own, on, by rw [decide_eq_false c]; exact ix_l (i := 0) rfl⟩
  have A := A1.trans A2
  have g1 : h1[q]? = some (.lst (ys.map Val.str)) := (A1.kp.2 q ql hq).trans e
  have g2 : h2[q]? = some (.lst (ys.map Val.str)) := (A.kp.2 q ql hq).trans e
  have ap := app_l (y := .str y) g2 (by simp; omega)
  have em : ys.map Val.str ++ [.str y] = (ys ++ [y]).map Val.str := by rw [List.map_append]; rfl
  rw [em] at ap
  have m := mtL_r (f := mApp) (ra := aCons (sBin bIx (sArgs fLst (aCons (sVar 5) (aCons (sBin bIx (sVar 6) (sVar 4)) aNil))) (sArgs fInt (aCons (sBin bEq (tk 3) (sC (.int 0))) aNil))) aNil) (ro := [some (.ref b), a1, some (.str abcS), some (.ref q), some (.int (k : Nat)), some (.str own), some (.lst (WORDS.map Val.str)), a7, a8]) g1
  have tt := tk_e (n := 3) (ro := [some (.ref b), a1, some (.str abcS), some (.ref q), some (.int (k : Nat)), some (.str own), some (.lst (WORDS.map Val.str)), a7, a8]) (h := h1) (b := b) rfl
  refine ⟨some (.str own), some (.lst (WORDS.map Val.str)), y, h2.set q (.lst ((ys ++ [y]).map Val.str)), ?_, hy, set_get g2, h2, A, rfl⟩
  simp -implicitDefEqProofs only [nBody, nSeq_e, nSet_e, sBin_e, sSm_s, sC_e, ob_ok, bind_e, e1, jn, sVar_s, sVar_0, ah_at hk, ad, sb_ok, sq_nx, List.set_cons_zero, List.set_cons_succ, sArgs_e, aCons_e, aNil_e, fw, nExpr_e, sMtL_e, m, ixw, fl, tt, t2, eq_ii, fint_b, ixy, ap, nNext_e]
/-- each name once -/
def nub : List Str → List Str → List Str
  | _, [] => []
  | pre, x :: xs => if x ∈ pre then nub (pre ++ [x]) xs else x :: nub (pre ++ [x]) xs
theorem nub_in {x : Str} {xs pre : List Str} (c : x ∈ pre) : nub pre (x :: xs) = nub (pre ++ [x]) xs := by
  show (if x ∈ pre then nub (pre ++ [x]) xs else x :: nub (pre ++ [x]) xs) = _
  rw [if_pos c]
theorem nub_out {x : Str} {xs pre : List Str} (c : ¬ x ∈ pre) : nub pre (x :: xs) = x :: nub (pre ++ [x]) xs := by
  show (if x ∈ pre then nub (pre ++ [x]) xs else x :: nub (pre ++ [x]) xs) = _
  rw [if_neg c]
theorem nub_mem {x : Str} : ∀ {xs pre : List Str}, x ∈ nub pre xs → x ∈ xs ∧ x ∉ pre
  | [], _, h => nomatch h
  | y :: xs, pre, h => by
    unfold nub at h
    split at h
    · have := nub_mem h
      exact ⟨List.mem_cons_of_mem _ this.1, fun m => this.2 (List.mem_append_left _ m)⟩
    · rename_i c
      rcases List.mem_cons.mp h with rfl | h
      · exact ⟨List.mem_cons_self, c⟩
      · have := nub_mem h
        exact ⟨List.mem_cons_of_mem _ this.1, fun m => this.2 (List.mem_append_left _ m)⟩
theorem nub_nd : ∀ (xs pre : List Str), (nub pre xs).Nodup
  | [], _ => List.nodup_nil
  | y :: xs, pre => by
    unfold nub
    split
    · exact nub_nd xs _
    · refine List.nodup_cons.mpr ⟨fun m => ?_, nub_nd xs _⟩
      exact (nub_mem m).2 (List.mem_append_right _ (List.mem_singleton.mpr rfl))
theorem nub_len : ∀ (xs pre : List Str), (nub pre xs).length ≤ xs.length
  | [], _ => Nat.le_refl _
  | y :: xs, pre => by
    unfold nub
    split
    · exact Nat.le_succ_of_le (nub_len xs _)
    · rw [List.length_cons, List.length_cons]
      exact Nat.succ_le_succ (nub_len xs _)
theorem nub_ne {xs : List Str} (h : 1 ≤ xs.length) : 1 ≤ (nub [] xs).length := by
  cases xs with
  | nil => simp at h
  | cons x xs =>
    unfold nub
    rw [if_neg (by simp)]
    simp
theorem lc_nub {q : Nat} {a0 a1 a2 a5 a6 a8 : Option Val} {h : HH} {all : List Str} (e : h[q]? = some (.lst (all.map Val.str))) : ∀ (xs pre : List Str) (acc : List Val), all = pre ++ xs →
    lcTurns (gTp 2 (gsCons (gNm 4) (gsCons (gNm 7) gsNil))) (cBin (bIn true) (sVar 7) (sSl (sVar 3) oNone (oSome (sVar 4)))) (sVar 7) [a0, a1, a2, some (.ref q), none, a5, a6, none, a8] (.den q) xs.length pre.length acc h = .ok (acc ++ (nub pre xs).map Val.str) h
  | [], pre, acc, ea => by
    rw [List.append_nil] at ea
    subst ea
    unfold lcTurns
    show (match nxt (.den q) all.length h with | some none => Out.ok acc h | _ => .bad) = _
    have : nxt (.den q) all.length h = some none := by
      show (match h[q]? with | some (.lst xs) => some (xs[all.length]?.map _) | _ => none) = _
      rw [e]
      simp
    rw [this]
    simp [nub]
  | x :: xs, pre, acc, ea => by
    have ih := fun acc => lc_nub e xs (pre ++ [x]) acc (by rw [ea]; simp) (a0 := a0) (a1 := a1) (a2 := a2) (a5 := a5) (a6 := a6) (a8 := a8)
    rw [List.length_append, List.length_singleton] at ih
    rw [List.length_cons]
    unfold lcTurns
    have nx : nxt (.den q) pre.length h = some (some (.tup [.int (pre.length : Nat), .str x])) := by
      show (match h[q]? with | some (.lst xs) => some (xs[pre.length]?.map _) | _ => none) = _
      rw [e, ea]
      simp
    have g : gTp 2 (gsCons (gNm 4) (gsCons (gNm 7) gsNil)) (.tup [.int (pre.length : Nat), .str x]) [a0, a1, a2, some (.ref q), none, a5, a6, none, a8] h = .go .nx [a0, a1, a2, some (.ref q), some (.int (pre.length : Nat)), a5, a6, some (.str x), a8] h := rfl
    have sl : bSl (.ref q) none (some ((pre.length : Nat) : Int)) h = .ok (.lst (pre.map Val.str)) h := by
      show (match lsts (.ref q) h with
        | some xs => Out.ok (Val.lst (cutW xs none (some ((pre.length : Nat) : Int)))) h
        | none => .bad) = _
      have : lsts (.ref q) h = some (all.map Val.str) := by
        show (match h[q]? with | some (.lst xs) => some xs | _ => none) = _
        rw [e]
      rw [this]
      dsimp only
      have : cutW (all.map Val.str) none (some ((pre.length : Nat) : Int)) = pre.map Val.str := by
        show ((all.map Val.str).drop (HT.sIx (all.map Val.str).length 0 none)).take (HT.sIx (all.map Val.str).length (all.map Val.str).length (some ((pre.length : Nat) : Int)) - HT.sIx (all.map Val.str).length 0 none) = _
        rw [HT.sIx_nat, HT.sIx_none, List.length_map, List.drop_zero, Nat.sub_zero, ea, Nat.min_eq_left (by simp), List.map_append, List.take_left' (by simp)]
      rw [this]
    have fx : (pre.map Val.str).all flat = true := by
      rw [List.all_map, List.all_eq_true]
      exact fun _ _ => rfl
    have ni := notin_l (w := .str x) (xs := pre.map Val.str) (h := h) rfl fx
    have ea2 : ((pre.map Val.str).any fun y => eqF y (.str x)) = decide (x ∈ pre) := by
      have : ((pre.map Val.str).any fun y => eqF y (.str x)) = anyS pre x := rfl
      rw [this, anyS_eq, Bool.eq_iff_iff, decide_eq_true_eq, List.any_eq_true]
      constructor
      · rintro ⟨y, hy, q⟩
        rw [beq_iff_eq] at q
        exact q ▸ hy
      · intro m
        exact ⟨x, m, by simp⟩
    rw [ea2] at ni
    rw [nx]
    simp -implicitDefEqProofs only [g, cBin_e, sVar_s, sVar_0, ob_ok, sSl_e, oNone_e, oSome_e, unI_i, sl, ni, unB_bl]
    by_cases c : x ∈ pre
    · rw [decide_eq_true c]
      simp -implicitDefEqProofs only [Bool.not_true, Bool.false_eq_true, if_false]
      rw [ih, nub_in c]
    · rw [decide_eq_false c]
      simp -implicitDefEqProofs only [Bool.not_false, if_true]
      rw [ih]
      rw [nub_out c]
      simp
end K68
set_option Elab.async false
set_option maxRecDepth 100000
set_option linter.unusedVariables false
set_option linter.unusedSimpArgs false
namespace K68
open PySem PySem.Spec PyProof.Rows L2 Z
def nubE : SE := sLc (iEn (aCons (sVar 3) aNil)) (gTp 2 (gsCons (gNm 4) (gsCons (gNm 7) gsNil))) (cBin (bIn true) (sVar 7) (sSl (sVar 3) oNone (oSome (sVar 4)))) (sVar 7) [4, 7]
theorem names_is : m__law_names = (nSeq (nSet 2 (sC (.str abcS))) (nSeq (nSet 3 (sArgs fNew aNil)) (nSeq (nFor (iRgN 1 (aCons (sVar 1) aNil)) (gNm 4) nBody) (nSeq (nRet nubE) nNext)))) := rfl
/-- names that may stand -/
structure Nms (xs : List Str) : Prop where
  nm : ∀ x ∈ xs, nameB x = true
  nd : xs.Nodup
theorem ev_names {b n : Nat} {h : HH} (B : BagK b h) (hn : n ≤ 8) : ∃ (xs : List Str) (h' : HH), F__law_names [.ref b, .int (n : Nat)] h = .ok (.lst (xs.map Val.str)) h' ∧ Nms xs ∧ xs.length ≤ n ∧ (1 ≤ n → 1 ≤ xs.length) ∧ Aft b h h' := by
  have bl := B.lt
  have nw : fNew [] h = .ok (.ref h.length) (h ++ [.lst []]) := fNew_ok (by simp)
  have A1 := Aft.new (x := .lst []) B
  have e1 : (h ++ [Ob.lst []])[h.length]? = some (.lst (([] : List Str).map Val.str)) := by rw [List.getElem?_concat_length]; rfl
  generalize h ++ [Ob.lst []] = h1 at nw A1 e1
  obtain ⟨q, eq⟩ : ∃ q, q = h.length := ⟨_, rfl⟩
  rw [← eq] at nw e1
  have hqb : q ≠ b := by omega
  obtain ⟨ro', h', el, a4, a5, a6, a7, a8, ys, er, e2, l2, n2, A2⟩ := turns_inv (g := gNm 4) (body := nBody) (x := .st (nums 0 n)) (n := n)
    (fun i ro g => ∃ (a4 a5 a6 a7 a8 : Option Val) (ys : List Str), ro = [some (.ref b), some (.int (n : Nat)), some (.str abcS), some (.ref q), a4, a5, a6, a7, a8] ∧ g[q]? = some (.lst (ys.map Val.str)) ∧ ys.length = i ∧ (∀ y ∈ ys, nameB y = true) ∧ Aft b h g)
    (fun i ro g ⟨a4, a5, a6, a7, a8, ys, er, e, l, ny, A⟩ hi => by
      subst er
      obtain ⟨b5, b6, y, g', e3, hy, e4, g2, A3, eg⟩ := name_turn (k := i) (a1 := some (.int (n : Nat))) (a5 := a5) (a6 := a6) (a7 := a7) (a8 := a8) A.bag hqb e (by omega) (by omega)
      rw [← Int.zero_add ((i : Nat) : Int)] at e3
      refine ⟨.int (0 + (i : Nat)), _, g, _, g', by show some (nums 0 n)[i]? = _; rw [nums_get hi], rfl, e3, ⟨_, _, _, _, _, ys ++ [y], rfl, e4, by simp [l], ?_, ?_⟩⟩
      · intro z hz
        rcases List.mem_append.mp hz with hz | hz
        · exact ny z hz
        · rw [List.mem_singleton.mp hz]; exact hy
      · rw [eg]
        exact (A.trans A3).put (by omega) hqb)
    (fun ro g _ => by show some (nums 0 n)[n]? = _; rw [nums_end]) n 0 [some (.ref b), some (.int (n : Nat)), some (.str abcS), some (.ref q), none, none, none, none, none] h1 rfl ⟨_, _, _, _, _, [], rfl, e1, rfl, (fun _ h => nomatch h), A1⟩
  subst er
  have lc := lc_nub (a0 := some (.ref b)) (a1 := some (.int (n : Nat))) (a2 := some (.str abcS)) (a5 := a5) (a6 := a6) (a8 := a8) e2 ys [] [] rfl
  have ie : iEn (aCons (sVar 3) aNil) [some (.ref b), some (.int (n : Nat)), some (.str abcS), some (.ref q), a4, a5, a6, a7, a8] h' = .ok (.den q, ys.length) h' := by
    have : fEn [.ref q] h' = .ok (.den q, ys.length) h' := by
      show (match h'[q]? with
        | some (.lst xs) => Out.ok (Itm.den q, xs.length) h'
        | _ => .bad) = _
      rw [e2]
      simp
    simp -implicitDefEqProofs only [iEn_e, aCons_e, sVar_s, sVar_0, aNil_e, ob_ok, this]
  have hc : nubE [some (.ref b), some (.int (n : Nat)), some (.str abcS), some (.ref q), a4, a5, a6, a7, a8] h' = .ok (.lst ((nub [] ys).map Val.str)) h' := by
    show sLc _ _ _ _ _ _ _ = _
    rw [sLc_eq ie]
    have lc' : lcTurns (gTp 2 (gsCons (gNm 4) (gsCons (gNm 7) gsNil))) (cBin (bIn true) (sVar 7) (sSl (sVar 3) oNone (oSome (sVar 4)))) (sVar 7) (wipeN [some (.ref b), some (.int (n : Nat)), some (.str abcS), some (.ref q), a4, a5, a6, a7, a8] [4, 7]) (.den q) ys.length 0 [] h' = .ok ([] ++ (nub [] ys).map Val.str) h' := lc
    rw [lc']
    simp only [ob_ok, ret_e, List.nil_append]
  refine ⟨nub [] ys, h', ?_, ⟨fun x hx => n2 x (nub_mem hx).1, nub_nd _ _⟩, by have := nub_len ys []; omega, fun h1 => nub_ne (by omega), A2⟩
  rw [e__law_names, names_is]
  have rn : iRgN 1 (aCons (sVar 1) aNil) [some (.ref b), some (.int (n : Nat)), some (.str abcS), some (.ref q), none, none, none, none, none] h1 = .ok (.st (nums 0 n), n) h1 := iRg1_ev rfl (by omega)
  simp -implicitDefEqProofs only [nSeq_e, nSet_e, sC_e, sb_ok, sq_nx, List.set_cons_zero, List.set_cons_succ, sArgs_e, aNil_e, ob_ok, nw, nFor_e, rn, el, nRet_e, hc, sq_ret, outOf_ret]
/-! ### worths -/
theorem ev_mkworth {b : Nat} {h : HH} (B : BagK b h) : ∃ (i : Int) (h' : HH), F__law_worth [.ref b] h = .ok (.int i) h' ∧ i.natAbs ≤ 10 ^ 12 ∧ Aft b h h' := by
  obtain ⟨v, h1, t1, a1, b1, A1⟩ := ev_take (many := 6) B (by decide) (by decide)
  rw [e__law_worth]
  by_cases c : v < 3
  · obtain ⟨w, h2, t2, a2, b2, A2⟩ := ev_take (many := 33) A1.bag (by decide) (by decide)
    refine ⟨w - 16, h2, ?_, by omega, A1.trans A2⟩
    simp -implicitDefEqProofs only [m__law_worth, nSeq_e, nSet_e, sCall_e, aCons_e, sVar_0, sC_e, aNil_e, ob_ok, List.length_cons, List.length_nil, if_true, and_self, t1, sb_ok, sq_nx, List.set_cons_zero, List.set_cons_succ, nIf_e, cBin_e, sVar_1, bOrd_e, unB_bl, decide_eq_true c, nRet_e, sBin_e, t2, sub_ii, sq_ret, outOf_ret]
  · have p9 : bPow (.int 10) (.int 9) h1 = .ok (.int (10 ^ 9)) h1 := pow_ii (n := 4) (j := 9) (by decide) (by decide)
    obtain ⟨x, h2, t2, a2, b2, A2⟩ := ev_take (many := 10 ^ 9) A1.bag (by decide) (by decide)
    have p12 : bPow (.int 10) (.int 12) h2 = .ok (.int (10 ^ 12)) h2 := pow_ii (n := 4) (j := 12) (by decide) (by decide)
    have p6 : bPow (.int 10) (.int 6) h2 = .ok (.int (10 ^ 6)) h2 := pow_ii (n := 4) (j := 6) (by decide) (by decide)
    obtain ⟨y, h3, t3, a3, b3, A3⟩ := ev_take (many := 10 ^ 6) A2.bag (by decide) (by decide)
    have fl : fLst [.int x, .int (10 ^ 12), .int (10 ^ 12 - y)] h3 = .ok (.lst [.int x, .int (10 ^ 12), .int (10 ^ 12 - y)]) h3 := fLst_ok (by simp)
    obtain ⟨g, ix, g0, g1⟩ : ∃ g : Int, bIx (.lst [.int x, .int (10 ^ 12), .int (10 ^ 12 - y)]) (.int (v - 3)) h3 = .ok (.int g) h3 ∧ 0 ≤ g ∧ g ≤ 10 ^ 12 := by
      obtain ⟨w, hw, e⟩ := ix_any (xs := [.int x, .int (10 ^ 12), .int (10 ^ 12 - y)]) (v := v - 3) (h := h3) (by omega) (by simp; omega)
      simp only [List.mem_cons, List.not_mem_nil, or_false] at hw
      rcases hw with rfl | rfl | rfl
      · exact ⟨_, e, a2, by omega⟩
      · exact ⟨_, e, by decide, by decide⟩
      · exact ⟨_, e, by omega, by omega⟩
    have f2 : fLst [.int 1, .int (-1)] h3 = .ok (.lst [.int 1, .int (-1)]) h3 := fLst_ok (by simp)
    obtain ⟨z, h4, t4, a4, b4, A4⟩ := ev_take (many := 2) A3.bag (by decide) (by decide)
    obtain ⟨s, ix2, hs⟩ : ∃ s : Int, bIx (.lst [.int 1, .int (-1)]) (.int z) h4 = .ok (.int s) h4 ∧ (s = 1 ∨ s = -1) := by
      obtain ⟨w, hw, e⟩ := ix_any (xs := [.int 1, .int (-1)]) (v := z) (h := h4) a4 (by simpa using b4)
      simp only [List.mem_cons, List.not_mem_nil, or_false] at hw
      rcases hw with rfl | rfl
      · exact ⟨_, e, .inl rfl⟩
      · exact ⟨_, e, .inr rfl⟩
    have ml : bMul (.int g) (.int s) h4 = .ok (.int (g * s)) h4 := mul_ii (.inl ⟨by omega, by omega⟩)
    have ng : uNeg (.int 1) h3 = .ok (.int (-1)) h3 := rfl
    refine ⟨g * s, h4, ?_, ?_, ((A1.trans A2).trans A3).trans A4⟩
    · simp -implicitDefEqProofs only [m__law_worth, nSeq_e, nSet_e, sCall_e, aCons_e, sVar_0, sC_e, aNil_e, ob_ok, List.length_cons, List.length_nil, if_true, and_self, t1, sb_ok, sq_nx, List.set_cons_zero, List.set_cons_succ, nIf_e, cBin_e, sVar_1, bOrd_e, unB_bl, decide_eq_false c, Bool.false_eq_true, if_false, nNext_e, sBin_e, sArgs_e, p9, t2, p12, p6, t3, sub_ii, fl, ix, nRet_e, sVar_s, sUn_e, ng, f2, t4, ix2, ml, sq_ret, outOf_ret]
    · rcases hs with rfl | rfl
      · rw [Int.mul_one]; omega
      · omega
/-! ### rows -/
theorem rowB_two {x : Str} {b : Val} {a n : Int} {called : List Val} (h : ¬ anyS ALONE x = true) : rowB (.tup [.str x, b]) a n called = (if x = "put" then isWorth b else if x = "call" then (isName b && called.any fun y => eqF y b) else if anyS ["go", "if", "try"] x = true then led x b a n else anyS ["get", "set", "look", "change"] x && isName b) := by
  show (if anyS ALONE x = true then _ else _) = _
  rw [if_neg h]
def RowG (a n : Nat) (called : List Str) (r : Row) : Prop := r.ok ∧ rowB r.val (a : Nat) (n : Nat) (called.map Val.str) = true
theorem rg_put {a n : Nat} {called : List Str} {i : Int} (h : i.natAbs ≤ 10 ^ 12) : RowG a n called (.put i) := by
  refine ⟨h, ?_⟩
  show rowB (.tup [.str "put", .int i]) _ _ _ = true
  rw [rowB_two (by decide +kernel), if_pos rfl]
  show decide ((if i < 0 then -i else i) ≤ 1000000000000) = true
  rw [decide_eq_true_eq]
  split <;> omega
theorem rg_call {a n : Nat} {called : List Str} {y : Str} (h : nameB y = true) (hm : y ∈ called) : RowG a n called (.nmd "call" y) := by
  refine ⟨⟨by decide +kernel, h⟩, ?_⟩
  show rowB (.tup [.str "call", .str y]) _ _ _ = true
  rw [rowB_two (by decide +kernel), if_neg (by decide +kernel), if_pos rfl]
  show (nameB y && anyS called y) = true
  rw [h, anyS_eq, Bool.true_and]
  exact List.any_eq_true.mpr ⟨y, hm, by simp⟩
theorem rg_named {a n : Nat} {called : List Str} {x y : Str} (hx : x ∈ (["get", "set", "look", "change"] : List Str)) (h : nameB y = true) : RowG a n called (.nmd x y) := by
  have key : ∀ z : Str, ¬ anyS ALONE z = true → ¬ z = "put" → ¬ z = "call" → ¬ anyS ["go", "if", "try"] z = true → anyS ["get", "set", "look", "change"] z = true → rowB (.tup [.str z, .str y]) (a : Nat) (n : Nat) (called.map Val.str) = true := by
    intro z h1 h2 h3 h4 h5
    rw [rowB_two h1, if_neg h2, if_neg h3, if_neg h4, h5]
    exact h
  have hx' : x = "get" ∨ x = "set" ∨ x = "look" ∨ x = "change" := by simpa using hx
  rcases hx' with rfl | rfl | rfl | rfl <;> exact ⟨⟨by decide +kernel, h⟩, key _ (by decide +kernel) (by decide +kernel) (by decide +kernel) (by decide +kernel) (by decide +kernel)⟩
theorem rg_goes {a n k : Nat} {called : List Str} {x : Str} (hx : x = "go" ∨ x = "if" ∨ (x = "try" ∧ ¬ k = a + 1)) (hk : k < n) (hn : n ≤ 60) : RowG a n called (.goes x k) := by
  have key : ∀ z : Str, ¬ anyS ALONE z = true → ¬ z = "put" → ¬ z = "call" → anyS ["go", "if", "try"] z = true → (!decide (z = "try") || !decide (((k : Nat) : Int) = (a : Nat) + 1)) = true → rowB (.tup [.str z, .int (k : Nat)]) (a : Nat) (n : Nat) (called.map Val.str) = true := by
    intro z h1 h2 h3 h4 h5
    rw [rowB_two h1, if_neg h2, if_neg h3, if_pos h4]
    show (decide ((0 : Int) ≤ (k : Nat)) && (decide (((k : Nat) : Int) < (n : Nat)) && (!decide (z = "try") || !decide (((k : Nat) : Int) = (a : Nat) + 1)))) = true
    rw [h5, decide_eq_true (by omega), decide_eq_true (by omega)]
    rfl
  rcases hx with rfl | rfl | ⟨rfl, hg⟩
  · exact ⟨⟨by decide +kernel, by omega⟩, key _ (by decide +kernel) (by decide +kernel) (by decide +kernel) (by decide +kernel) (by rw [decide_eq_false (by decide +kernel)]; rfl)⟩
  · exact ⟨⟨by decide +kernel, by omega⟩, key _ (by decide +kernel) (by decide +kernel) (by decide +kernel) (by decide +kernel) (by rw [decide_eq_false (by decide +kernel)]; rfl)⟩
  · exact ⟨⟨by decide +kernel, by omega⟩, key _ (by decide +kernel) (by decide +kernel) (by decide +kernel) (by decide +kernel) (by
      have : ¬ ((k : Nat) : Int) = (a : Nat) + 1 := by omega
      rw [decide_eq_false this]; simp)⟩
theorem rg_one {a n : Nat} {called : List Str} {x : Str} (hx : x ∈ ALONE) : RowG a n called (.one x) := by
  refine ⟨hx, ?_⟩
  have e : anyS ALONE x = true := by
    rw [anyS_eq]
    exact List.any_eq_true.mpr ⟨x, hx, by simp⟩
  show (if anyS ALONE x = true then ([] : List Val).isEmpty else _) = true
  rw [if_pos e]
  rfl
theorem ix_strs {xs : List Str} {v : Int} {h : HH} (h0 : 0 ≤ v) (h1 : v < (xs.length : Nat)) : ∃ x ∈ xs, bIx (.lst (xs.map Val.str)) (.int v) h = .ok (.str x) h := by
  obtain ⟨w, hw, e⟩ := ix_any (xs := xs.map Val.str) (h := h) h0 (by rw [List.length_map]; exact h1)
  obtain ⟨x, hx, rfl⟩ := List.mem_map.mp hw
  exact ⟨x, hx, e⟩
theorem ev_mkrow {b a n : Nat} {h : HH} {called : List Str} (B : BagK b h) (hn : 1 ≤ n) (hn2 : n ≤ 60) (nc : Nms called) (l1 : 1 ≤ called.length) (l2 : called.length ≤ 8) :
    ∃ r h', F__law_row [.ref b, .lst (called.map Val.str), .int (a : Nat), .int (n : Nat)] h = .ok (Row.val r) h' ∧ RowG a n called r ∧ Aft b h h' := by
  obtain ⟨v, h1, t1, a1, b1, A1⟩ := ev_take (many := 8) B (by decide) (by decide)
  rw [e__law_row]
  by_cases w0 : v = 0
  · obtain ⟨i, h2, e2, hi, A2⟩ := ev_mkworth A1.bag
    have ft : fTup [.str "put", .int i] h2 = .ok (Row.val (.put i)) h2 := fTup_ok (by simp)
    refine ⟨.put i, h2, ?_, rg_put hi, A1.trans A2⟩
    simp -implicitDefEqProofs only [m__law_row, nSeq_e, nSet_e, sCall_e, aCons_e, sVar_0, sC_e, aNil_e, ob_ok, List.length_cons, List.length_nil, if_true, and_self, t1, sb_ok, sq_nx, List.set_cons_zero, List.set_cons_succ, nIf_e, cBin_e, sVar_s, eq_ii, unB_bl, decide_eq_true w0, nRet_e, sArgs_e, e2, ft, sq_ret, outOf_ret]
  · by_cases w1 : v = 1
    · obtain ⟨z, h2, t2, a2, b2, A2⟩ := ev_take (many := (called.length : Nat)) A1.bag (by omega) (by omega)
      obtain ⟨y, hy, ix⟩ := ix_strs (xs := called) (h := h2) a2 b2
      have ll : fLen [.lst (called.map Val.str)] h1 = .ok (.int (called.length : Nat)) h1 := by rw [len_lst, List.length_map]
      have ft : fTup [.str "call", .str y] h2 = .ok (Row.val (.nmd "call" y)) h2 := fTup_ok (by simp)
      refine ⟨.nmd "call" y, h2, ?_, rg_call (nc.nm y hy) hy, A1.trans A2⟩
      simp -implicitDefEqProofs only [m__law_row, nSeq_e, nSet_e, sCall_e, aCons_e, sVar_0, sC_e, aNil_e, ob_ok, List.length_cons, List.length_nil, if_true, and_self, t1, sb_ok, sq_nx, List.set_cons_zero, List.set_cons_succ, nIf_e, cBin_e, sVar_s, eq_ii, unB_bl, decide_eq_false w0, decide_eq_true w1, Bool.false_eq_true, if_false, nNext_e, nRet_e, sArgs_e, sBin_e, sVar_1, ll, t2, ix, ft, sq_ret, outOf_ret]
    · by_cases w2 : v = 2
      · obtain ⟨z, h2, t2, a2, b2, A2⟩ := ev_take (many := (n : Nat)) A1.bag (by omega) (by omega)
        obtain ⟨k, rfl⟩ := Int.eq_ofNat_of_zero_le a2
        obtain ⟨u, h3, t3, a3, b3, A3⟩ := ev_take (many := 3) A2.bag (by decide) (by decide)
        obtain ⟨x, hx, ix⟩ := ix_strs (xs := (["go", "if", "try"] : List Str)) (h := h3) a3 b3
        have fl : fLst [.str "go", .str "if", .str "try"] h2 = .ok (.lst ((["go", "if", "try"] : List Str).map Val.str)) h2 := fLst_ok (by simp)
        by_cases cg : k = a + 1
        · have ft : fTup [.str "go", .int (k : Nat)] h3 = .ok (Row.val (.goes "go" k)) h3 := fTup_ok (by simp)
          have d : (!decide (((k : Nat) : Int) = (a : Nat) + 1)) = false := by
            rw [decide_eq_true (by omega)]; rfl
          refine ⟨.goes "go" k, h3, ?_, rg_goes (.inl rfl) (by omega) hn2, (A1.trans A2).trans A3⟩
          simp -implicitDefEqProofs only [m__law_row, nSeq_e, nSet_e, sCall_e, aCons_e, sVar_0, sC_e, aNil_e, ob_ok, List.length_cons, List.length_nil, if_true, and_self, t1, sb_ok, sq_nx, List.set_cons_zero, List.set_cons_succ, nIf_e, cBin_e, sVar_s, eq_ii, unB_bl, decide_eq_false w0, decide_eq_false w1, decide_eq_true w2, Bool.false_eq_true, if_false, nNext_e, nRet_e, sArgs_e, sBin_e, t2, fl, t3, ix, sIf_e, add_ii, ne_ii, d, ft, sq_ret, outOf_ret]
        · have ft : fTup [.str x, .int (k : Nat)] h3 = .ok (Row.val (.goes x k)) h3 := fTup_ok (by simp)
          have d : (!decide (((k : Nat) : Int) = (a : Nat) + 1)) = true := by
            rw [decide_eq_false (by omega)]; rfl
          have hx' : x = "go" ∨ x = "if" ∨ x = "try" := by simpa using hx
          refine ⟨.goes x k, h3, ?_, rg_goes (by
            rcases hx' with h | h | h
            · exact .inl h
            · exact .inr (.inl h)
            · exact .inr (.inr ⟨h, cg⟩)) (by omega) hn2, (A1.trans A2).trans A3⟩
          simp -implicitDefEqProofs only [m__law_row, nSeq_e, nSet_e, sCall_e, aCons_e, sVar_0, sC_e, aNil_e, ob_ok, List.length_cons, List.length_nil, if_true, and_self, t1, sb_ok, sq_nx, List.set_cons_zero, List.set_cons_succ, nIf_e, cBin_e, sVar_s, eq_ii, unB_bl, decide_eq_false w0, decide_eq_false w1, decide_eq_true w2, Bool.false_eq_true, if_false, nNext_e, nRet_e, sArgs_e, sBin_e, t2, fl, t3, ix, sIf_e, add_ii, ne_ii, d, ft, sq_ret, outOf_ret]
      · by_cases w3 : v = 3
        · obtain ⟨u, h2, t2, a2, b2, A2⟩ := ev_take (many := 4) A1.bag (by decide) (by decide)
          obtain ⟨x, hx, ix⟩ := ix_strs (xs := (["get", "set", "look", "change"] : List Str)) (h := h2) a2 b2
          have fl : fLst [.str "get", .str "set", .str "look", .str "change"] h1 = .ok (.lst ((["get", "set", "look", "change"] : List Str).map Val.str)) h1 := fLst_ok (by simp)
          obtain ⟨ys, h3, e3, N3, l3, m3, A3⟩ := ev_names (n := 3) A2.bag (by omega)
          obtain ⟨y, hy, ix2⟩ := ix_strs (xs := ys) (v := 0) (h := h3) (by omega) (by have := m3 (by omega); omega)
          have e3' : F__law_names [.ref b, .int 3] h2 = .ok (.lst (ys.map Val.str)) h3 := e3
          have ft : fTup [.str x, .str y] h3 = .ok (Row.val (.nmd x y)) h3 := fTup_ok (by simp)
          refine ⟨.nmd x y, h3, ?_, rg_named hx (N3.nm y hy), (A1.trans A2).trans A3⟩
          simp -implicitDefEqProofs only [m__law_row, nSeq_e, nSet_e, sCall_e, aCons_e, sVar_0, sC_e, aNil_e, ob_ok, List.length_cons, List.length_nil, if_true, and_self, t1, sb_ok, sq_nx, List.set_cons_zero, List.set_cons_succ, nIf_e, cBin_e, sVar_s, eq_ii, unB_bl, decide_eq_false w0, decide_eq_false w1, decide_eq_false w2, decide_eq_true w3, Bool.false_eq_true, if_false, nNext_e, nRet_e, sArgs_e, sBin_e, fl, t2, ix, e3', ix2, ft, sq_ret, outOf_ret]
        · have f1 : fLst [.str "add", .str "less", .str "times", .str "over", .str "same", .str "below", .str "twin", .str "swap", .str "away", .str "say", .str "back", .str "throw", .str "done"] h1 = .ok (.lst [.str "add", .str "less", .str "times", .str "over", .str "same", .str "below", .str "twin", .str "swap", .str "away", .str "say", .str "back", .str "throw", .str "done"]) h1 := fLst_ok (by simp)
          have f2 : fLst [.str "lead", .str "turn"] h1 = .ok (.lst [.str "lead", .str "turn"]) h1 := fLst_ok (by simp)
          have ad : bAdd (.lst [.str "add", .str "less", .str "times", .str "over", .str "same", .str "below", .str "twin", .str "swap", .str "away", .str "say", .str "back", .str "throw", .str "done"]) (.lst [.str "lead", .str "turn"]) h1 = .ok (.lst (ALONE.map Val.str)) h1 := add_ll (by simp)
          obtain ⟨u, h2, t2, a2, b2, A2⟩ := ev_take (many := 15) A1.bag (by decide) (by decide)
          obtain ⟨x, hx, ix⟩ := ix_strs (xs := ALONE) (h := h2) a2 b2
          have ft : fTup [.str x] h2 = .ok (Row.val (.one x)) h2 := fTup_ok (by simp)
          refine ⟨.one x, h2, ?_, rg_one hx, A1.trans A2⟩
          simp -implicitDefEqProofs only [m__law_row, nSeq_e, nSet_e, sCall_e, aCons_e, sVar_0, sC_e, aNil_e, ob_ok, List.length_cons, List.length_nil, if_true, and_self, t1, sb_ok, sq_nx, List.set_cons_zero, List.set_cons_succ, nIf_e, cBin_e, sVar_s, eq_ii, unB_bl, decide_eq_false w0, decide_eq_false w1, decide_eq_false w2, decide_eq_false w3, Bool.false_eq_true, if_false, nNext_e, nRet_e, sArgs_e, sBin_e, f1, f2, ad, t2, ix, ft, sq_ret, outOf_ret]
end K68
set_option Elab.async false
set_option maxRecDepth 100000
set_option linter.unusedVariables false
set_option linter.unusedSimpArgs false
namespace K68
open PySem PySem.Spec PyProof.Rows L2 Z
/-! ### parts and programs drawn -/
def rowE : SE := sCall F__law_row 4 0 4 (fun ws _ => ws) (aCons (sVar 0) (aCons (sVar 1) (aCons (sVar 6) (aCons (sVar 4) aNil)))) aNil
def rowsE : SE := sLc (iRgN 1 (aCons (sVar 4) aNil)) (gNm 6) tYesZ rowE [6]
theorem rows_lc {b n : Nat} {h : HH} {called : List Str} {a2 a3 a5 a6 : Option Val} (B : BagK b h) (hn : 1 ≤ n) (hn2 : n ≤ 60) (nc : Nms called) (l1 : 1 ≤ called.length) (l2 : called.length ≤ 8) :
    ∃ (rs : List Row) (h' : HH), rowsE [some (.ref b), some (.lst (called.map Val.str)), a2, a3, some (.int (n : Nat)), a5, a6] h = .ok (.lst (rs.map Row.val)) h' ∧ rs.length = n ∧ (∀ (j : Nat) (r : Row), rs[j]? = some r → RowG j n called r) ∧ Aft b h h' := by
  have rn : iRgN 1 (aCons (sVar 4) aNil) [some (.ref b), some (.lst (called.map Val.str)), a2, a3, some (.int (n : Nat)), a5, a6] h = .ok (.st (nums 0 n), n) h := iRg1_ev rfl (by omega)
  obtain ⟨zs, h', e, lz, hz, p1⟩ := lc_draw (g := gNm 6) (m := rowE) (ro := [some (.ref b), some (.lst (called.map Val.str)), a2, a3, some (.int (n : Nat)), a5, none]) (ys := nums 0 n) (fun i g => Aft b h g) (fun i y => ∃ r : Row, y = r.val ∧ RowG i n called r)
    (fun i w g e A => by
      have li : i < n := by have := (List.getElem?_eq_some_iff.mp e).1; rw [nums_len] at this; exact this
      rw [nums_get li, Int.zero_add] at e
      cases e
      obtain ⟨r, g', e1, r1, A1⟩ := ev_mkrow (a := i) (n := n) (called := called) A.bag hn hn2 nc l1 l2
      refine ⟨_, r.val, g', rfl, ?_, ⟨r, rfl, r1⟩, A.trans A1⟩
      show rowE [some (.ref b), some (.lst (called.map Val.str)), a2, a3, some (.int (n : Nat)), a5, some (.int (i : Nat))] g = _
      simp -implicitDefEqProofs only [rowE, sCall_e, aCons_e, sVar_0, sVar_1, sVar_s, aNil_e, ob_ok, List.length_cons, List.length_nil, if_true, and_self, e1])
    n 0 [] h (by rw [nums_len]; omega) (Aft.refl B)
  -- the rows as data
  obtain ⟨rs, ers, hrs⟩ : ∃ rs : List Row, zs = rs.map Row.val ∧ ∀ (j : Nat) (r : Row), rs[j]? = some r → RowG j n called r := by
    have : ∀ (zs : List Val) (i : Nat), (∀ j y, zs[j]? = some y → ∃ r : Row, y = r.val ∧ RowG (i + j) n called r) → ∃ rs : List Row, zs = rs.map Row.val ∧ ∀ (j : Nat) (r : Row), rs[j]? = some r → RowG (i + j) n called r := by
      intro zs
      induction zs with
      | nil => exact fun i _ => ⟨[], rfl, fun j r e => by simp at e⟩
      | cons z zs ih =>
        intro i hz
        obtain ⟨r, rfl, hr⟩ := hz 0 z rfl
        obtain ⟨rs, rfl, hrs⟩ := ih (i + 1) fun j y e => by
          obtain ⟨r, e1, e2⟩ := hz (j + 1) y (by simpa using e)
          exact ⟨r, e1, by rwa [show i + 1 + j = i + (j + 1) by omega]⟩
        refine ⟨r :: rs, rfl, fun j r' e => ?_⟩
        cases j with
        | zero => cases e; exact hr
        | succ j =>
          have := hrs j r' (by simpa using e)
          rwa [show i + 1 + j = i + (j + 1) by omega] at this
    obtain ⟨rs, e, q⟩ := this zs 0 fun j y e => hz j y e
    exact ⟨rs, e, fun j r e => by have := q j r e; rwa [Nat.zero_add] at this⟩
  subst ers
  refine ⟨rs, h', ?_, by rw [List.length_map] at lz; exact lz, hrs, p1⟩
  show sLc _ _ _ _ _ _ _ = _
  rw [sLc_eq rn]
  have e' : lcTurns (gNm 6) tYesZ rowE (wipeN [some (.ref b), some (.lst (called.map Val.str)), a2, a3, some (.int (n : Nat)), a5, a6] [6]) (.st (nums 0 n)) n 0 [] h = .ok ([] ++ rs.map Row.val) h' := e
  rw [e']
  simp only [ob_ok, ret_e, List.nil_append]
/-- a good part -/
structure PartG (called : List Str) (p : Part) : Prop where
  ok : p.ok
  nns : p.ns.Nodup
  rows : ∀ (j : Nat) (r : Row), p.rows[j]? = some r → rowB r.val (j : Nat) (p.rows.length : Nat) (called.map Val.str) = true
def pBody : SS := (nSeq (nSet 4 (sBin bAdd (sC (.int 1)) (sCall F__law_take 2 0 2 (fun ws _ => ws) (aCons (sVar 0) (aCons (sBin bIx (sArgs fLst (aCons (sC (.int 4)) (aCons (sC (.int 12)) (aCons (sC (.int 4)) (aCons (sC (.int 60)) aNil))))) (tk 4)) aNil)) aNil))) (nSeq (nSet 5 (sArgs fTpl (aCons (sCall F__law_names 2 0 2 (fun ws _ => ws) (aCons (sVar 0) (aCons (tk 4) aNil)) aNil) aNil))) (nSeq (nExpr (sMtL mApp (sVar 2) (aCons (sArgs fTup (aCons (sVar 3) (aCons (sVar 5) (aCons (sArgs fTpl (aCons rowsE aNil)) aNil)))) aNil))) nNext)))
theorem program_is : m__law_program = (nSeq (nSet 1 (sCall F__law_names 2 0 2 (fun ws _ => ws) (aCons (sVar 0) (aCons (sBin bIx (sArgs fLst (aCons (sC (.int 1)) (aCons (sC (.int 2)) (aCons (sC (.int 3)) (aCons (sC (.int 8)) aNil))))) (tk 4)) aNil)) aNil)) (nSeq (nSet 2 (sArgs fNew aNil)) (nSeq (nFor (iVal (sVar 1)) (gNm 3) pBody) (nSeq (nRet (sArgs fTpl (aCons (sVar 2) aNil))) nNext)))) := rfl
theorem part_turnG {b p : Nat} {h : HH} {called : List Str} {nm : Str} {a4 a5 a6 : Option Val} {ps : List Val} (B : BagK b h) (bp : p ≠ b) (e1 : h[p]? = some (.lst ps)) (lp : ps.length ≤ 100) (nc : Nms called) (l1 : 1 ≤ called.length) (l2 : called.length ≤ 8) (hnm : nm ∈ called) :
    ∃ t a4' a5' h' h2, pBody [some (.ref b), some (.lst (called.map Val.str)), some (.ref p), some (.str nm), a4, a5, a6] h = .go .nx [some (.ref b), some (.lst (called.map Val.str)), some (.ref p), some (.str nm), a4', a5', a6] h' ∧ t.nm = nm ∧ PartG called t ∧ h'[p]? = some (.lst (ps ++ [t.val])) ∧ Aft b h h2 ∧ h' = h2.set p (.lst (ps ++ [t.val])) := by
  have hp : p < h.length := (List.getElem?_eq_some_iff.mp e1).1
  have fl : fLst [.int 4, .int 12, .int 4, .int 60] h = .ok (.lst [.int 4, .int 12, .int 4, .int 60]) h := fLst_ok (by simp)
  obtain ⟨v1, h1, t1, a1, b1, A1⟩ := ev_take (many := 4) B (by decide) (by decide)
  obtain ⟨m, ix, m0, m1⟩ : ∃ m : Int, bIx (.lst [.int 4, .int 12, .int 4, .int 60]) (.int v1) h1 = .ok (.int m) h1 ∧ 0 < m ∧ m ≤ 60 := by
    obtain ⟨w, hw, e⟩ := ix_any (xs := [.int 4, .int 12, .int 4, .int 60]) (v := v1) (h := h1) a1 (by simpa using b1)
    simp only [List.mem_cons, List.not_mem_nil, or_false] at hw
    rcases hw with rfl | rfl | rfl | rfl <;> exact ⟨_, e, by decide, by decide⟩
  obtain ⟨v2, h2, t2, a2, b2, A2⟩ := ev_take (many := m) A1.bag m0 (by omega)
  obtain ⟨k, rfl⟩ := Int.eq_ofNat_of_zero_le a2
  obtain ⟨v3, h3, t3, a3, b3, A3⟩ := ev_take (many := 4) A2.bag (by decide) (by decide)
  obtain ⟨j, rfl⟩ := Int.eq_ofNat_of_zero_le a3
  obtain ⟨ns, h4, e4, N4, l4, _, A4⟩ := ev_names (n := j) A3.bag (by omega)
  obtain ⟨rs, h5, e5, l5, g5, A5⟩ := rows_lc (n := 1 + k) (called := called) (a2 := some (.ref p)) (a3 := some (.str nm)) (a5 := some (.tup (ns.map Val.str))) (a6 := a6) A4.bag (by omega) (by omega) nc l1 l2
  have A := (((A1.trans A2).trans A3).trans A4).trans A5
  have f4 : h4[p]? = some (.lst ps) := ((((A1.trans A2).trans A3).trans A4).kp.2 p hp bp).trans e1
  have f5 : h5[p]? = some (.lst ps) := (A.kp.2 p hp bp).trans e1
  have ft : fTup [.str nm, .tup (ns.map Val.str), .tup (rs.map Row.val)] h5 = .ok (Part.val ⟨nm, ns, rs⟩) h5 := fTup_ok (by simp)
  have ap := app_l (y := Part.val ⟨nm, ns, rs⟩) f5 (by omega)
  have mt := mtL_r (f := mApp) (ra := aCons (sArgs fTup (aCons (sVar 3) (aCons (sVar 5) (aCons (sArgs fTpl (aCons rowsE aNil)) aNil)))) aNil) (ro := [some (.ref b), some (.lst (called.map Val.str)), some (.ref p), some (.str nm), some (.int ((1 + k : Nat) : Int)), some (.tup (ns.map Val.str)), a6]) f4
  have tt := tk_e (n := 4) (ro := [some (.ref b), some (.lst (called.map Val.str)), some (.ref p), some (.str nm), a4, a5, a6]) (h := h) (b := b) rfl
  have tt2 := tk_e (n := 4) (ro := [some (.ref b), some (.lst (called.map Val.str)), some (.ref p), some (.str nm), some (.int ((1 + k : Nat) : Int)), a5, a6]) (h := h2) (b := b) rfl
  have ad : bAdd (.int 1) (.int (k : Nat)) h2 = .ok (.int ((1 + k : Nat) : Int)) h2 := by rw [add_ii]; push_cast; rfl
  refine ⟨⟨nm, ns, rs⟩, some (.int ((1 + k : Nat) : Int)), some (.tup (ns.map Val.str)), h5.set p (.lst (ps ++ [Part.val ⟨nm, ns, rs⟩])), h5, ?_, rfl, ⟨⟨nc.nm nm hnm, by show ns.length ≤ 3; omega, N4.nm, by show 1 ≤ rs.length; omega, by show rs.length ≤ 60; omega, fun r hr => ?_⟩, N4.nd, fun j r e => by rw [show (Part.mk nm ns rs).rows.length = 1 + k from l5]; exact (g5 j r e).2⟩, set_get f5, A, rfl⟩
  · simp -implicitDefEqProofs only [pBody, nSeq_e, nSet_e, sBin_e, sC_e, ob_ok, sCall_e, aCons_e, sVar_0, sArgs_e, aNil_e, fl, tt, t1, ix, List.length_cons, List.length_nil, if_true, and_self, t2, ad, sb_ok, sq_nx, List.set_cons_zero, List.set_cons_succ, tt2, t3, e4, fTpl_l, nExpr_e, sMtL_e, sVar_s, mt, e5, ft, ap, nNext_e]
  · obtain ⟨j, hj, rfl⟩ := List.getElem_of_mem hr
    exact (g5 j _ (List.getElem?_eq_getElem hj)).1
theorem ev_mkprog {b : Nat} {h : HH} (B : BagK b h) : ∃ (qs : List Part) (h' : HH), F__law_program [.ref b] h = .ok (.tup (qs.map Part.val)) h' ∧ Good qs ∧ BagK b h' := by
  have fl : fLst [.int 1, .int 2, .int 3, .int 8] h = .ok (.lst [.int 1, .int 2, .int 3, .int 8]) h := fLst_ok (by simp)
  obtain ⟨v1, h1, t1, a1, b1, A1⟩ := ev_take (many := 4) B (by decide) (by decide)
  obtain ⟨m, ix, m0, m1⟩ : ∃ m : Nat, bIx (.lst [.int 1, .int 2, .int 3, .int 8]) (.int v1) h1 = .ok (.int (m : Nat)) h1 ∧ 1 ≤ m ∧ m ≤ 8 := by
    obtain ⟨w, hw, e⟩ := ix_any (xs := [.int 1, .int 2, .int 3, .int 8]) (v := v1) (h := h1) a1 (by simpa using b1)
    simp only [List.mem_cons, List.not_mem_nil, or_false] at hw
    rcases hw with rfl | rfl | rfl | rfl
    · exact ⟨1, e, by decide, by decide⟩
    · exact ⟨2, e, by decide, by decide⟩
    · exact ⟨3, e, by decide, by decide⟩
    · exact ⟨8, e, by decide, by decide⟩
  obtain ⟨called, h2, e2, N2, l2, m2, A2⟩ := ev_names (n := m) A1.bag (by omega)
  have lc := m2 m0
  have nw : fNew [] h2 = .ok (.ref h2.length) (h2 ++ [.lst []]) := fNew_ok (by simp)
  have A3 := Aft.new (x := .lst []) A2.bag
  have bl := A2.bag.lt
  have e3 : (h2 ++ [Ob.lst []])[h2.length]? = some (.lst (([] : List Part).map Part.val)) := by rw [List.getElem?_concat_length]; rfl
  generalize h2 ++ [Ob.lst []] = h3 at nw A3 e3
  obtain ⟨p, ep⟩ : ∃ p, p = h2.length := ⟨_, rfl⟩
  rw [← ep] at nw e3
  have hpb : p ≠ b := by omega
  obtain ⟨ro', h', el, a3, a4, a5, a6, qs, er, e4, n4, g4, B4⟩ := turns_inv (g := gNm 3) (body := pBody) (x := .st (called.map Val.str)) (n := called.length)
    (fun i ro g => ∃ (a3 a4 a5 a6 : Option Val) (qs : List Part), ro = [some (.ref b), some (.lst (called.map Val.str)), some (.ref p), a3, a4, a5, a6] ∧ g[p]? = some (.lst (qs.map Part.val)) ∧ qs.map Part.nm = called.take i ∧ (∀ q ∈ qs, PartG called q) ∧ BagK b g)
    (fun i ro g ⟨a3, a4, a5, a6, qs, er, e, nq, gq, Bg⟩ hi => by
      subst er
      have ei : called[i]? = some called[i] := List.getElem?_eq_getElem hi
      have hm := List.getElem_mem hi
      generalize called[i] = nm at ei hm
      have lq : qs.length ≤ 8 := by
        have := congrArg List.length nq
        rw [List.length_map, List.length_take] at this
        omega
      obtain ⟨t, b4, b5, g', g2, e5, et, pg, e6, A6, eg⟩ := part_turnG (a4 := a4) (a5 := a5) (a6 := a6) Bg hpb e (by rw [List.length_map]; omega) N2 lc (by omega) hm
      refine ⟨.str nm, _, g, _, g', ?_, rfl, e5, ⟨_, _, _, _, qs ++ [t], rfl, ?_, ?_, ?_, ?_⟩⟩
      · show some (called.map Val.str)[i]? = _
        rw [List.getElem?_map, ei]; rfl
      · rw [e6, List.map_append]; rfl
      · rw [List.map_append, nq, List.take_add_one, ei, ← et]; rfl
      · intro z hz
        rcases List.mem_append.mp hz with hz | hz
        · exact gq z hz
        · rw [List.mem_singleton.mp hz]; exact pg
      · rw [eg]
        obtain ⟨f, m, e, z⟩ := A6.bag
        exact ⟨f, m, by rw [List.getElem?_set_ne hpb]; exact e, z⟩)
    (fun ro g _ => by show some (called.map Val.str)[called.length]? = _; simp) called.length 0 [some (.ref b), some (.lst (called.map Val.str)), some (.ref p), none, none, none, none] h3 rfl ⟨_, _, _, _, [], rfl, e3, by simp, (fun _ h => nomatch h), A3.bag⟩
  subst er
  rw [List.take_length] at n4
  have lq : qs.length = called.length := by rw [← n4, List.length_map]
  have el' : turns (gNm 3) pBody (.st (called.map Val.str)) (called.map Val.str).length 0 [some (.ref b), some (.lst (called.map Val.str)), some (.ref p), none, none, none, none] h3 = .go .nx [some (.ref b), some (.lst (called.map Val.str)), some (.ref p), a3, a4, a5, a6] h' := by
    rw [List.length_map]; exact el
  have tt := tk_e (n := 4) (ro := [some (.ref b), none, none, none, none, none, none]) (h := h) (b := b) rfl
  refine ⟨qs, h', ?_, ⟨fun q hq => (g4 q hq).ok, by rw [n4]; exact N2.nd, fun q hq => (g4 q hq).nns, by omega, by omega, fun q hq j r e => by rw [n4]; exact (g4 q hq).rows j r e⟩, B4⟩
  rw [e__law_program, program_is]
  simp -implicitDefEqProofs only [nSeq_e, nSet_e, sCall_e, aCons_e, sVar_0, sBin_e, sArgs_e, sC_e, aNil_e, ob_ok, fl, tt, t1, ix, List.length_cons, List.length_nil, if_true, and_self, e2, sb_ok, sq_nx, List.set_cons_zero, List.set_cons_succ, nw, nFor_e, iVal_e, sVar_1, itmV_lst, el', nRet_e, sVar_s, tpl_r e4, sq_ret, outOf_ret]
/-! ### the bag -/
def bBody : SS := (nSeq (nSet 3 (sBin bMod (sBin bAdd (sBin bAdd (sBin bMul (sVar 3) (sC (.int 48271))) (sBin bMul (sBin bMod (sBin bIx (sVar 0) (sVar 4)) (sC (.int 2147483587))) (sBin bAdd (sVar 4) (sC (.int 3))))) (sVar 4)) (sC (.int 2147483629)))) nNext)
theorem bag_is : m__law_bag = (nSeq (nSet 2 (sC (.int 0))) (nSeq (nIf (cBin (bOrd fun i j => decide (i < j)) (sVar 1) (sArgs fLen (aCons (sVar 0) aNil))) (nSeq (nSet 2 (sArgs fAbs (aCons (sBin bIx (sVar 0) (sVar 1)) aNil))) nNext) nNext) (nSeq (nSet 3 (sBin bMod (sBin bPow (sBin bAdd (sBin bAdd (sBin bMod (sVar 2) (sC (.int 2147483629))) (sBin bMul (sC (.int 104729)) (sVar 1))) (sC (.int 17))) (sC (.int 5))) (sC (.int 2147483647)))) (nSeq (nFor (iRgN 1 (aCons (sArgs fMin (aCons (sArgs fLen (aCons (sVar 0) aNil)) (aCons (sC (.int 60)) aNil))) aNil)) (gNm 4) bBody) (nSeq (nIf (cBin (bOrd fun i j => decide (i < j)) (sVar 2) (sBin bPow (sC (.int 10)) (sC (.int 18)))) (nSeq (nSet 2 (sC (.int 0))) nNext) nNext) (nSeq (nRet (sArgs fNew (aCons (sVar 2) (aCons (sVar 3) aNil)))) nNext)))))) := rfl
theorem scr_len {ns : List Int} {h : HH} : fLen [.scr ns] h = .ok (.int (ns.length : Nat)) h := by
  show Out.ok (Val.int (((ns.map Val.int).length : Nat) : Int)) h = _
  rw [List.length_map]
theorem scr_at {ns : List Int} {i : Nat} {h : HH} (l : i < ns.length) : bIx (.scr ns) (.int (i : Nat)) h = .ok (.int ns[i]) h := by
  show (match L2.atI (ns.map Val.int) (i : Nat) with | some w => Out.ok w h | none => .bad) = _
  have : L2.atI (ns.map Val.int) ((i : Nat) : Int) = some (.int ns[i]) := atI_nat (by rw [List.getElem?_map, List.getElem?_eq_getElem l]; rfl)
  rw [this]
theorem bag_loop {ns : List Int} {h : HH} {a1 a2 a4 : Option Val} {n : Nat} {m : Int} (hn : n ≤ ns.length) (h60 : n ≤ 60) (m0 : 0 ≤ m) (m1 : m < 2 ^ 31) : ∃ (a4' : Option Val) (m' : Int), turns (gNm 4) bBody (.st (nums 0 n)) n 0 [some (.scr ns), a1, a2, some (.int m), a4] h = .go .nx [some (.scr ns), a1, a2, some (.int m'), a4'] h ∧ 0 ≤ m' ∧ m' < 2 ^ 31 := by
  obtain ⟨ro', h', el, a4', m', er, k0, k1, eh⟩ := turns_inv (g := gNm 4) (body := bBody) (x := .st (nums 0 n)) (n := n)
    (fun i ro g => ∃ (a4 : Option Val) (m : Int), ro = [some (.scr ns), a1, a2, some (.int m), a4] ∧ 0 ≤ m ∧ m < 2 ^ 31 ∧ g = h)
    (fun i ro g ⟨a4, m, er, m0, m1, eg⟩ hi => by
      subst er eg
      have li : i < ns.length := by omega
      have ix := scr_at (h := g) li
      generalize ns[i] = c at ix
      have c0 := Int.emod_nonneg c (show (2147483587 : Int) ≠ 0 by decide)
      have c1 := Int.emod_lt_of_pos c (show (0 : Int) < 2147483587 by decide)
      have d1 : bMod (.int c) (.int 2147483587) g = .ok (.int (c % 2147483587)) g := mod_ii (by decide)
      generalize c % 2147483587 = d at d1 c0 c1
      have x1 : bMul (.int m) (.int 48271) g = .ok (.int (m * 48271)) g := mul_ii (.inl ⟨by omega, by omega⟩)
      have x2 : bMul (.int d) (.int ((i : Nat) + 3)) g = .ok (.int (d * ((i : Nat) + 3))) g := mul_ii (.inl ⟨by omega, by omega⟩)
      have x3 : bMod (.int (m * 48271 + d * ((i : Nat) + 3) + (i : Nat))) (.int 2147483629) g = .ok (.int ((m * 48271 + d * ((i : Nat) + 3) + (i : Nat)) % 2147483629)) g := mod_ii (by decide)
      have z0 := Int.emod_nonneg (m * 48271 + d * ((i : Nat) + 3) + (i : Nat)) (show (2147483629 : Int) ≠ 0 by decide)
      have z1 := Int.emod_lt_of_pos (m * 48271 + d * ((i : Nat) + 3) + (i : Nat)) (show (0 : Int) < 2147483629 by decide)
      have e3 : bBody [some (.scr ns), a1, a2, some (.int m), some (.int (0 + (i : Nat)))] g = .go .nx [some (.scr ns), a1, a2, some (.int ((m * 48271 + d * ((i : Nat) + 3) + (i : Nat)) % 2147483629)), some (.int (0 + (i : Nat)))] g := by
        rw [Int.zero_add]
        simp -implicitDefEqProofs only [bBody, nSeq_e, nSet_e, sBin_e, sVar_s, sVar_0, sC_e, ob_ok, x1, ix, d1, add_ii, x2, x3, sb_ok, sq_nx, List.set_cons_zero, List.set_cons_succ, nNext_e]
      exact ⟨.int (0 + (i : Nat)), _, g, _, g, by show some (nums 0 n)[i]? = _; rw [nums_get hi], rfl, e3, ⟨_, _, rfl, z0, by omega, rfl⟩⟩)
    (fun ro g _ => by show some (nums 0 n)[n]? = _; rw [nums_end]) n 0 [some (.scr ns), a1, a2, some (.int m), a4] h rfl ⟨_, _, rfl, m0, m1, rfl⟩
  subst er eh
  exact ⟨a4', m', el, k0, k1⟩
theorem ev_bag {ns : List Int} {i : Nat} {h : HH} (hi : i < 8) : ∃ h', F__law_bag [.scr ns, .int (i : Nat)] h = .ok (.ref h.length) h' ∧ BagK h.length h' := by
  rw [e__law_bag, bag_is]
  have ln := scr_len (ns := ns) (h := h)
  obtain ⟨n, hn, h60, mn⟩ : ∃ n : Nat, n ≤ ns.length ∧ n ≤ 60 ∧ fMin [.int (ns.length : Nat), .int 60] h = .ok (.int (n : Nat)) h := by
    by_cases c : 60 < ns.length
    · refine ⟨60, by omega, by omega, ?_⟩
      show Out.ok (Val.int (if (60 : Int) < ((ns.length : Nat) : Int) then 60 else ((ns.length : Nat) : Int))) h = _
      rw [if_pos (by omega)]; rfl
    · refine ⟨ns.length, by omega, by omega, ?_⟩
      show Out.ok (Val.int (if (60 : Int) < ((ns.length : Nat) : Int) then 60 else ((ns.length : Nat) : Int))) h = _
      rw [if_neg (by omega)]
  have core : ∀ cell : Int, 0 ≤ cell → ∃ h', outOf ((nSeq (nSet 3 (sBin bMod (sBin bPow (sBin bAdd (sBin bAdd (sBin bMod (sVar 2) (sC (.int 2147483629))) (sBin bMul (sC (.int 104729)) (sVar 1))) (sC (.int 17))) (sC (.int 5))) (sC (.int 2147483647)))) (nSeq (nFor (iRgN 1 (aCons (sArgs fMin (aCons (sArgs fLen (aCons (sVar 0) aNil)) (aCons (sC (.int 60)) aNil))) aNil)) (gNm 4) bBody) (nSeq (nIf (cBin (bOrd fun i j => decide (i < j)) (sVar 2) (sBin bPow (sC (.int 10)) (sC (.int 18)))) (nSeq (nSet 2 (sC (.int 0))) nNext) nNext) (nSeq (nRet (sArgs fNew (aCons (sVar 2) (aCons (sVar 3) aNil)))) nNext)))) [some (.scr ns), some (.int (i : Nat)), some (.int cell), none, none] h) = .ok (.ref h.length) h' ∧ BagK h.length h' := by
    intro cell c0
    have r0 := Int.emod_nonneg cell (show (2147483629 : Int) ≠ 0 by decide)
    have r1 := Int.emod_lt_of_pos cell (show (0 : Int) < 2147483629 by decide)
    have d1 : bMod (.int cell) (.int 2147483629) h = .ok (.int (cell % 2147483629)) h := mod_ii (by decide)
    generalize cell % 2147483629 = r at d1 r0 r1
    have x1 : bMul (.int 104729) (.int (i : Nat)) h = .ok (.int (104729 * (i : Nat))) h := mul_ii (.inl ⟨by omega, by omega⟩)
    have pw : bPow (.int (r + 104729 * (i : Nat) + 17)) (.int 5) h = .ok (.int ((r + 104729 * (i : Nat) + 17) ^ 5)) h := pow_ii (n := 40) (j := 5) (by omega) (by decide)
    have d2 : bMod (.int ((r + 104729 * (i : Nat) + 17) ^ 5)) (.int 2147483647) h = .ok (.int ((r + 104729 * (i : Nat) + 17) ^ 5 % 2147483647)) h := mod_ii (by decide)
    have z0 := Int.emod_nonneg ((r + 104729 * (i : Nat) + 17) ^ 5) (show (2147483647 : Int) ≠ 0 by decide)
    have z1 := Int.emod_lt_of_pos ((r + 104729 * (i : Nat) + 17) ^ 5) (show (0 : Int) < 2147483647 by decide)
    generalize (r + 104729 * (i : Nat) + 17) ^ 5 % 2147483647 = m at d2 z0 z1
    obtain ⟨a4, m', el, k0, k1⟩ := bag_loop (a1 := some (.int (i : Nat))) (a2 := some (.int cell)) (a4 := none) (h := h) hn h60 z0 (by omega)
    have p18 : bPow (.int 10) (.int 18) h = .ok (.int (10 ^ 18)) h := pow_ii (n := 4) (j := 18) (by decide) (by decide)
    have rg : fRg [.int (n : Nat)] h = .ok (.st (nums 0 n), n) h := fRg1 (by omega)
    by_cases c : cell < 10 ^ 18
    · have nw : fNew [.int 0, .int m'] h = .ok (.ref h.length) (h ++ [.lst [.int 0, .int m']]) := fNew_ok (by simp)
      refine ⟨h ++ [.lst [.int 0, .int m']], ?_, ⟨0, m', by rw [List.getElem?_concat_length], by omega, k0, k1⟩⟩
      simp -implicitDefEqProofs only [nSeq_e, nSet_e, sBin_e, sVar_s, sVar_0, sVar_1, sC_e, ob_ok, d1, x1, add_ii, pw, d2, sb_ok, sq_nx, List.set_cons_zero, List.set_cons_succ, nFor_e, iRgN_e, aCons_e, sArgs_e, aNil_e, ln, mn, List.length_cons, List.length_nil, if_true, rg, el, nIf_e, cBin_e, p18, bOrd_e, unB_bl, decide_eq_true c, nNext_e, nRet_e, nw, sq_ret, outOf_ret]
    · have nw : fNew [.int cell, .int m'] h = .ok (.ref h.length) (h ++ [.lst [.int cell, .int m']]) := fNew_ok (by simp)
      refine ⟨h ++ [.lst [.int cell, .int m']], ?_, ⟨cell, m', by rw [List.getElem?_concat_length], c0, k0, k1⟩⟩
      simp -implicitDefEqProofs only [nSeq_e, nSet_e, sBin_e, sVar_s, sVar_0, sVar_1, sC_e, ob_ok, d1, x1, add_ii, pw, d2, sb_ok, sq_nx, List.set_cons_zero, List.set_cons_succ, nFor_e, iRgN_e, aCons_e, sArgs_e, aNil_e, ln, mn, List.length_cons, List.length_nil, if_true, rg, el, nIf_e, cBin_e, p18, bOrd_e, unB_bl, decide_eq_false c, Bool.false_eq_true, if_false, nNext_e, nRet_e, nw, sq_ret, outOf_ret]
  by_cases c : i < ns.length
  · obtain ⟨h', q⟩ := core (if ns[i] < 0 then -ns[i] else ns[i]) (by split <;> omega)
    refine ⟨h', ?_, q.2⟩
    have ix := scr_at (h := h) c
    have ab : fAbs [.int ns[i]] h = .ok (.int (if ns[i] < 0 then -ns[i] else ns[i])) h := rfl
    have cc : ((i : Nat) : Int) < (ns.length : Nat) := by omega
    rw [← q.1]
    conv => lhs; simp -implicitDefEqProofs only [nSeq_e (a := nSet 2 (sC (.int 0))), nSet_e, sC_e, sb_ok, sq_nx, List.set_cons_zero, List.set_cons_succ]
    rw [nSeq_e]
    simp -implicitDefEqProofs only [nIf_e, cBin_e, sVar_1, sArgs_e, aCons_e, sVar_0, aNil_e, ob_ok, ln, bOrd_e, unB_bl, decide_eq_true cc, sb_ok, if_true, nSeq_e (a := nSet 2 (sArgs fAbs (aCons (sBin bIx (sVar 0) (sVar 1)) aNil))), nSet_e, sBin_e, ix, ab, sq_nx, List.set_cons_zero, List.set_cons_succ, nNext_e]
  · obtain ⟨h', q⟩ := core 0 (by omega)
    refine ⟨h', ?_, q.2⟩
    have cc : ¬ ((i : Nat) : Int) < (ns.length : Nat) := by omega
    rw [← q.1]
    conv => lhs; simp -implicitDefEqProofs only [nSeq_e (a := nSet 2 (sC (.int 0))), nSet_e, sC_e, sb_ok, sq_nx, List.set_cons_zero, List.set_cons_succ]
    rw [nSeq_e]
    simp -implicitDefEqProofs only [nIf_e, cBin_e, sVar_1, sArgs_e, aCons_e, sVar_0, aNil_e, ob_ok, ln, bOrd_e, unB_bl, decide_eq_false cc, sb_ok, Bool.false_eq_true, if_false, nNext_e, sq_nx]
end K68
set_option Elab.async false
set_option maxRecDepth 100000
set_option linter.unusedVariables false
set_option linter.unusedSimpArgs false
namespace K68
open PySem PySem.Spec PyProof.Rows L2 Z
/-! ### _law_text -/
theorem int_text {i : Int} (l : i.natAbs ≤ 10 ^ 12) : PySem.intText? (numS i) = some i := by
  rcases numS_cases i with ⟨n, rfl, e⟩ | ⟨n, rfl, e⟩
  · have : (TL.numL n).length ≤ 13 := TL.numL_len (by decide) (Nat.lt_of_le_of_lt (show n ≤ 10 ^ 12 by omega) (by decide))
    exact TL.int_num (by omega)
  · have l13 : (TL.numL (n + 1)).length ≤ 13 := TL.numL_len (by decide) (Nat.lt_of_le_of_lt (show n + 1 ≤ 10 ^ 12 by omega) (by decide))
    have := PySem.intText_neg (x := numS (-((n + 1 : Nat) : Int))) (cs := TL.numL (n + 1)) e (TL.numL_digits _) (TL.numL_ne _) (by have := (word_num l).ln; omega)
    rw [TL.numL_val] at this
    exact this
theorem int_ev {i : Int} {h : HH} (l : i.natAbs ≤ 10 ^ 12) : fIntS [.str (numS i)] h = .ok (.int i) h := by
  show (match PySem.intText? (numS i) with
    | some n => if (numS i).length ≤ 640 then Out.ok (Val.int n) h else .bad
    | none => .bad) = _
  rw [int_text l]
  dsimp only
  rw [if_pos (by have := (word_num l).ln; omega)]
def tBody : SS := (nSeq (nSet 5 (sSm mSplit (sVar 4) (sC (.str " ")))) (nSeq (nIf (cAnd (cBin bNe (sBin bIx (sVar 5) (sC (.int 0))) (sC (.str "part"))) (cAnd (cBin bEq (sBin bIx (sVar 5) (sC (.int 1))) (sC (.str "put"))) (cBin bEq (tk 2) (sC (.int 0))))) (nSeq (nAsg (sSm mJoin (sC (.str " ")) (sBin bAdd (sSl (sVar 5) oNone (oSome (sC (.int 2)))) (sArgs fLst (aCons (sCall (F__law_sixteen 2) 1 0 1 (fun ws _ => ws) (aCons (sArgs fIntS (aCons (sBin bIx (sVar 5) (sC (.int 2))) aNil)) aNil) aNil) aNil)))) (gSb (sVar 2) (sVar 3))) nNext) nNext) nNext))
theorem text_is : m__law_text = (nSeq (nSet 2 (sSm mSplitN (sCall F__law_written 1 0 1 (fun ws _ => ws) (aCons (sVar 1) aNil) aNil) (sC (.str "\n")))) (nSeq (nFor (iEn (aCons (sArgs fLof (aCons (sVar 2) aNil)) aNil)) (gTp 2 (gsCons (gNm 3) (gsCons (gNm 4) gsNil))) tBody) (nSeq (nRet (sSm mJoin (sC (.str "\n")) (sVar 2))) nNext))) := rfl
theorem ix_w0 {a : Val} {r : List Val} {h : HH} : bIx (.lst (a :: r)) (.int 0) h = .ok a h := ix_l (i := 0) rfl
theorem ix_w1 {a b : Val} {r : List Val} {h : HH} : bIx (.lst (a :: b :: r)) (.int 1) h = .ok b h := ix_l (i := 1) rfl
theorem ix_w2 {a b c : Val} {r : List Val} {h : HH} : bIx (.lst (a :: b :: c :: r)) (.int 2) h = .ok c h := ix_l (i := 2) rfl
theorem not_put {r : Row} (h : r.ok) : (∃ i, r = .put i) ∨ ∃ w us, r.ws = w :: us ∧ decide (w = "put") = false := by
  cases r with
  | put i => exact .inl ⟨i, rfl⟩
  | one x => exact .inr ⟨x, [], rfl, decide_eq_false fun e => by subst e; exact absurd (show ("put" : Str) ∈ ALONE from h) (by decide +kernel)⟩
  | nmd x y => exact .inr ⟨x, [y], rfl, decide_eq_false fun e => by subst e; exact absurd h.1 (by decide +kernel)⟩
  | goes x k => exact .inr ⟨x, _, rfl, decide_eq_false fun e => by subst e; exact absurd h.1 (by decide +kernel)⟩
theorem msplit_li {x : LI} {b : Bool} {h : HH} (hx : x.ok) : mSplit (.str (x.txt b)) (.str " ") h = .ok (.lst ((x.ws b).map Val.str)) h := msplit_line li_ne (li_len hx) (li_words hx)
theorem lns_set {qs : List Part} {fl : Nat → Bool} {N : List Str} {i : Nat} {x : LI} (l : Lns qs fl N) (e : (itemsS qs)[i]? = some x) : Lns qs (fun k => if k = i then true else fl k) (N.set i (x.txt true)) := by
  refine ⟨by rw [List.length_set]; exact l.len, fun j y ej => ?_⟩
  have hi : i < (itemsS qs).length := (List.getElem?_eq_some_iff.mp e).1
  by_cases c : j = i
  · subst c
    rw [e] at ej
    cases ej
    rw [if_pos rfl, List.getElem?_set_self (by rw [l.len]; exact hi)]
  · rw [if_neg c, List.getElem?_set_ne (Ne.symm c)]
    exact l.it j y ej
theorem t_turn {b q i : Nat} {h : HH} {a1 a5 : Option Val} {qs : List Part} {fl : Nat → Bool} {N : List Str} {x : LI} (B : BagK b h) (hqb : q ≠ b) (e : h[q]? = some (.lst (N.map Val.str))) (l : Lns qs fl N) (l488 : N.length ≤ 488) (ex : (itemsS qs)[i]? = some x) (hx : x.ok) :
    ∃ a5' fl' N' h', tBody [some (.ref b), a1, some (.ref q), some (.int (i : Nat)), some (.str (x.txt false)), a5] h = .go .nx [some (.ref b), a1, some (.ref q), some (.int (i : Nat)), some (.str (x.txt false)), a5'] h' ∧ h'[q]? = some (.lst (N'.map Val.str)) ∧ Lns qs fl' N' ∧ BagK b h' := by
  have ms := msplit_li (b := false) (h := h) hx
  have ql : q < h.length := (List.getElem?_eq_some_iff.mp e).1
  cases x with
  | head p =>
    have pw : (LI.ws false (.head p)).map Val.str = .str "part" :: (p.nm :: p.ns).map Val.str := rfl
    rw [pw] at ms
    refine ⟨some (.lst (.str "part" :: (p.nm :: p.ns).map Val.str)), fl, N, h, ?_, e, l, B⟩
    simp -implicitDefEqProofs only [tBody, nSeq_e, nSet_e, sSm_s, sVar_s, sVar_0, ob_ok, bind_e, sC_e, ms, sb_ok, sq_nx, List.set_cons_zero, List.set_cons_succ, nIf_e, cAnd_e, cBin_e, sBin_e, ix_w0, ne_ss, decide_true, Bool.not_true, unB_bl, Bool.false_eq_true, if_false, nNext_e]
  | row j r =>
    obtain ⟨hj, hr⟩ := hx
    have zp : decide (zf j = "part") = false := zf_part ⟨j, hj⟩
    rcases not_put hr with ⟨v, rfl⟩ | ⟨w, us, ew, nw⟩
    · have pw : (LI.ws false (.row j (.put v))).map Val.str = [.str (zf j), .str "put", .str (numS v)] := rfl
      rw [pw] at ms
      obtain ⟨d, h1, t1, d0, d1, A1⟩ := ev_take (many := 2) B (by decide) (by decide)
      have tt := tk_e (n := 2) (ro := [some (.ref b), a1, some (.ref q), some (.int (i : Nat)), some (.str (LI.txt false (.row j (.put v)))), some (.lst [.str (zf j), .str "put", .str (numS v)])]) (h := h) (b := b) rfl
      have g1 : h1[q]? = some (.lst (N.map Val.str)) := (A1.kp.2 q ql hqb).trans e
      by_cases c : d = 0
      · have sl : bSl (.lst [.str (zf j), .str "put", .str (numS v)]) none (some 2) h1 = .ok (.lst [.str (zf j), .str "put"]) h1 := rfl
        have it := int_ev (h := h1) (show v.natAbs ≤ 10 ^ 12 from hr)
        have sx := ev_six (k := 0) (h := h1) (show v.natAbs ≤ 10 ^ 12 from hr)
        have fl1 : fLst [.str (hexT v)] h1 = .ok (.lst [.str (hexT v)]) h1 := fLst_ok (by simp)
        have ad : bAdd (.lst [.str (zf j), .str "put"]) (.lst [.str (hexT v)]) h1 = .ok (.lst [.str (zf j), .str "put", .str (hexT v)]) h1 := add_ll (by simp)
        have jn : mJoin (.str " ") (.lst [.str (zf j), .str "put", .str (hexT v)]) h1 = .ok (.str (LI.txt true (.row j (.put v)))) h1 := join_ev (ys := LI.ws true (.row j (.put v))) rfl sp1 (by
          show 3 ≤ 1000
          omega) fun y hy => by
          have := (li_words (x := .row j (.put v)) (b := true) ⟨hj, hr⟩ y hy).ln
          omega
        have il : i < N.length := by
          rw [l.len]
          exact (List.getElem?_eq_some_iff.mp ex).1
        have gs : gSb (sVar 2) (sVar 3) (.str (LI.txt true (.row j (.put v)))) [some (.ref b), a1, some (.ref q), some (.int (i : Nat)), some (.str (LI.txt false (.row j (.put v)))), some (.lst [.str (zf j), .str "put", .str (numS v)])] h1
            = .go .nx [some (.ref b), a1, some (.ref q), some (.int (i : Nat)), some (.str (LI.txt false (.row j (.put v)))), some (.lst [.str (zf j), .str "put", .str (numS v)])] (h1.set q (.lst ((N.map Val.str).set i (.str (LI.txt true (.row j (.put v))))))) :=
          gSb_e (j := i) (sVar_e rfl) (sVar_e rfl) g1 (by
            unfold ixN
            rw [if_pos (by omega), if_pos (by rw [List.length_map]; omega), Int.toNat_natCast])
        have em : (N.map Val.str).set i (.str (LI.txt true (.row j (.put v)))) = (N.set i (LI.txt true (.row j (.put v)))).map Val.str := by rw [List.map_set]
        rw [em] at gs
        refine ⟨some (.lst [.str (zf j), .str "put", .str (numS v)]), _, N.set i (LI.txt true (.row j (.put v))), h1.set q (.lst ((N.set i (LI.txt true (.row j (.put v)))).map Val.str)), ?_, set_get g1, lns_set l ex, ?_⟩
        · simp -implicitDefEqProofs only [tBody, nSeq_e, nSet_e, sSm_s, sVar_s, sVar_0, ob_ok, bind_e, sC_e, ms, sb_ok, sq_nx, List.set_cons_zero, List.set_cons_succ, nIf_e, cAnd_e, cBin_e, sBin_e, ix_w0, ne_ss, zp, Bool.not_false, unB_bl, if_true, ix_w1, eq_ss, decide_true, tt, t1, eq_ii, decide_eq_true c, nAsg_e, sSl_e, oNone_e, oSome_e, unI_i, sl, sArgs_e, aCons_e, sCall_e, aNil_e, ix_w2, it, List.length_cons, List.length_nil, and_self, sx, fl1, ad, jn, gs, asg_nx, nNext_e]
        · obtain ⟨f, m, e2, z⟩ := A1.bag
          exact ⟨f, m, by rw [List.getElem?_set_ne hqb]; exact e2, z⟩
      · refine ⟨some (.lst [.str (zf j), .str "put", .str (numS v)]), fl, N, h1, ?_, g1, l, A1.bag⟩
        simp -implicitDefEqProofs only [tBody, nSeq_e, nSet_e, sSm_s, sVar_s, sVar_0, ob_ok, bind_e, sC_e, ms, sb_ok, sq_nx, List.set_cons_zero, List.set_cons_succ, nIf_e, cAnd_e, cBin_e, sBin_e, ix_w0, ne_ss, zp, Bool.not_false, unB_bl, if_true, ix_w1, eq_ss, decide_true, tt, t1, eq_ii, decide_eq_false c, Bool.false_eq_true, if_false, nNext_e]
    · have pw : (LI.ws false (.row j r)).map Val.str = .str (zf j) :: .str w :: us.map Val.str := by
        show (zf j :: r.wt false).map Val.str = _
        rw [wt_false, ew]; rfl
      rw [pw] at ms
      refine ⟨some (.lst (.str (zf j) :: .str w :: us.map Val.str)), fl, N, h, ?_, e, l, B⟩
      simp -implicitDefEqProofs only [tBody, nSeq_e, nSet_e, sSm_s, sVar_s, sVar_0, ob_ok, bind_e, sC_e, ms, sb_ok, sq_nx, List.set_cons_zero, List.set_cons_succ, nIf_e, cAnd_e, cBin_e, sBin_e, ix_w0, ne_ss, zp, Bool.not_false, unB_bl, if_true, ix_w1, eq_ss, nw, Bool.false_eq_true, if_false, nNext_e]
theorem lns0 (qs : List Part) : Lns qs (fun _ => false) (linesS qs) := by
  refine ⟨items_len.symm, fun j x e => ?_⟩
  rw [← itemsS_txt, List.getElem?_map, e]
  rfl
theorem ev_text {b : Nat} {h : HH} {qs : List Part} (B : BagK b h) (hq : ∀ q ∈ qs, q.ok) (l1 : 1 ≤ qs.length) (l8 : qs.length ≤ 8) : ∃ fl N h', F__law_text [.ref b, .tup (qs.map Part.val)] h = .ok (.str (Txt.join "\n" N)) h' ∧ Lns qs fl N := by
  have bl := B.lt
  obtain ⟨h1, e1, k1⟩ := ev_written (h := h) hq l8
  have B1 : BagK b h1 := by
    obtain ⟨f, m, e, z⟩ := B
    exact ⟨f, m, by rw [k1 b bl]; exact e, z⟩
  have L0 := lns0 qs
  have n488 := lns_len hq l8 L0
  have ms : mSplitN (.str (TX qs)) (.str "\n") h1 = .ok (.ref h1.length) (h1 ++ [.lst ((linesS qs).map Val.str)]) := by
    show (if (("\n" : Str).length == 0) = false ∧ (TX qs).length ≤ 100000 then Out.ok (Val.ref h1.length) (h1 ++ [Ob.lst ((Txt.split (TX qs) "\n").map Val.str)]) else .bad) = _
    have : Txt.split (TX qs) "\n" = linesS qs := split_n (lns_ne l1 L0) (lns_line hq L0)
    rw [this, if_pos ⟨by decide +kernel, txn_len n488 (lns_line hq L0)⟩]
  have bl1 := B1.lt
  have B2 : BagK b (h1 ++ [.lst ((linesS qs).map Val.str)]) := by
    obtain ⟨f, m, e, z⟩ := B1
    exact ⟨f, m, by rw [List.getElem?_append_left bl1]; exact e, z⟩
  have e2 : (h1 ++ [Ob.lst ((linesS qs).map Val.str)])[h1.length]? = some (.lst ((linesS qs).map Val.str)) := by rw [List.getElem?_concat_length]
  obtain ⟨h2, eh2⟩ : ∃ h2, h2 = h1 ++ [Ob.lst ((linesS qs).map Val.str)] := ⟨_, rfl⟩
  obtain ⟨q, eq⟩ : ∃ q, q = h1.length := ⟨_, rfl⟩
  rw [← eh2] at ms B2 e2
  rw [← eq] at ms e2
  have hqb : q ≠ b := by omega
  have lo : fLof [.ref q] h2 = .ok (.lst ((linesS qs).map Val.str)) h2 := by
    show (match items (.ref q) h2 with
      | some xs => if xs.length ≤ sizeLine then Out.ok (Val.lst xs) h2 else .bad
      | none => .bad) = _
    have : items (.ref q) h2 = some ((linesS qs).map Val.str) := by
      show (match h2[q]? with | some (.lst xs) => some xs | _ => none) = _
      rw [e2]
    rw [this]
    dsimp only
    rw [if_pos (by rw [List.length_map]; have := sizeLine_eq; omega)]
  obtain ⟨ro', h', el, fl, N, a3, a4, a5, er, e4, L4, B4⟩ := turns_inv (g := gTp 2 (gsCons (gNm 3) (gsCons (gNm 4) gsNil))) (body := tBody) (x := .st (prs 0 ((linesS qs).map Val.str))) (n := (linesS qs).length)
    (fun i ro g => ∃ (fl : Nat → Bool) (N : List Str) (a3 a4 a5 : Option Val), ro = [some (.ref b), some (.tup (qs.map Part.val)), some (.ref q), a3, a4, a5] ∧ g[q]? = some (.lst (N.map Val.str)) ∧ Lns qs fl N ∧ BagK b g)
    (fun i ro g ⟨fl, N, a3, a4, a5, er, eg, Lg, Bg⟩ hi => by
      subst er
      have hi2 : i < (itemsS qs).length := by rw [items_len]; exact hi
      have ex := List.getElem?_eq_getElem hi2
      have hx := itemsS_ok hq _ (List.getElem_mem hi2)
      generalize (itemsS qs)[i] = x at ex hx
      obtain ⟨a5', fl', N', g', e5, e6, L6, B6⟩ := t_turn (a1 := some (.tup (qs.map Part.val))) (a5 := a5) Bg hqb eg Lg (lns_len hq l8 Lg) ex hx
      refine ⟨.tup [.int (i : Nat), .str (x.txt false)], _, g, _, g', ?_, rfl, e5, ⟨fl', N', _, _, _, rfl, e6, L6, B6⟩⟩
      show some (prs 0 ((linesS qs).map Val.str))[i]? = _
      rw [prs_get, List.getElem?_map, L0.it i x ex, Nat.zero_add]
      rfl)
    (fun ro g _ => by
      show some (prs 0 ((linesS qs).map Val.str))[(linesS qs).length]? = _
      rw [prs_get]
      simp) (linesS qs).length 0 [some (.ref b), some (.tup (qs.map Part.val)), some (.ref q), none, none, none] h2 rfl ⟨_, _, _, _, _, rfl, e2, L0, B2⟩
  subst er
  have jn : mJoin (.str "\n") (.ref q) h' = .ok (.str (Txt.join "\n" N)) h' := by
    refine join_ev ?_ nl1 ?_ fun y hy => ?_
    · show (match h'[q]? with | some (.lst xs) => some xs | _ => none) = _
      rw [e4]
    · have := lns_len hq l8 L4
      omega
    · have := (lns_line hq L4 y hy).ln
      omega
  refine ⟨fl, N, h', ?_, L4⟩
  have fe : fEn [.lst ((linesS qs).map Val.str)] h2 = .ok (.st (prs 0 ((linesS qs).map Val.str)), (linesS qs).length) h2 := by
    show Out.ok (Itm.st (prs 0 ((linesS qs).map Val.str)), ((linesS qs).map Val.str).length) h2 = _
    rw [List.length_map]
  rw [e__law_text, text_is]
  simp -implicitDefEqProofs only [nSeq_e, nSet_e, sSm_s, sCall_e, aCons_e, sVar_1, aNil_e, ob_ok, List.length_cons, List.length_nil, if_true, and_self, e1, bind_e, sC_e, ms, sb_ok, sq_nx, List.set_cons_zero, List.set_cons_succ, nFor_e, iEn_e, sArgs_e, sVar_s, sVar_0, lo, fe, el, nRet_e, jn, sq_ret, outOf_ret]
end K68
set_option Elab.async false
set_option maxRecDepth 100000
set_option linter.unusedVariables false
set_option linter.unusedSimpArgs false
namespace K68
open PySem PySem.Spec PyProof.Rows L2 Z
/-! ### the law -/
section
variable {C_READS C_read_name C_read_row_number C_read_worth : Addr}
/-- a written program read: what the law looks at -/
theorem read_it (n1 : C_read_name ≠ C_read_row_number) (n2 : C_read_name ≠ C_read_worth) (n3 : C_read_row_number ≠ C_read_worth) {qs : List Part} {fl : Nat → Bool} {N : List Str} {h : HH} (g : Good qs) (l : Lns qs fl N) :
    ∃ h', F_read_program C_READS C_read_name C_read_row_number C_read_worth [.str (Txt.join "\n" N)] h = .ok (.tup (qs.map Part.val)) h' := by
  obtain ⟨f1, f2⟩ := prog_fine g.ok g.l8
  have pp := (fine_all (by omega) 4 _ f1).1
  exact ev_read (C_READS := C_READS) n1 n2 n3 l pp (good_prog g) g.ok g.l1 g.l8
variable (C_READS C_read_name C_read_row_number C_read_worth) in
def iBody : SS := (nSeq (nSet 9 (sCall (F_read_program C_READS C_read_name C_read_row_number C_read_worth) 1 0 1 (fun ws _ => ws) (aCons (sVar 6) aNil) aNil)) (nSeq (nIf (cOr (cBin bNe (sArgs fRepr (aCons (sVar 9) aNil)) (sArgs fRepr (aCons (sVar 5) aNil))) (cBin bNe (sCall F_show_program 1 0 1 (fun ws _ => ws) (aCons (sVar 9) aNil) aNil) (sCall F__law_written 1 0 1 (fun ws _ => ws) (aCons (sVar 5) aNil) aNil))) (nSeq (nRet (sC (.bl false))) nNext) nNext) nNext))
variable (C_READS C_read_name C_read_row_number C_read_worth) in
def oBody : SS := (nSeq (nSet 4 (sCall F__law_bag 2 0 2 (fun ws _ => ws) (aCons (sVar 0) (aCons (sVar 1) aNil)) aNil)) (nSeq (nSet 5 (sCall F__law_program 1 0 1 (fun ws _ => ws) (aCons (sVar 4) aNil) aNil)) (nSeq (nSet 6 (sCall F__law_text 2 0 2 (fun ws _ => ws) (aCons (sVar 4) (aCons (sVar 5) aNil)) aNil)) (nSeq (nIf (cBin (bOrd fun i j => decide (i ≤ j)) (sArgs fLen (aCons (sVar 6) aNil)) (sC (.int 6000))) (nSeq (nFor (iRgN 1 (aCons (sC (.int 2)) aNil)) (gNm 8) (iBody C_READS C_read_name C_read_row_number C_read_worth)) nNext) nNext) nNext))))
def tupE : SE := (sArgs fTup (aCons (sArgs fTup (aCons (sC (.str "a")) (aCons (sArgs fTup (aCons (sC (.str "b")) aNil)) (aCons (sArgs fTup (aCons (sArgs fTup (aCons (sC (.str "put")) (aCons (sVar 3) aNil))) aNil)) aNil)))) aNil))
variable (C_READS C_read_name C_read_row_number C_read_worth) in
def wBody : SS := (nSeq (nIf (cBin bNe (sArgs fRepr (aCons (sCall (F_read_program C_READS C_read_name C_read_row_number C_read_worth) 1 0 1 (fun ws _ => ws) (aCons (sBin bAdd (sC (.str "part a b\n00 put ")) (sVar 7)) aNil) aNil) aNil)) (sArgs fRepr (aCons tupE aNil))) (nSeq (nRet (sC (.bl false))) nNext) nNext) nNext)
variable (C_READS C_read_name C_read_row_number C_read_worth) in
def nBody2 : SS := (nSeq (nFor (iVal (sArgs fLst (aCons (sCall (F__law_sixteen 2) 1 0 1 (fun ws _ => ws) (aCons (sVar 3) aNil) aNil) (aCons (sCall (F__law_figures 2) 1 0 1 (fun ws _ => ws) (aCons (sVar 3) aNil) aNil) aNil)))) (gNm 7) (wBody C_READS C_read_name C_read_row_number C_read_worth)) nNext)
theorem law_is : m_law C_READS C_read_name C_read_row_number C_read_worth = (nSeq (nFor (iRgN 1 (aCons (sArgs fMax (aCons (sC (.int 2)) (aCons (sArgs fMin (aCons (sC (.int 5)) (aCons (sArgs fLen (aCons (sVar 0) aNil)) aNil))) aNil))) aNil)) (gNm 1) (oBody C_READS C_read_name C_read_row_number C_read_worth))
  (nSeq (nSet 2 (sArgs fLst (aCons (sC (.int 0)) (aCons (sC (.int 1)) (aCons (sC (.int 9)) (aCons (sC (.int 10)) (aCons (sC (.int 15)) (aCons (sC (.int 16)) (aCons (sC (.int 255)) (aCons (sC (.int 256)) (aCons (sBin bPow (sC (.int 10)) (sC (.int 12))) (aCons (sBin bSub (sBin bPow (sC (.int 10)) (sC (.int 12))) (sC (.int 1))) (aCons (sBin bPow (sC (.int 16)) (sC (.int 9))) aNil)))))))))))))
  (nSeq (nFor (iVal (sBin bAdd (sVar 2) (sLc (iVal (sVar 2)) (gNm 3) tYesZ (sBin bSub (sC (.int 0)) (sVar 3)) [3]))) (gNm 3) (nBody2 C_READS C_read_name C_read_row_number C_read_worth))
  (nSeq (nRet (sC (.bl true))) nNext)))) := rfl
theorem i_turn (n1 : C_read_name ≠ C_read_row_number) (n2 : C_read_name ≠ C_read_worth) (n3 : C_read_row_number ≠ C_read_worth) {qs : List Part} {fl : Nat → Bool} {N : List Str} (g : Good qs) (l : Lns qs fl N) {h : HH} {a0 a1 a2 a3 a4 a7 a8 a9 : Option Val} :
    ∃ a9' h', iBody C_READS C_read_name C_read_row_number C_read_worth [a0, a1, a2, a3, a4, some (.tup (qs.map Part.val)), some (.str (Txt.join "\n" N)), a7, a8, a9] h = .go .nx [a0, a1, a2, a3, a4, some (.tup (qs.map Part.val)), some (.str (Txt.join "\n" N)), a7, a8, a9'] h' := by
  obtain ⟨f1, f2⟩ := prog_fine g.ok g.l8
  have pp := (fine_all (by omega) 4 _ f1).1
  have gp := good_prog g
  obtain ⟨h1, e1⟩ := read_it (C_READS := C_READS) n1 n2 n3 (h := h) g l
  have e2 := ev_repr (h := h1) (by omega) (by omega) f1 (by omega)
  obtain ⟨h2, e3⟩ := ev_show (h := h1) pp gp g.ok g.l8
  obtain ⟨h3, e4, _⟩ := ev_written (h := h2) g.ok g.l8
  refine ⟨some (.tup (qs.map Part.val)), h3, ?_⟩
  simp -implicitDefEqProofs only [iBody, nSeq_e, nSet_e, sCall_e, aCons_e, sVar_s, sVar_0, aNil_e, ob_ok, List.length_cons, List.length_nil, if_true, and_self, e1, sb_ok, sq_nx, List.set_cons_zero, List.set_cons_succ, nIf_e, cOr_e, cBin_e, sArgs_e, e2, ne_ss, decide_true, Bool.not_true, unB_bl, Bool.false_eq_true, if_false, e3, e4, nNext_e]
theorem o_turn (n1 : C_read_name ≠ C_read_row_number) (n2 : C_read_name ≠ C_read_worth) (n3 : C_read_row_number ≠ C_read_worth) {ns : List Int} {i : Nat} {h : HH} {a2 a3 a4 a5 a6 a7 a8 a9 : Option Val} (hi : i < 8) :
    ∃ b4 b5 b6 b8 b9 h', oBody C_READS C_read_name C_read_row_number C_read_worth [some (.scr ns), some (.int (i : Nat)), a2, a3, a4, a5, a6, a7, a8, a9] h = .go .nx [some (.scr ns), some (.int (i : Nat)), a2, a3, b4, b5, b6, a7, b8, b9] h' := by
  obtain ⟨h1, e1, B1⟩ := ev_bag (ns := ns) (h := h) hi
  generalize h.length = b at e1 B1
  obtain ⟨qs, h2, e2, g, B2⟩ := ev_mkprog B1
  obtain ⟨fl, N, h3, e3, L3⟩ := ev_text B2 g.ok g.l1 g.l8
  have tl := txn_len (lns_len g.ok g.l8 L3) (lns_line g.ok L3)
  have fl3 := Z.len_str (x := Txt.join "\n" N) (h := h3) (by have := sizeLine_eq; omega)
  have two : fRg [.int 2] h3 = .ok (.st (nums 0 2), 2) h3 := fRg1 (n := 2) (by omega)
  obtain ⟨ro', h', el, b8, b9, er⟩ := turns_inv (g := gNm 8) (body := iBody C_READS C_read_name C_read_row_number C_read_worth) (x := .st (nums 0 2)) (n := 2) (fun _ ro _ => ∃ b8 b9 : Option Val, ro = [some (.scr ns), some (.int (i : Nat)), a2, a3, some (.ref b), some (.tup (qs.map Part.val)), some (.str (Txt.join "\n" N)), a7, b8, b9])
    (fun k ro g' ⟨b8, b9, er⟩ hk => by
      subst er
      obtain ⟨c9, g2, e4⟩ := i_turn (C_READS := C_READS) n1 n2 n3 g L3 (h := g') (a0 := some (.scr ns)) (a1 := some (.int (i : Nat))) (a2 := a2) (a3 := a3) (a4 := some (.ref b)) (a7 := a7) (a8 := some (.int (0 + (k : Nat)))) (a9 := b9)
      exact ⟨.int (0 + (k : Nat)), _, g', _, g2, by show some (nums 0 2)[k]? = _; rw [nums_get hk], rfl, e4, ⟨_, _, rfl⟩⟩)
    (fun ro g _ => by show some (nums 0 2)[2]? = _; rw [nums_end]) 2 0 [some (.scr ns), some (.int (i : Nat)), a2, a3, some (.ref b), some (.tup (qs.map Part.val)), some (.str (Txt.join "\n" N)), a7, a8, a9] h3 rfl ⟨_, _, rfl⟩
  subst er
  by_cases c : (((Txt.join "\n" N).length : Nat) : Int) ≤ 6000
  · refine ⟨some (.ref b), some (.tup (qs.map Part.val)), some (.str (Txt.join "\n" N)), b8, b9, h', ?_⟩
    simp -implicitDefEqProofs only [oBody, nSeq_e, nSet_e, sCall_e, aCons_e, sVar_s, sVar_0, sVar_1, aNil_e, ob_ok, List.length_cons, List.length_nil, if_true, and_self, e1, sb_ok, sq_nx, List.set_cons_zero, List.set_cons_succ, e2, e3, nIf_e, cBin_e, sArgs_e, fl3, sC_e, bOrd_e, unB_bl, decide_eq_true c, nFor_e, iRgN_e, two, el, nNext_e]
  · refine ⟨some (.ref b), some (.tup (qs.map Part.val)), some (.str (Txt.join "\n" N)), a8, a9, h3, ?_⟩
    simp -implicitDefEqProofs only [oBody, nSeq_e, nSet_e, sCall_e, aCons_e, sVar_s, sVar_0, sVar_1, aNil_e, ob_ok, List.length_cons, List.length_nil, if_true, and_self, e1, sb_ok, sq_nx, List.set_cons_zero, List.set_cons_succ, e2, e3, nIf_e, cBin_e, sArgs_e, fl3, sC_e, bOrd_e, unB_bl, decide_eq_false c, Bool.false_eq_true, if_false, nNext_e]
/-! ### a part of one row -/
def prog1 (z : Int) : List Part := [⟨"a", ["b"], [.put z]⟩]
theorem good1 {z : Int} (h : z.natAbs ≤ 10 ^ 12) : Good (prog1 z) := by
  refine ⟨fun q hq => ?_, by show (["a"] : List Str).Nodup; decide +kernel, fun q hq => ?_, by show 1 ≤ 1; omega, by show 1 ≤ 8; omega, fun q hq j r e => ?_⟩
  · rw [List.mem_singleton.mp hq]
    refine ⟨by show nameB "a" = true; decide +kernel, by show 1 ≤ 3; omega, fun y hy => ?_, by show 1 ≤ 1; omega, by show 1 ≤ 60; omega, fun r hr => ?_⟩
    · rw [List.mem_singleton.mp hy]; decide +kernel
    · rw [List.mem_singleton.mp hr]; exact h
  · rw [List.mem_singleton.mp hq]
    show (["b"] : List Str).Nodup
    decide +kernel
  · rw [List.mem_singleton.mp hq] at e ⊢
    match j, e with
    | 0, e => cases e; exact (rg_put h).2
    | j + 1, e => simp at e
def w1 (z : Int) (b : Bool) : Str := if b then hexT z else numS z
theorem lns1 (z : Int) (b : Bool) : Lns (prog1 z) (fun _ => b) [Txt.join " " ["part", "a", "b"], Txt.join " " [zf 0, "put", w1 z b]] := by
  refine ⟨rfl, fun j x e => ?_⟩
  match j, e with
  | 0, e => cases e; rfl
  | 1, e => cases e; cases b <;> rfl
  | j + 2, e => simp [itemsS, itemsP, itemsR, prog1] at e
theorem text1 (w : Str) : Txt.join "\n" [Txt.join " " ["part", "a", "b"], Txt.join " " [zf 0, "put", w]] = "part a b\n00 put " ++ w := by
  refine TL.ext_tl ?_
  have t1 : TL.tl (Txt.join " " ["part", "a", "b"]) = [112, 97, 114, 116, 32, 97, 32, 98] := by decide +kernel
  have t2 : TL.tl ("part a b\n00 put " : Str) = [112, 97, 114, 116, 32, 97, 32, 98, 10, 48, 48, 32, 112, 117, 116, 32] := by decide +kernel
  have t3 : TL.tl (zf 0) = [48, 48] := by decide +kernel
  have t4 : TL.tl ("put" : Str) = [112, 117, 116] := by decide +kernel
  have t5 : TL.tl ("\n" : Str) = [10] := by decide +kernel
  have t6 : TL.tl (" " : Str) = [32] := by decide +kernel
  have t7 : TL.tl (Txt.join " " [zf 0, "put", w]) = [48, 48, 32, 112, 117, 116, 32] ++ TL.tl w := by
    rw [TL.join_eq, TL.tl_join, t6]
    show TL.tl (zf 0) ++ ([32] ++ (TL.tl ("put" : Str) ++ ([32] ++ TL.tl w))) = _
    rw [t3, t4]
    rfl
  rw [TL.join_eq, TL.tl_join, t5, TL.tl_append, t2]
  show TL.tl (Txt.join " " ["part", "a", "b"]) ++ ([10] ++ TL.tl (Txt.join " " [zf 0, "put", w])) = _
  rw [t1, t7]
  rfl
theorem w_turn (n1 : C_read_name ≠ C_read_row_number) (n2 : C_read_name ≠ C_read_worth) (n3 : C_read_row_number ≠ C_read_worth) {z : Int} {b : Bool} (hz : z.natAbs ≤ 10 ^ 12) {h : HH} {a0 a1 a2 a4 a5 a6 a8 a9 : Option Val} :
    ∃ h', wBody C_READS C_read_name C_read_row_number C_read_worth [a0, a1, a2, some (.int z), a4, a5, a6, some (.str (w1 z b)), a8, a9] h = .go .nx [a0, a1, a2, some (.int z), a4, a5, a6, some (.str (w1 z b)), a8, a9] h' := by
  have g := good1 hz
  obtain ⟨f1, f2⟩ := prog_fine g.ok g.l8
  obtain ⟨h1, e1⟩ := read_it (C_READS := C_READS) n1 n2 n3 (h := h) g (lns1 z b)
  rw [text1] at e1
  have lw : (w1 z b).length ≤ 14 := by
    cases b
    · exact (word_num hz).ln
    · exact hexT_len hz
  have ad : bAdd (.str "part a b\n00 put ") (.str (w1 z b)) h = .ok (.str ("part a b\n00 put " ++ w1 z b)) h := add_ss (by
    have : (("part a b\n00 put " : Str)).length = 16 := by decide +kernel
    omega)
  have e2 := ev_repr (h := h1) (by omega) (by omega) f1 (by omega)
  have et : tupE [a0, a1, a2, some (.int z), a4, a5, a6, some (.str (w1 z b)), a8, a9] h1 = .ok (.tup ((prog1 z).map Part.val)) h1 := by
    simp -implicitDefEqProofs only [tupE, sArgs_e, aCons_e, sC_e, aNil_e, sVar_s, sVar_0, ob_ok, fTup_ok (xs := [.str "b"]) (by simp), fTup_ok (xs := [.str "put", .int z]) (by simp), fTup_ok (xs := [.tup [.str "put", .int z]]) (by simp), fTup_ok (xs := [.str "a", .tup [.str "b"], .tup [.tup [.str "put", .int z]]]) (by simp), fTup_ok (xs := [.tup [.str "a", .tup [.str "b"], .tup [.tup [.str "put", .int z]]]]) (by simp)]
    rfl
  refine ⟨h1, ?_⟩
  simp -implicitDefEqProofs only [wBody, nSeq_e, nIf_e, cBin_e, sArgs_e (f := fRepr), aCons_e, sCall_e, sBin_e, sC_e, sVar_s, sVar_0, aNil_e, ob_ok, ad, List.length_cons, List.length_nil, if_true, and_self, e1, e2, et, ne_ss, decide_true, Bool.not_true, unB_bl, sb_ok, Bool.false_eq_true, if_false, nNext_e, sq_nx]
theorem n_turn (n1 : C_read_name ≠ C_read_row_number) (n2 : C_read_name ≠ C_read_worth) (n3 : C_read_row_number ≠ C_read_worth) {z : Int} (hz : z.natAbs ≤ 10 ^ 12) {h : HH} {a0 a1 a2 a4 a5 a6 a7 a8 a9 : Option Val} :
    ∃ a7' h', nBody2 C_READS C_read_name C_read_row_number C_read_worth [a0, a1, a2, some (.int z), a4, a5, a6, a7, a8, a9] h = .go .nx [a0, a1, a2, some (.int z), a4, a5, a6, a7', a8, a9] h' := by
  have sx := ev_six (k := 0) (h := h) hz
  have fg := ev_fig (k := 0) (h := h) hz
  have fl : fLst [.str (hexT z), .str (numS z)] h = .ok (.lst [.str (hexT z), .str (numS z)]) h := fLst_ok (by simp)
  obtain ⟨ro', h', el, a7', er⟩ := turns_inv (g := gNm 7) (body := wBody C_READS C_read_name C_read_row_number C_read_worth) (x := .st [.str (hexT z), .str (numS z)]) (n := 2)
    (fun _ ro _ => ∃ a7 : Option Val, ro = [a0, a1, a2, some (.int z), a4, a5, a6, a7, a8, a9])
    (fun i ro h ⟨a7, er⟩ hi => by
      subst er
      obtain ⟨b, en⟩ : ∃ b : Bool, ([.str (hexT z), .str (numS z)] : List Val)[i]? = some (.str (w1 z b)) := by
        match i, hi with
        | 0, _ => exact ⟨true, rfl⟩
        | 1, _ => exact ⟨false, rfl⟩
      obtain ⟨h', e⟩ := w_turn (C_READS := C_READS) n1 n2 n3 (z := z) (b := b) hz (h := h) (a0 := a0) (a1 := a1) (a2 := a2) (a4 := a4) (a5 := a5) (a6 := a6) (a8 := a8) (a9 := a9)
      exact ⟨.str (w1 z b), _, h, _, h', congrArg some en, rfl, e, ⟨_, rfl⟩⟩)
    (fun ro h _ => rfl) 2 0 [a0, a1, a2, some (.int z), a4, a5, a6, a7, a8, a9] h rfl ⟨_, rfl⟩
  subst er
  refine ⟨a7', h', ?_⟩
  have el' : turns (gNm 7) (wBody C_READS C_read_name C_read_row_number C_read_worth) (.st [.str (hexT z), .str (numS z)]) (0 + 1 + 1) 0 [a0, a1, a2, some (.int z), a4, a5, a6, a7, a8, a9] h = .go .nx [a0, a1, a2, some (.int z), a4, a5, a6, a7', a8, a9] h' := el
  simp -implicitDefEqProofs only [nBody2, nSeq_e, nFor_e, iVal_e, sArgs_e, aCons_e, sCall_e, sVar_s, sVar_0, aNil_e, ob_ok, List.length_cons, List.length_nil, if_true, and_self, sx, fg, fl, itmV_lst, sb_ok, el', sq_nx, nNext_e]
def SOME : List Int := [0, 1, 9, 10, 15, 16, 255, 256, 10 ^ 12, 10 ^ 12 - 1, 16 ^ 9]
def ALLN : List Int := SOME ++ SOME.map fun z => 0 - z
theorem alln_ok : ∀ z ∈ ALLN, z.natAbs ≤ 10 ^ 12 := by
  have : ALLN.all (fun z => decide (z.natAbs ≤ 10 ^ 12)) = true := by decide +kernel
  intro z hz
  exact of_decide_eq_true (List.all_eq_true.mp this z hz)
theorem n_loop (n1 : C_read_name ≠ C_read_row_number) (n2 : C_read_name ≠ C_read_worth) (n3 : C_read_row_number ≠ C_read_worth) {h : HH} {a0 a1 a2 a3 a4 a5 a6 a7 a8 a9 : Option Val} :
    ∃ a3' a7' h', turns (gNm 3) (nBody2 C_READS C_read_name C_read_row_number C_read_worth) (.st (ALLN.map Val.int)) 22 0 [a0, a1, a2, a3, a4, a5, a6, a7, a8, a9] h = .go .nx [a0, a1, a2, a3', a4, a5, a6, a7', a8, a9] h' := by
  obtain ⟨ro', h', el, a3', a7', er⟩ := turns_inv (g := gNm 3) (body := nBody2 C_READS C_read_name C_read_row_number C_read_worth) (x := .st (ALLN.map Val.int)) (n := 22)
    (fun _ ro _ => ∃ a3 a7 : Option Val, ro = [a0, a1, a2, a3, a4, a5, a6, a7, a8, a9])
    (fun i ro h ⟨a3, a7, er⟩ hi => by
      subst er
      have hi2 : i < ALLN.length := hi
      have ez := List.getElem?_eq_getElem hi2
      have hz := alln_ok _ (List.getElem_mem hi2)
      generalize ALLN[i] = z at ez hz
      obtain ⟨a7', h', e⟩ := n_turn (C_READS := C_READS) n1 n2 n3 hz (h := h) (a0 := a0) (a1 := a1) (a2 := a2) (a4 := a4) (a5 := a5) (a6 := a6) (a7 := a7) (a8 := a8) (a9 := a9)
      exact ⟨.int z, _, h, _, h', by show some (ALLN.map Val.int)[i]? = _; rw [List.getElem?_map, ez]; rfl, rfl, e, ⟨_, _, rfl⟩⟩)
    (fun ro h _ => rfl) 22 0 [a0, a1, a2, a3, a4, a5, a6, a7, a8, a9] h rfl ⟨_, _, rfl⟩
  subst er
  exact ⟨a3', a7', h', el⟩
end
theorem law_true : ∀ C_READS C_read_name C_read_row_number C_read_worth : Addr, C_read_name ≠ C_read_row_number → C_read_name ≠ C_read_worth → C_read_row_number ≠ C_read_worth → ∀ ns : List Int, ns.length ≤ 63 → (∀ z ∈ ns, Builtin.Int.intBits z ≤ 1048576) → ∃ h, F_law C_READS C_read_name C_read_row_number C_read_worth [.scr ns] [] = .ok (.bl true) h := by
  intro C_READS C_read_name C_read_row_number C_read_worth n1 n2 n3 ns hl _
  rw [e_law, law_is]
  have ln := scr_len (ns := ns) (h := [])
  obtain ⟨n, x, hn, hx, e1⟩ : ∃ (n : Nat) (x : Val), n ≤ 5 ∧ fMin [.int 5, .int (ns.length : Nat)] [] = .ok x [] ∧ fMax [.int 2, x] [] = .ok (.int (n : Nat)) [] := by
    by_cases c : ns.length < 5
    · by_cases c2 : 2 < ns.length
      · refine ⟨ns.length, .int (ns.length : Nat), by omega, ?_, ?_⟩
        · show Out.ok (Val.int (if ((ns.length : Nat) : Int) < 5 then ((ns.length : Nat) : Int) else 5)) [] = _
          rw [if_pos (by omega)]
        · show Out.ok (Val.int (if ((ns.length : Nat) : Int) > 2 then ((ns.length : Nat) : Int) else 2)) [] = _
          rw [if_pos (by omega)]
      · refine ⟨2, .int (ns.length : Nat), by omega, ?_, ?_⟩
        · show Out.ok (Val.int (if ((ns.length : Nat) : Int) < 5 then ((ns.length : Nat) : Int) else 5)) [] = _
          rw [if_pos (by omega)]
        · show Out.ok (Val.int (if ((ns.length : Nat) : Int) > 2 then ((ns.length : Nat) : Int) else 2)) [] = _
          rw [if_neg (by omega)]
          rfl
    · refine ⟨5, .int 5, by omega, ?_, rfl⟩
      show Out.ok (Val.int (if ((ns.length : Nat) : Int) < 5 then ((ns.length : Nat) : Int) else 5)) [] = _
      rw [if_neg (by omega)]
  have rg : fRg [.int (n : Nat)] [] = .ok (.st (nums 0 n), n) [] := fRg1 (by omega)
  obtain ⟨ro', h1, el, a1, b4, b5, b6, b8, b9, er⟩ := turns_inv (g := gNm 1) (body := oBody C_READS C_read_name C_read_row_number C_read_worth) (x := .st (nums 0 n)) (n := n) (fun _ ro _ => ∃ a1 b4 b5 b6 b8 b9 : Option Val, ro = [some (.scr ns), a1, none, none, b4, b5, b6, none, b8, b9])
    (fun i ro h ⟨a1, b4, b5, b6, b8, b9, er⟩ hi => by
      subst er
      obtain ⟨c4, c5, c6, c8, c9, h2, e2⟩ := o_turn (C_READS := C_READS) n1 n2 n3 (ns := ns) (h := h) (a2 := none) (a3 := none) (a4 := b4) (a5 := b5) (a6 := b6) (a7 := none) (a8 := b8) (a9 := b9) (i := i) (by omega)
      rw [← Int.zero_add ((i : Nat) : Int)] at e2
      exact ⟨.int (0 + (i : Nat)), _, h, _, h2, by show some (nums 0 n)[i]? = _; rw [nums_get hi], rfl, e2, ⟨_, _, _, _, _, _, rfl⟩⟩)
    (fun ro h _ => by show some (nums 0 n)[n]? = _; rw [nums_end]) n 0 [some (.scr ns), none, none, none, none, none, none, none, none, none] [] (by omega) ⟨_, _, _, _, _, _, rfl⟩
  subst er
  have fs : fLst [.int 0, .int 1, .int 9, .int 10, .int 15, .int 16, .int 255, .int 256, .int (10 ^ 12), .int (10 ^ 12 - 1), .int (16 ^ 9)] h1 = .ok (.lst (SOME.map Val.int)) h1 := fLst_ok (by simp)
  have p12 : bPow (.int 10) (.int 12) h1 = .ok (.int (10 ^ 12)) h1 := pow_ii (n := 4) (j := 12) (by decide) (by decide)
  have p9 : bPow (.int 16) (.int 9) h1 = .ok (.int (16 ^ 9)) h1 := pow_ii (n := 5) (j := 9) (by decide) (by decide)
  have hc : sLc (iVal (sVar 2)) (gNm 3) tYesZ (sBin bSub (sC (.int 0)) (sVar 3)) [3] [some (.scr ns), a1, some (.lst (SOME.map Val.int)), none, b4, b5, b6, none, b8, b9] h1 = .ok (.lst ((SOME.map fun z => 0 - z).map Val.int)) h1 := by
    have m1 : (SOME.map fun z => (Val.int z, Val.int (0 - z))).map (·.1) = SOME.map Val.int := by rw [List.map_map]; rfl
    have m2 : (SOME.map fun z => (Val.int z, Val.int (0 - z))).map (·.2) = (SOME.map fun z => 0 - z).map Val.int := by rw [List.map_map, List.map_map]; rfl
    rw [← m2]
    refine sLc_rel _ ?_ fun z hz => ?_
    · rw [m1]
      simp -implicitDefEqProofs only [iVal_e, sVar_s, sVar_0, ob_ok, itmV_lst]
      rw [List.length_map, List.length_map]
    · obtain ⟨z, _, rfl⟩ := List.mem_map.mp hz
      refine ⟨[some (.scr ns), a1, some (.lst (SOME.map Val.int)), some (.int z), b4, b5, b6, none, b8, b9], rfl, ?_⟩
      simp -implicitDefEqProofs only [sBin_e, sC_e, ob_ok, sVar_s, sVar_0, sub_ii]
  have ad : bAdd (.lst (SOME.map Val.int)) (.lst ((SOME.map fun z => 0 - z).map Val.int)) h1 = .ok (.lst (ALLN.map Val.int)) h1 := by
    rw [add_ll (by simp [SOME])]
    unfold ALLN
    rw [List.map_append]
  obtain ⟨c3, c7, h2, e2⟩ := n_loop (C_READS := C_READS) n1 n2 n3 (h := h1) (a0 := some (.scr ns)) (a1 := a1) (a2 := some (.lst (SOME.map Val.int))) (a3 := none) (a4 := b4) (a5 := b5) (a6 := b6) (a7 := none) (a8 := b8) (a9 := b9)
  refine ⟨h2, ?_⟩
  rw [nSeq_e, nFor_e, iRgN_e]
  simp -implicitDefEqProofs only [aCons_e, sArgs_e, sC_e, sVar_0, aNil_e, ob_ok, ln, hx, e1]
  rw [if_pos (show [Val.int (n : Int)].length = 1 from rfl), rg]
  simp -implicitDefEqProofs only [sb_ok]
  rw [el]
  simp -implicitDefEqProofs only [sq_nx]
  rw [nSeq_e, nSet_e]
  simp -implicitDefEqProofs only [aCons_e, sArgs_e, sBin_e, sC_e, aNil_e, ob_ok, p12, p9, sub_ii, fs, sb_ok, sq_nx, List.set_cons_zero, List.set_cons_succ]
  rw [nSeq_e, nFor_e, iVal_e, sBin_e]
  have v2 : sVar 2 [some (.scr ns), a1, some (.lst (SOME.map Val.int)), none, b4, b5, b6, none, b8, b9] h1 = .ok (.lst (SOME.map Val.int)) h1 := rfl
  have il : itmV (.lst (ALLN.map Val.int)) h1 = .ok (.st (ALLN.map Val.int), 22) h1 := rfl
  rw [v2, ob_ok, hc, ob_ok, ad, ob_ok, il, sb_ok, e2]
  simp -implicitDefEqProofs only [sq_nx]
  rw [nSeq_e, nRet_e, sC_e]
  simp -implicitDefEqProofs only [sb_ok, sq_ret, outOf_ret]
end K68
open PySem PySem.W PyProof.Rows
set_option maxRecDepth 100000 in
set_option maxHeartbeats 0 in
theorem PySem.Challenge.cw_watchedrun_k68_programs_read_holds : PySem.Challenge.rw_watchedrun_k68_programs_read.Holds := by
  w_on; o_law; k_head; (case hw => w_witness2)
  k_fill
  refine Z.walk (k := 7) (x := "_law_script") (l := PySem.Challenge.rw_watchedrun_k68_programs_read) rfl rfl ⟨⟨rfl, by decide, by decide⟩, rfl⟩ (fun w h Y => PySem.W.kIn_of Y) ?F
  case F =>
    intro w mg fa h KX G hmg
    refine K68.fin K68.law_true hmg ?_
    refine' K68.txt_mk KX G ?zz_abs ?zz_all ?zz_bool ?zz_enumerate ?zz_int ?zz_isinstance ?zz_len ?zz_list ?zz_max ?zz_min ?zz_range ?zz_repr ?zz_set ?zz_str ?zz_tuple ?n_ALONE ?l_ALONE ?y_ALONE ?d_ALONE ?q_ALONE ?r_ALONE ?n_BARE ?l_BARE ?y_BARE ?d_BARE ?q_BARE ?r_BARE ?n_FIGURES ?n_LEADING ?l_LEADING ?y_LEADING ?d_LEADING ?q_LEADING ?r_LEADING ?n_LETTERS ?n_MOST_FIGURES ?n_MOST_LETTERS ?n_MOST_LONG ?n_MOST_NAMES ?n_MOST_PARTS ?n_MOST_WORTH ?n_MOST_WRITTEN ?n_NAMED ?l_NAMED ?y_NAMED ?d_NAMED ?q_NAMED ?r_NAMED ?n_SIXTEEN ?n_READS ?d_READS ?n_is_whole ?l_is_whole ?c_is_whole ?k_is_whole ?n_is_worth ?l_is_worth ?c_is_worth ?k_is_worth ?n_is_name ?l_is_name ?c_is_name ?k_is_name ?n_are_unlike_names ?l_are_unlike_names ?c_are_unlike_names ?k_are_unlike_names ?w_are_unlike_names_least ?v_are_unlike_names_least ?n_is_led_to ?l_is_led_to ?c_is_led_to ?k_is_led_to ?n_is_row ?l_is_row ?c_is_row ?k_is_row ?n_is_headed ?l_is_headed ?c_is_headed ?k_is_headed ?n_is_program ?l_is_program ?c_is_program ?k_is_program ?n_look_program ?l_look_program ?c_look_program ?k_look_program ?n_show_row ?l_show_row ?c_show_row ?k_show_row ?n_show_program ?l_show_program ?c_show_program ?k_show_program ?n_number_in ?l_number_in ?c_number_in ?k_number_in ?n_read_row_number ?l_read_row_number ?c_read_row_number ?k_read_row_number ?n_read_worth ?l_read_worth ?c_read_worth ?k_read_worth ?n_read_name ?l_read_name ?c_read_name ?k_read_name ?n_row_of ?l_row_of ?c_row_of ?k_row_of ?n_begins_part ?l_begins_part ?c_begins_part ?k_begins_part ?n_stands ?l_stands ?c_stands ?k_stands ?n_read_program ?l_read_program ?c_read_program ?k_read_program ?n__law_bag ?l__law_bag ?c__law_bag ?k__law_bag ?n__law_take ?l__law_take ?c__law_take ?k__law_take ?n__law_names ?l__law_names ?c__law_names ?k__law_names ?n__law_worth ?l__law_worth ?c__law_worth ?k__law_worth ?n__law_row ?l__law_row ?c__law_row ?k__law_row ?n__law_program ?l__law_program ?c__law_program ?k__law_program ?n__law_figures ?l__law_figures ?c__law_figures ?k__law_figures ?n__law_written ?l__law_written ?c__law_written ?k__law_written ?n__law_sixteen ?l__law_sixteen ?c__law_sixteen ?k__law_sixteen ?n__law_text ?l__law_text ?c__law_text ?k__law_text ?n_law ?l_law ?c_law ?k_law ?y_READS_put ?y_READS_get ?y_READS_set ?y_READS_look ?y_READS_change ?y_READS_call ?y_READS_go ?y_READS_if ?y_READS_try
    (case zz_abs => k_is)
    (case zz_all => k_is)
    (case zz_bool => k_is)
    (case zz_enumerate => k_is)
    (case zz_int => k_is)
    (case zz_isinstance => k_is)
    (case zz_len => k_is)
    (case zz_list => k_is)
    (case zz_max => k_is)
    (case zz_min => k_is)
    (case zz_range => k_is)
    (case zz_repr => k_is)
    (case zz_set => k_is)
    (case zz_str => k_is)
    (case zz_tuple => k_is)
    (case n_ALONE => k_is)
    (case l_ALONE => k_is)
    (case y_ALONE => rfl)
    (case d_ALONE => rfl)
    (case q_ALONE => rfl)
    (case r_ALONE => rfl)
    (case n_BARE => k_is)
    (case l_BARE => k_is)
    (case y_BARE => rfl)
    (case d_BARE => rfl)
    (case q_BARE => rfl)
    (case r_BARE => rfl)
    (case n_FIGURES => k_is)
    (case n_LEADING => k_is)
    (case l_LEADING => k_is)
    (case y_LEADING => rfl)
    (case d_LEADING => rfl)
    (case q_LEADING => rfl)
    (case r_LEADING => rfl)
    (case n_LETTERS => k_is)
    (case n_MOST_FIGURES => k_is)
    (case n_MOST_LETTERS => k_is)
    (case n_MOST_LONG => k_is)
    (case n_MOST_NAMES => k_is)
    (case n_MOST_PARTS => k_is)
    (case n_MOST_WORTH => k_is)
    (case n_MOST_WRITTEN => k_is)
    (case n_NAMED => k_is)
    (case l_NAMED => k_is)
    (case y_NAMED => rfl)
    (case d_NAMED => rfl)
    (case q_NAMED => rfl)
    (case r_NAMED => rfl)
    (case n_SIXTEEN => k_is)
    (case n_READS => k_is)
    (case d_READS => first | rfl | k_is)
    (case n_is_whole => k_is)
    (case l_is_whole => k_is)
    (case c_is_whole => k_is)
    (case k_is_whole => k_is)
    (case n_is_worth => k_is)
    (case l_is_worth => k_is)
    (case c_is_worth => k_is)
    (case k_is_worth => k_is)
    (case n_is_name => k_is)
    (case l_is_name => k_is)
    (case c_is_name => k_is)
    (case k_is_name => k_is)
    (case n_are_unlike_names => k_is)
    (case l_are_unlike_names => k_is)
    (case c_are_unlike_names => k_is)
    (case k_are_unlike_names => k_is)
    (case w_are_unlike_names_least => k_is)
    (case v_are_unlike_names_least => exact ⟨_, rfl⟩)
    (case n_is_led_to => k_is)
    (case l_is_led_to => k_is)
    (case c_is_led_to => k_is)
    (case k_is_led_to => k_is)
    (case n_is_row => k_is)
    (case l_is_row => k_is)
    (case c_is_row => k_is)
    (case k_is_row => k_is)
    (case n_is_headed => k_is)
    (case l_is_headed => k_is)
    (case c_is_headed => k_is)
    (case k_is_headed => k_is)
    (case n_is_program => k_is)
    (case l_is_program => k_is)
    (case c_is_program => k_is)
    (case k_is_program => k_is)
    (case n_look_program => k_is)
    (case l_look_program => k_is)
    (case c_look_program => k_is)
    (case k_look_program => k_is)
    (case n_show_row => k_is)
    (case l_show_row => k_is)
    (case c_show_row => k_is)
    (case k_show_row => k_is)
    (case n_show_program => k_is)
    (case l_show_program => k_is)
    (case c_show_program => k_is)
    (case k_show_program => k_is)
    (case n_number_in => k_is)
    (case l_number_in => k_is)
    (case c_number_in => k_is)
    (case k_number_in => k_is)
    (case n_read_row_number => k_is)
    (case l_read_row_number => k_is)
    (case c_read_row_number => k_is)
    (case k_read_row_number => k_is)
    (case n_read_worth => k_is)
    (case l_read_worth => k_is)
    (case c_read_worth => k_is)
    (case k_read_worth => k_is)
    (case n_read_name => k_is)
    (case l_read_name => k_is)
    (case c_read_name => k_is)
    (case k_read_name => k_is)
    (case n_row_of => k_is)
    (case l_row_of => k_is)
    (case c_row_of => k_is)
    (case k_row_of => k_is)
    (case n_begins_part => k_is)
    (case l_begins_part => k_is)
    (case c_begins_part => k_is)
    (case k_begins_part => k_is)
    (case n_stands => k_is)
    (case l_stands => k_is)
    (case c_stands => k_is)
    (case k_stands => k_is)
    (case n_read_program => k_is)
    (case l_read_program => k_is)
    (case c_read_program => k_is)
    (case k_read_program => k_is)
    (case n__law_bag => k_is)
    (case l__law_bag => k_is)
    (case c__law_bag => k_is)
    (case k__law_bag => k_is)
    (case n__law_take => k_is)
    (case l__law_take => k_is)
    (case c__law_take => k_is)
    (case k__law_take => k_is)
    (case n__law_names => k_is)
    (case l__law_names => k_is)
    (case c__law_names => k_is)
    (case k__law_names => k_is)
    (case n__law_worth => k_is)
    (case l__law_worth => k_is)
    (case c__law_worth => k_is)
    (case k__law_worth => k_is)
    (case n__law_row => k_is)
    (case l__law_row => k_is)
    (case c__law_row => k_is)
    (case k__law_row => k_is)
    (case n__law_program => k_is)
    (case l__law_program => k_is)
    (case c__law_program => k_is)
    (case k__law_program => k_is)
    (case n__law_figures => k_is)
    (case l__law_figures => k_is)
    (case c__law_figures => k_is)
    (case k__law_figures => k_is)
    (case n__law_written => k_is)
    (case l__law_written => k_is)
    (case c__law_written => k_is)
    (case k__law_written => k_is)
    (case n__law_sixteen => k_is)
    (case l__law_sixteen => k_is)
    (case c__law_sixteen => k_is)
    (case k__law_sixteen => k_is)
    (case n__law_text => k_is)
    (case l__law_text => k_is)
    (case c__law_text => k_is)
    (case k__law_text => k_is)
    (case n_law => k_is)
    (case l_law => k_is)
    (case c_law => k_is)
    (case k_law => k_is)
    (case y_READS_put => k_is)
    (case y_READS_get => k_is)
    (case y_READS_set => k_is)
    (case y_READS_look => k_is)
    (case y_READS_change => k_is)
    (case y_READS_call => k_is)
    (case y_READS_go => k_is)
    (case y_READS_if => k_is)
    (case y_READS_try => k_is)
#print axioms PySem.Challenge.cw_watchedrun_k68_programs_read_holds
