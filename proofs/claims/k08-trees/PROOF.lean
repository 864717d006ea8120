import PyProof.Rows.All
import Wide.All
import OpenK.AllK
import Wide.FinOn
import HandS.List
import HandS.TupAny
import HandS.ForMost
import HandS.Exc
import HandS.TryOnly
import HandS.ExcOwn
import HandS.Defaults
import HandS.WordsExc
import HandS.EndBits
import HandS.Flow
import HandS.Wide
import HandS.Conv
import KE.GoesMore
import PyProof.EnumMake
import HandS.Iter
import HandS.Strs
import HandS.IsInst
import PyProof.ReprRoads
import PyProof.StrOps2
import HandS.Text
import HandS.Sort
import PyProof.CollectIter
import PyProof.WalksMore
import KE.KUnpack
import HandS.More
import HandS.RaiseMore
import HandS.StrMore
import HandS.CallLocal
import HandS.HeadHook3
import HandS.IntHex
import KE.KIntText
import KE.KRevSl
import KE.KIsAll
import HandS.ExcIs
import HandS.TupMul
import HandS.Style
import PyProof.Rows.IntBool
import PyProof.Rows.TupMore
import HandS.ExcField
import HandS.TryMany
import HandS.ExcInit
import Open.SpecLaws
import KE.OsGo
import HandS.Dict
import HandS.WordsDict
import KE.KExcInit
import PyProof.ExcBaseAll.OverflowError
import PyProof.ReprLen
import PyProof.StrLawsRepr
import PyProof.FitsInt
import PySem.Challenge.RW_watchedrun_k08_trees_made
set_option Elab.async false
set_option maxRecDepth 100000
set_option linter.unusedVariables false
/-! ZT: tuples laid with their object, which has no dict of its own; t.count(x). -/
namespace Z
open PySem PySem.Spec PyProof.Rows L2
/-- a tuple with its object -/
def FT (u : HO) (xs : List V) : Prop := ∃ o : Obj, u = .frz o (.tup xs) ∧ o.cls = .type "tuple" ∧ o.dict = none
def newT (its : Array Value) : Obj := { cls := .type "tuple", data := .seq its }
section
variable {X : Cx} {pins : List (Addr × Obj)} {σ : L2.St} {H : Hp} {s : Shared}
theorem ft_new {its : List Value} {xs : List V} : FT (.frz (newT its.toArray) (.tup xs)) xs := ⟨_, rfl, rfl, rfl⟩
theorem laidT {h' : Heap} {tk : Nat} {its : List Value} {xs : List V} (I : Inv X pins σ H s) (k : ∀ b o, s.heap.get? b = some o → h'.get? b = some o) (n : s.heap.objs.size ≤ h'.objs.size) (r : Vals xs its) (l : xs.length ≤ sizeLine) :
    Inv X pins σ (upd H h'.objs.size (.frz (newT its.toArray) (.tup xs))) { s with heap := h'.push { cls := .type "tuple", data := .seq its.toArray }, toks := tk } :=
  I.laid (o := .frz (newT its.toArray) (.tup xs)) (fun b o e => Heap.get?_push_of_some _ (k b o e)) n ⟨Heap.get?_push_size _ rfl, l, its, r, IsTup.new _ _⟩
end
section
variable {X : Cx} {es : List Expr} {t : TA} {pos : Pos}
def tTupF (t : TA) : TE := fun σ H Q => t σ H fun xs H1 => xs.length ≤ sizeLine ∧ ∀ p u, H1 p = none → FT u xs → Q (.ref p) (upd H1 p u)
theorem pe_tupF {x1} (h : PA X es t) : PE X (.Tuple es x1 pos) (tTupF t) := by
  refine ⟨fun pins s σ H Q I hq => ?_⟩
  refine wpAny_Tuple_spliced (thn (h.run pos pins s σ H _ I hq) fun us s1 ⟨xs, H1, I1, r, z, q⟩ => ⟨by rw [← r.length]; exact z, ?_⟩)
  exact ⟨.ref s1.heap.objs.size, _, laidT (tk := s1.toks) I1 (fun _ _ e => e) (Nat.le_refl _) r z, rfl, q _ _ (I1.hok.fresh (Nat.le_refl _)) ft_new⟩
/-- t + u -/
def rCatF (K : PySem.W.Frag) : R2 := fun x y H Q => ∃ a b xs ys, x = .ref a ∧ y = .ref b ∧ SqT K H a xs ∧ SqT K H b ys ∧ xs.length + ys.length ≤ sizeLine ∧
  (xs = [] → Q (.ref b) H) ∧ (xs ≠ [] → ys = [] → Q (.ref a) H) ∧ (xs ≠ [] → ys ≠ [] → ∀ p u, H p = none → FT u (xs ++ ys) → Q (.ref p) (upd H p u))
theorem op_catF : OpR X (binaryOp .Add) (rCatF X.K) := by
  intro pins s σ H x y v u Q I rx ry h
  obtain ⟨a, b, xs, ys, rfl, rfl, ha, hb, hz, q0, q1, q2⟩ := h
  cases rx
  cases ry
  obtain ⟨its, r1, p1, _⟩ := I.tuple ha
  obtain ⟨its2, r2, p2, _⟩ := I.tuple hb
  by_cases hx : xs = []
  · subst hx
    cases r1
    exact cat_tup0 p1 p2 ⟨.ref b, H, I, rfl, q0 rfl⟩
  · refine HT.cat_tup p1 p2 (fun z => hx (r1.nil_iff.mp z)) (fun z => ⟨.ref a, H, I, rfl, q1 hx (r2.nil_iff.mp z)⟩) (fun z => ?_) (by rw [← r1.length, ← r2.length]; exact hz)
    exact ⟨.ref s.heap.objs.size, _, laidT (tk := s.toks) I (fun _ _ e => e) (Nat.le_refl _) (r1.append r2) (by rw [List.length_append]; exact hz), rfl, q2 hx (fun w => z (r2.nil_iff.mpr w)) _ _ (I.hok.fresh (Nat.le_refl _)) ft_new⟩
/-- t[lo:hi] -/
def rSlF (K : PySem.W.Frag) : V → Option Int → Option Int → Hp → VK → Prop := fun x lo hi H Q => ∃ a xs, x = .ref a ∧ SqT K H a xs ∧
  (HT.sIx xs.length 0 lo = 0 ∧ HT.sIx xs.length xs.length hi = xs.length → Q (.ref a) H) ∧ (¬ (HT.sIx xs.length 0 lo = 0 ∧ HT.sIx xs.length xs.length hi = xs.length) → ∀ p u, H p = none → FT u (cutV xs lo hi) → Q (.ref p) (upd H p u))
theorem sl_tupF : SlR X (rSlF X.K) := by
  intro pins s σ H x v vl vu lo hi sl Q I rx hs pl pu h
  obtain ⟨a, xs, rfl, hx, q1, q2⟩ := h
  cases rx
  obtain ⟨its, r, ht, hz⟩ := I.tuple hx
  have hlen : its.toArray.size = xs.length := by rw [List.size_toArray]; exact r.length.symm
  refine ⟨"tuple", _, PyProof.Rows.slot_tuple_getitem.lookup, ht.typeIs, ?_⟩
  by_cases hw : HT.sIx xs.length 0 lo = 0 ∧ HT.sIx xs.length xs.length hi = xs.length
  · exact getItem_tuple_whole ht hs pl pu (by rw [hlen]; exact hw) ⟨.ref a, H, I, rfl, q1 hw⟩
  · refine HT.getItem_tuple_cut ht hs pl pu (by rw [hlen]; exact hw) ?_ (by rw [hlen]; exact hz)
    rw [hlen]
    exact ⟨.ref s.heap.objs.size, _, laidT (tk := s.toks) I (fun _ _ e => e) (Nat.le_refl _) ((r.drop (HT.sIx xs.length 0 lo)).take (HT.sIx xs.length xs.length hi - HT.sIx xs.length 0 lo)) (Nat.le_trans (cutV_length xs lo hi) hz), rfl, q2 hw _ _ (I.hok.fresh (Nat.le_refl _)) ft_new⟩
/-- tuple(x) -/
theorem call_tupleF : CallR X (.type "tuple") (fun xs H Q => ∃ p ys, xs = [.ref p] ∧ ((SqL X.K H p ys ∧ ∀ l u, H l = none → FT u ys → Q (.ref l) (upd H l u)) ∨ (SqT X.K H p ys ∧ Q (.ref p) H))) := by
  intro pins s σ H xs us Q I r h
  obtain ⟨p, ys, rfl, h⟩ := h
  obtain ⟨u, rfl, rx⟩ := vals1 r
  cases rx
  rcases h with ⟨hq, q⟩ | ⟨hq, q⟩
  · obtain ⟨its, r', pl, hz⟩ := I.list hq
    have hlen := r'.length
    refine call_tuple_list pl.isList (fun h' kp => ?_) (by simp only [List.size_toArray] <;> omega)
    have I1 : Inv X pins σ H { s with heap := h' } := I.kept (t' := s.toks) kp
    exact ⟨.ref h'.objs.size, _, laidT (s := { s with heap := h' }) (tk := s.toks) I1 (fun _ _ e => e) (Nat.le_refl _) r' hz, rfl, q _ _ (I1.hok.fresh (Nat.le_refl _)) ft_new⟩
  · obtain ⟨its, r', pl, hz⟩ := I.tuple hq
    exact call_tuple_same pl ⟨.ref p, H, I, rfl, q⟩
/-! ### t.count(x) -/
/-- a tuple that is known to have no dict of its own -/
def NoD (K : PySem.W.Frag) (H : Hp) (a : Addr) (xs : List V) : Prop := (∃ u, H a = some u ∧ FT u xs) ∨
  ∃ (o : Obj) (its : Array Value) (n : Nat), K.lookup a = some o ∧ o.cls = .type "tuple" ∧ o.dict = none ∧ o.data = .seq its n ∧ its.size ≤ sizeLine ∧ Vals xs its.toList
theorem NoD.sq {K : PySem.W.Frag} {a : Addr} {xs : List V} {H : Hp} (h : NoD K H a xs) : SqT K H a xs := by
  rcases h with ⟨u, e, o, rfl, _, _⟩ | ⟨o, its, n, a, b, c, d, e, f⟩
  · exact .inl (.inr ⟨o, e⟩)
  · exact .inr ⟨o, its, n, a, b, d, e, f⟩
theorem NoD.there {X : Cx} {pins : List (Addr × Obj)} {σ : L2.St} {H : Hp} {s : Shared} {a : Addr} {xs : List V} (h : NoD X.K H a xs) (I : Inv X pins σ H s) : ∃ o, s.heap.get? a = some o ∧ o.cls = .type "tuple" ∧ o.dict = none := by
  rcases h with ⟨u, e, o, rfl, c, d⟩ | ⟨o, its, n, a, b, c, _⟩
  · exact ⟨o, (show s.heap.get? a = some o ∧ _ from I.hok a _ e).1, c, d⟩
  · exact ⟨o, I.kIn _ o a, b, c⟩
variable {o e : Expr} {to te : TE} {apos cpos : Pos}
def tCnt (K : PySem.W.Frag) (to : TE) (ta : TA) : TE := fun σ H Q => to σ H fun x H1 => ∃ a xs, x = .ref a ∧ NoD K H1 a xs ∧ ta σ H1 fun ys H2 => ∃ y, ys = [y] ∧ SqT K H2 a xs ∧ flatV y = true ∧ xs.all flatV = true ∧ Q (.int ((xs.countP fun z => eqV z y : Nat) : Int)) H2
theorem countP_eqU {x : V} : ∀ {xs : List V} {us : List Value}, Vals xs us → xs.all flatV = true → us.countP (eqU x) = xs.countP fun y => eqV y x
  | _, _, .nil, _ => rfl
  | y :: xs, u :: us, .cons r t, f => by
    rw [List.all_cons, Bool.and_eq_true] at f
    rw [List.countP_cons, List.countP_cons, eqU_of r f.1, countP_eqU t f.2]
theorem pe_cnt {ta : TA} (ho : PE X o to) (ha : PA X [e] ta)
    (hbase : attributeBase o "count" X.env (eval o X.env) = eval o X.env := by rfl)
    (hfew : ((backTo cpos (starEach [e] X.env)).all (fun x => !x.1) && (backToKw cpos (keywordEach [] X.env)).all (fun x => x.1.isSome)
      && decide (([e] : List Expr).length + ([] : List Keyword).length + (if ([] : List Keyword).isEmpty then 0 else 1) < 30)) = true := by rfl)
    (hline : (apos.endLine == cpos.line) = true := by rfl) (hs : starEach [e] X.env = (false, eval e X.env) :: starEach [] X.env := by rfl) (hplain : (backTo cpos (starEach [] X.env)).any (·.1) = false := by rfl) :
    PE X (.Call (.Attribute o "count" apos) [e] [] cpos) (tCnt X.K to ta) := by
  refine ⟨fun pins s σ H Q I h => ?_⟩
  refine wpAny_Call_method_late hbase hfew hline rfl (thn (ho.run pins s σ H _ I h) fun v s1 ⟨x, H1, I1, r1, q1⟩ => ?_)
  obtain ⟨a, xs, rfl, nd, q1⟩ := q1
  cases r1
  obtain ⟨ob, e1, e2, e3⟩ := nd.there I1
  refine ⟨"tuple", "tuple.count", PySem.F.plainAttrs_tuple, PySem.F.slot_tuple_count, PySem.F.type_tuple_count, ⟨ob, e1, e2⟩, fun b eb => ?_, ?_⟩
  · cases eb; exact ⟨ob, e1, e3⟩
  have hA := ha.run cpos pins s1 σ H1 _ I1 q1
  rw [hs] at hA ⊢
  refine Calls.callWith_builtin (by show (false || (backTo cpos (starEach [] X.env)).any (·.1)) = false; rw [hplain] <;> rfl) (Calls.evalArgs_plain ?_)
  refine thn hA fun us s2 ⟨vs, H2, I2, r2, y, ey, sq, fy, fs, q2⟩ => ?_
  subst ey
  obtain ⟨w, rfl, rw'⟩ := vals1 r2
  obtain ⟨its, r', pl, hz⟩ := I2.tuple sq
  obtain ⟨⟨cls, dd, dt, sl⟩, ho', hc, n, hd⟩ := pl
  simp only at hc hd
  subst hc
  subst hd
  refine call_meets PySem.F.slot_tuple_count ⟨_, ho', rfl⟩ PySem.F.entry_tuple_count (PySem.F.args_tuple_count_2 _ _) (SeqAt.tuple_countAt a its.toArray n dd sl w (eqU y))
    ⟨ho', fun z hz => mem_eqAt rw' fy r' fs z (by simpa using hz), ⟨.int _, H2, I2.tok _, ⟨s2.toks, ?_⟩, q2⟩⟩
  show Value.int ((its.toArray.toList.countP (eqU y) : Nat) : Int) s2.toks = _
  rw [show its.toArray.toList = its from rfl, countP_eqU r' fs]
end
end Z
set_option Elab.async false
set_option maxRecDepth 100000
/-! Z0: own values and heaps, how they stand in the layer's heap, the readings made of own programs. -/
namespace Z
open PySem PySem.Spec PyProof.Rows L2

/-- own values: tuples and lists that stay as they are stand inline; ref: an own object -/
inductive Val where
  | non | bl (b : Bool) | int (i : Int) | str (x : Str)
  | tup (xs : List Val) | lst (xs : List Val)
  | ref (n : Nat) | glo (a : Addr) | ty (n : String) | scr (ns : List Int)
  /-- a caught exception at a, its fields at dd -/
  | exn (a dd : Addr) (ns : List Str) (ws : List Val)
/-- own objects -/
inductive Ob where
  | lst (xs : List Val)
  | dic (kvs : List (Key × Val))
  | ins (C : Addr) (fs : List (Str × Val))
abbrev HH := List Ob
structure Ex where
  cls : Value
  fs : List (Str × Val)
inductive Out (β : Type) where
  | bad
  | ok (a : β) (h : HH)
  | ex (e : Ex) (h : HH)
abbrev M (β : Type) := HH → Out β
abbrev En := List (Option Val)
abbrev SE := En → M Val
def obind {β γ : Type} (o : Out β) (f : β → M γ) : Out γ := match o with
  | .bad => .bad
  | .ok a h => f a h
  | .ex e h => .ex e h
def bind {β γ : Type} (m : M β) (f : β → M γ) : M γ := fun h => obind (m h) f
def ret {β : Type} (a : β) : M β := fun h => .ok a h
def fail {β : Type} : M β := fun _ => .bad
theorem obind_ok {β γ : Type} (a : β) (h : HH) (f : β → M γ) : obind (.ok a h) f = f a h := rfl
theorem obind_bad {β γ : Type} (f : β → M γ) : obind .bad f = .bad := rfl
theorem obind_ex {β γ : Type} (e : Ex) (h : HH) (f : β → M γ) : obind (.ex e h) f = .ex e h := rfl

/-! ### how they stand -/
/-- the thing at a stays as it is: al the own objects' addresses, B those that are being made -/
def At (al B : List Addr) (H : Hp) (a : Addr) (u : HO) : Prop := (H a = some u ∨ ∃ o, H a = some (.frz o u)) ∧ a ∉ al ∧ a ∉ B
def At1 (al B : List Addr) (H : Hp) (a : Addr) (u : HO) : Prop := H a = some u ∧ a ∉ al ∧ a ∉ B
def KL (K : PySem.W.Frag) (a : Addr) (xs : List V) : Prop :=
  ∃ (o : Obj) (its : Array Value) (n : Nat), K.lookup a = some o ∧ o.cls = .type "list" ∧ o.dict = none ∧ o.data = .seq its n ∧ its.size ≤ sizeLine ∧ Vals xs its.toList
def AtT (al B : List Addr) (H : Hp) (a : Addr) (xs : List V) : Prop := ∃ u, At1 al B H a u ∧ FT u xs
def KT (K : PySem.W.Frag) (a : Addr) (xs : List V) : Prop :=
  ∃ (o : Obj) (its : Array Value) (n : Nat), K.lookup a = some o ∧ o.cls = .type "tuple" ∧ o.dict = none ∧ o.data = .seq its n ∧ its.size ≤ sizeLine ∧ Vals xs its.toList
mutual
inductive Rep (K : PySem.W.Frag) (al B : List Addr) (H : Hp) : Val → V → Prop
  | non : Rep K al B H .non .non
  | bl (b : Bool) : Rep K al B H (.bl b) (.bl b)
  | int (i : Int) : Rep K al B H (.int i) (.int i)
  | str (x : Str) : Rep K al B H (.str x) (.str x)
  | tup {a : Addr} {xs : List Val} {vs : List V} : (AtT al B H a vs ∨ KT K a vs) → xs.length ≤ sizeLine → Reps K al B H xs vs → Rep K al B H (.tup xs) (.ref a)
  | lst {a : Addr} {xs : List Val} {vs : List V} : At1 al B H a (.lst vs) → xs.length ≤ sizeLine → Reps K al B H xs vs → Rep K al B H (.lst xs) (.ref a)
  | ref {n : Nat} {a : Addr} : al[n]? = some a → Rep K al B H (.ref n) (.ref a)
  | glo (a : Addr) : Rep K al B H (.glo a) (.ref a)
  | ty (n : String) : Rep K al B H (.ty n) (.ty n)
  | scr {a : Addr} {ns : List Int} : (At al B H a (.lst (ns.map V.int)) ∨ KL K a (ns.map V.int)) → ns.length ≤ sizeLine → Rep K al B H (.scr ns) (.ref a)
  | exn {a dd : Addr} {ns : List Str} {ws : List Val} {gs : List (Str × V)} : At1 al B H dd (.xd gs) → ns = gs.map (·.1) → Reps K al B H ws (gs.map (·.2)) → Rep K al B H (.exn a dd ns ws) (.ref a)
inductive Reps (K : PySem.W.Frag) (al B : List Addr) (H : Hp) : List Val → List V → Prop
  | nil : Reps K al B H [] []
  | cons {x : Val} {xs : List Val} {v : V} {vs : List V} : Rep K al B H x v → Reps K al B H xs vs → Reps K al B H (x :: xs) (v :: vs)
end
/-- an own object -/
inductive ObR (K : PySem.W.Frag) (al B : List Addr) (H : Hp) : Ob → Addr → Prop
  | lst {a : Addr} {xs : List Val} {vs : List V} : H a = some (.lst vs) → xs.length ≤ sizeLine → Reps K al B H xs vs → ObR K al B H (.lst xs) a
  | dic {a : Addr} {kvs : List (Key × Val)} {kws : List (Key × V)} : H a = some (.dK kws) → kvs.map (·.1) = kws.map (·.1) → Reps K al B H (kvs.map (·.2)) (kws.map (·.2)) → ObR K al B H (.dic kvs) a
  | ins {a C dx : Addr} {fs : List (Str × Val)} {gs : List (Str × V)} : H a = some (.ins C dx gs) → fs.map (·.1) = gs.map (·.1) → Reps K al B H (fs.map (·.2)) (gs.map (·.2)) → ObR K al B H (.ins C fs) a
structure HR (K : PySem.W.Frag) (al B : List Addr) (H : Hp) (h : HH) : Prop where
  nd : al.Nodup
  len : al.length = h.length
  ob : ∀ (n : Nat) (a : Addr) (o : Ob), al[n]? = some a → h[n]? = some o → ObR K al B H o a
  live : ∀ a ∈ B, H a ≠ none
  apart : ∀ a ∈ B, a ∉ al
/-- a step: what isn't own stays, own ones may be added -/
structure Stp (al : List Addr) (H : Hp) (al' : List Addr) (H' : Hp) : Prop where
  more : ∃ be, al' = al ++ be ∧ ∀ b ∈ be, H b = none
  keep : ∀ a o, H a = some o → a ∉ al → H' a = some o
  up : ∀ a, H a ≠ none → H' a ≠ none
theorem Stp.refl (al : List Addr) (H : Hp) : Stp al H al H := ⟨⟨[], by simp, by simp⟩, fun _ _ e _ => e, fun _ e => e⟩
theorem Stp.notin {al al' : List Addr} {H H' : Hp} (s : Stp al H al' H') {a : Addr} (h : H a ≠ none) (n : a ∉ al) : a ∉ al' := by
  obtain ⟨be, e, f⟩ := s.more
  intro q
  rw [e] at q
  rcases List.mem_append.mp q with q | q
  · exact n q
  · exact h (f a q)
theorem Stp.trans {al al1 al2 : List Addr} {H H1 H2 : Hp} (s : Stp al H al1 H1) (t : Stp al1 H1 al2 H2) : Stp al H al2 H2 := by
  obtain ⟨be, e, f⟩ := s.more
  obtain ⟨ga, e2, g⟩ := t.more
  refine ⟨⟨be ++ ga, by rw [e2, e, List.append_assoc], fun b hb => ?_⟩, fun a o q n => ?_, fun a q => t.up a (s.up a q)⟩
  · rcases List.mem_append.mp hb with q | q
    · exact f b q
    · have := g b q
      cases z : H b with
      | none => rfl
      | some o => exact absurd this (s.up b (by rw [z]; simp))
  · exact t.keep a o (s.keep a o q n) (s.notin (by rw [q]; simp) n)
/-- a step in which those that are being made may change -/
structure StpB (B al : List Addr) (H : Hp) (al' : List Addr) (H' : Hp) : Prop where
  more : ∃ be, al' = al ++ be ∧ ∀ b ∈ be, H b = none
  keep : ∀ a o, H a = some o → a ∉ al → a ∉ B → H' a = some o
  up : ∀ a, H a ≠ none → H' a ≠ none
theorem Stp.toB {B al al' : List Addr} {H H' : Hp} (s : Stp al H al' H') : StpB B al H al' H' := ⟨s.more, fun a o e n _ => s.keep a o e n, s.up⟩
theorem StpB.notin {B al al' : List Addr} {H H' : Hp} (s : StpB B al H al' H') {a : Addr} (h : H a ≠ none) (n : a ∉ al) : a ∉ al' := by
  obtain ⟨be, e, f⟩ := s.more
  intro q
  rw [e] at q
  rcases List.mem_append.mp q with q | q
  · exact n q
  · exact h (f a q)
theorem StpB.trans {B al al1 al2 : List Addr} {H H1 H2 : Hp} (s : StpB B al H al1 H1) (t : StpB B al1 H1 al2 H2) : StpB B al H al2 H2 := by
  obtain ⟨be, e, f⟩ := s.more
  obtain ⟨ga, e2, g⟩ := t.more
  refine ⟨⟨be ++ ga, by rw [e2, e, List.append_assoc], fun b hb => ?_⟩, fun a o q n m => ?_, fun a q => t.up a (s.up a q)⟩
  · rcases List.mem_append.mp hb with q | q
    · exact f b q
    · have := g b q
      cases z : H b with
      | none => rfl
      | some o => exact absurd this (s.up b (by rw [z]; simp))
  · exact t.keep a o (s.keep a o q n m) (s.notin (by rw [q]; simp) n) m
theorem StpB.turn {B al al' : List Addr} {H H' : Hp} (s : StpB B al H al' H') {D : Addr} {u : HO} (n : D ∈ B) : StpB B al H al' (upd H' D u) :=
  ⟨s.more, fun a o e m b => by rw [upd_ne (a := D) (b := a) (fun z => b (by rw [z]; exact n))]; exact s.keep a o e m b, fun a q => by
    by_cases z : a = D
    · subst z; rw [upd_same]; simp
    · rw [upd_ne z]; exact s.up a q⟩
theorem At.stepW {al al' B : List Addr} {H H' : Hp} {a : Addr} {u : HO} (s : StpB B al H al' H') (x : At al B H a u) : (H' a = some u ∨ ∃ o, H' a = some (.frz o u)) ∧ a ∉ al' := by
  obtain ⟨q, n, m⟩ := x
  rcases q with q | ⟨o, q⟩
  · exact ⟨.inl (s.keep a _ q n m), s.notin (by rw [q]; simp) n⟩
  · exact ⟨.inr ⟨o, s.keep a _ q n m⟩, s.notin (by rw [q]; simp) n⟩
theorem At1.stepW {al al' B : List Addr} {H H' : Hp} {a : Addr} {u : HO} (s : StpB B al H al' H') (x : At1 al B H a u) : H' a = some u ∧ a ∉ al' := ⟨s.keep a _ x.1 x.2.1 x.2.2, s.notin (by rw [x.1]; simp) x.2.1⟩
theorem StpB.get {B al al' : List Addr} {H H' : Hp} (s : StpB B al H al' H') {n : Nat} {a : Addr} (h : al[n]? = some a) : al'[n]? = some a := by
  obtain ⟨be, e, _⟩ := s.more
  obtain ⟨q, r⟩ := List.getElem?_eq_some_iff.mp h
  rw [e, List.getElem?_append_left q]
  exact h
theorem At.step {al al' B : List Addr} {H H' : Hp} {a : Addr} {u : HO} (s : Stp al H al' H') (x : At al B H a u) : At al' B H' a u := by
  obtain ⟨q, n, m⟩ := x
  rcases q with q | ⟨o, q⟩
  · exact ⟨.inl (s.keep a _ q n), s.notin (by rw [q]; simp) n, m⟩
  · exact ⟨.inr ⟨o, s.keep a _ q n⟩, s.notin (by rw [q]; simp) n, m⟩
theorem At1.step {al al' B : List Addr} {H H' : Hp} {a : Addr} {u : HO} (s : Stp al H al' H') (x : At1 al B H a u) : At1 al' B H' a u := ⟨s.keep a _ x.1 x.2.1, s.notin (by rw [x.1]; simp) x.2.1, x.2.2⟩
theorem AtT.step {al al' B : List Addr} {H H' : Hp} {a : Addr} {u : List V} (s : Stp al H al' H') (x : AtT al B H a u) : AtT al' B H' a u := by
  obtain ⟨w, q, f⟩ := x
  exact ⟨w, q.step s, f⟩
theorem At1.at {al B : List Addr} {H : Hp} {a : Addr} {u : HO} (x : At1 al B H a u) : At al B H a u := ⟨.inl x.1, x.2⟩
theorem Stp.get {al al' : List Addr} {H H' : Hp} (s : Stp al H al' H') {n : Nat} {a : Addr} (h : al[n]? = some a) : al'[n]? = some a := by
  obtain ⟨be, e, _⟩ := s.more
  obtain ⟨q, r⟩ := List.getElem?_eq_some_iff.mp h
  rw [e, List.getElem?_append_left q]
  exact h
section
variable {K : PySem.W.Frag} {al al' B : List Addr} {H H' : Hp}
mutual
theorem Rep.step (s : Stp al H al' H') : ∀ {w : Val} {v : V}, Rep K al B H w v → Rep K al' B H' w v
  | _, _, .non => .non
  | _, _, .bl b => .bl b
  | _, _, .int i => .int i
  | _, _, .str x => .str x
  | _, _, .tup a l r => .tup (a.imp (AtT.step s) id) l (Reps.step s r)
  | _, _, .lst a l r => .lst (a.step s) l (Reps.step s r)
  | _, _, .ref e => .ref (s.get e)
  | _, _, .glo a => .glo a
  | _, _, .ty n => .ty n
  | _, _, .scr a l => .scr (a.imp (At.step s) id) l
  | _, _, .exn a e r => .exn (a.step s) e (Reps.step s r)
theorem Reps.step (s : Stp al H al' H') : ∀ {w : List Val} {v : List V}, Reps K al B H w v → Reps K al' B H' w v
  | _, _, .nil => .nil
  | _, _, .cons a r => .cons (Rep.step s a) (Reps.step s r)
end
theorem Reps.length : ∀ {xs : List Val} {vs : List V}, Reps K al B H xs vs → xs.length = vs.length
  | _, _, .nil => rfl
  | _, _, .cons _ r => congrArg (· + 1) r.length
theorem Reps.append : ∀ {xs ys : List Val} {vs ws : List V}, Reps K al B H xs vs → Reps K al B H ys ws → Reps K al B H (xs ++ ys) (vs ++ ws)
  | _, _, _, _, .nil, s => s
  | _, _, _, _, .cons a r, s => .cons a (r.append s)
theorem Reps.get : ∀ {xs : List Val} {vs : List V} {i : Nat} {w : Val}, Reps K al B H xs vs → xs[i]? = some w → ∃ v, vs[i]? = some v ∧ Rep K al B H w v
  | _, _, _, _, .nil, e => by simp at e
  | _, _, 0, _, .cons a r, e => by simp at e; subst e; exact ⟨_, rfl, a⟩
  | _, _, i + 1, w, .cons a r, e => by
    obtain ⟨v, p, q⟩ := r.get (i := i) (w := w) (by simpa using e)
    exact ⟨v, by simpa using p, q⟩
theorem Reps.getV : ∀ {xs : List Val} {vs : List V} {i : Nat} {v : V}, Reps K al B H xs vs → vs[i]? = some v → ∃ w, xs[i]? = some w ∧ Rep K al B H w v
  | _, _, _, _, .nil, e => by simp at e
  | _, _, 0, _, .cons a r, e => by simp at e; subst e; exact ⟨_, rfl, a⟩
  | _, _, i + 1, w, .cons a r, e => by
    obtain ⟨v, p, q⟩ := r.getV (i := i) (v := w) (by simpa using e)
    exact ⟨v, by simpa using p, q⟩
theorem Reps.take : ∀ {xs : List Val} {vs : List V} (n : Nat), Reps K al B H xs vs → Reps K al B H (xs.take n) (vs.take n)
  | _, _, 0, _ => by simp; exact .nil
  | _, _, _ + 1, .nil => .nil
  | _, _, n + 1, .cons a r => .cons a (r.take n)
theorem Reps.drop : ∀ {xs : List Val} {vs : List V} (n : Nat), Reps K al B H xs vs → Reps K al B H (xs.drop n) (vs.drop n)
  | _, _, 0, r => by simpa using r
  | _, _, _ + 1, .nil => .nil
  | _, _, n + 1, .cons a r => by simpa using r.drop n
theorem Reps.set {w : Val} {v : V} (q : Rep K al B H w v) : ∀ {xs : List Val} {vs : List V} (i : Nat), Reps K al B H xs vs → Reps K al B H (xs.set i w) (vs.set i v)
  | _, _, _, .nil => .nil
  | _, _, 0, .cons _ t => .cons q t
  | _, _, i + 1, .cons a t => .cons a (t.set q i)
theorem Reps.eraseIdx : ∀ {xs : List Val} {vs : List V} (i : Nat), Reps K al B H xs vs → Reps K al B H (xs.eraseIdx i) (vs.eraseIdx i)
  | _, _, _, .nil => .nil
  | _, _, 0, .cons _ t => t
  | _, _, i + 1, .cons a t => .cons a (t.eraseIdx i)
theorem Reps.reverse : ∀ {xs : List Val} {vs : List V}, Reps K al B H xs vs → Reps K al B H xs.reverse vs.reverse
  | _, _, .nil => .nil
  | _, _, .cons a t => by
    rw [List.reverse_cons, List.reverse_cons]
    exact t.reverse.append (.cons a .nil)
end
theorem KL.sq {K : PySem.W.Frag} {H : Hp} {a : Addr} {xs : List V} (h : KL K a xs) : SqL K H a xs := .inr h
theorem noD_of {K : PySem.W.Frag} {al B : List Addr} {H : Hp} {a : Addr} {xs : List V} (h : AtT al B H a xs ∨ KT K a xs) : NoD K H a xs := by
  rcases h with ⟨u, q, f⟩ | h
  · exact .inl ⟨u, q.1, f⟩
  · exact .inr h
theorem sqT_of {K : PySem.W.Frag} {al B : List Addr} {H : Hp} {a : Addr} {xs : List V} (h : AtT al B H a xs ∨ KT K a xs) : SqT K H a xs := (noD_of h).sq
theorem sqL_of {K : PySem.W.Frag} {al B : List Addr} {H : Hp} {a : Addr} {xs : List V} (h : At al B H a (.lst xs) ∨ KL K a xs) : SqL K H a xs := by
  rcases h with ⟨h, _⟩ | h
  · exact .inl h
  · exact .inr h
theorem ObR.live {K : PySem.W.Frag} {al B : List Addr} {H : Hp} {o : Ob} {a : Addr} (x : ObR K al B H o a) : H a ≠ none := by
  cases x with
  | lst h _ _ => rw [h]; simp
  | dic h _ _ => rw [h]; simp
  | ins h _ _ => rw [h]; simp
theorem HR.alive {K : PySem.W.Frag} {al B : List Addr} {H : Hp} {h : HH} (x : HR K al B H h) {a : Addr} (q : a ∈ al) : H a ≠ none := by
  obtain ⟨n, hn, rfl⟩ := List.getElem_of_mem q
  have l : n < h.length := by rw [← x.len]; exact hn
  exact (x.ob n _ h[n] (List.getElem?_eq_getElem hn) (List.getElem?_eq_getElem l)).live
theorem HR.fresh {K : PySem.W.Frag} {al B : List Addr} {H : Hp} {h : HH} (x : HR K al B H h) {p : Addr} (q : H p = none) : p ∉ al ∧ p ∉ B := ⟨fun z => x.alive z q, fun z => x.live p z q⟩
theorem ObR.mono {K : PySem.W.Frag} {al B al' : List Addr} {H H' : Hp} {o : Ob} {a : Addr} (x : ObR K al B H o a) (s : Stp al H al' H') (e : H' a = H a) : ObR K al' B H' o a := by
  cases x with
  | lst h l r => exact .lst (e.trans h) l (r.step s)
  | dic h k r => exact .dic (e.trans h) k (r.step s)
  | ins h k r => exact .ins (e.trans h) k (r.step s)
/-- a thing that stays is laid -/
theorem Stp.lay {al : List Addr} {H : Hp} {p : Addr} {o : HO} (n : H p = none) : Stp al H al (upd H p o) :=
  ⟨⟨[], by simp, by simp⟩, fun a u e _ => by rw [upd_ne (ne_of_none e n)]; exact e, fun a q => by
    by_cases z : a = p
    · subst z; rw [upd_same]; simp
    · rw [upd_ne z]; exact q⟩
theorem HR.lay {K : PySem.W.Frag} {al B : List Addr} {H : Hp} {h : HH} (x : HR K al B H h) {p : Addr} {o : HO} (n : H p = none) : HR K al B (upd H p o) h :=
  ⟨x.nd, x.len, fun i a u e1 e2 => (x.ob i a u e1 e2).mono (Stp.lay n) (upd_ne fun z => (x.fresh n).1 (z ▸ List.mem_of_getElem? e1)), fun a ha => (Stp.lay (al := al) n).up a (x.live a ha), x.apart⟩
theorem At.lay {K : PySem.W.Frag} {al B : List Addr} {H : Hp} {h : HH} (x : HR K al B H h) {p : Addr} {o : HO} (n : H p = none) : At al B (upd H p o) p o :=
  ⟨.inl upd_same, (x.fresh n).1, (x.fresh n).2⟩
theorem AtT.lay {K : PySem.W.Frag} {al B : List Addr} {H : Hp} {h : HH} {u : HO} {xs : List V} (x : HR K al B H h) {p : Addr} (n : H p = none) (f : FT u xs) : AtT al B (upd H p u) p xs :=
  ⟨u, ⟨upd_same, (x.fresh n).1, (x.fresh n).2⟩, f⟩
theorem At1.lay {K : PySem.W.Frag} {al B : List Addr} {H : Hp} {h : HH} (x : HR K al B H h) {p : Addr} {o : HO} (n : H p = none) : At1 al B (upd H p o) p o :=
  ⟨upd_same, (x.fresh n).1, (x.fresh n).2⟩
/-- an own object is laid -/
theorem Stp.new {al : List Addr} {H : Hp} {p : Addr} {o : HO} (n : H p = none) : Stp al H (al ++ [p]) (upd H p o) :=
  ⟨⟨[p], rfl, by simpa using n⟩, (Stp.lay n).keep, (Stp.lay (al := al) n).up⟩
theorem HR.new {K : PySem.W.Frag} {al B : List Addr} {H : Hp} {h : HH} (x : HR K al B H h) {p : Addr} {u : HO} {o : Ob} (n : H p = none) (r : ObR K (al ++ [p]) B (upd H p u) o p) : HR K (al ++ [p]) B (upd H p u) (h ++ [o]) := by
  refine ⟨?_, by simp [x.len], fun i a v e1 e2 => ?_, fun a ha => (Stp.lay (al := al) n).up a (x.live a ha), fun a ha q => ?_⟩
  · rw [List.nodup_append]
    refine ⟨x.nd, by simp, fun a ha b hb => ?_⟩
    simp at hb
    subst hb
    exact fun z => (x.fresh n).1 (z ▸ ha)
  · by_cases z : i < al.length
    · rw [List.getElem?_append_left z] at e1
      rw [List.getElem?_append_left (by rw [← x.len]; exact z)] at e2
      exact (x.ob i a v e1 e2).mono (Stp.new n) (upd_ne fun z => (x.fresh n).1 (z ▸ List.mem_of_getElem? e1))
    · have l := (List.getElem?_eq_some_iff.mp e1).1
      have : i = al.length := by simp at l; omega
      subst this
      rw [List.getElem?_concat_length] at e1
      rw [x.len, List.getElem?_concat_length] at e2
      cases e1; cases e2
      exact r
  · rcases List.mem_append.mp q with q | q
    · exact x.apart a ha q
    · simp at q; subst q; exact x.live a ha n
theorem nodupIx {al : List Addr} (nd : al.Nodup) : ∀ {i j : Nat} {a : Addr}, al[i]? = some a → al[j]? = some a → i = j := by
  intro i j a h1 h2
  obtain ⟨p, q⟩ := List.getElem?_eq_some_iff.mp h1
  exact (List.getElem?_inj p nd).mp (h1.trans h2.symm)
/-- an own object is written -/
theorem Stp.put {al : List Addr} {H : Hp} {p : Addr} {o : HO} (n : p ∈ al) : Stp al H al (upd H p o) :=
  ⟨⟨[], by simp, by simp⟩, fun a u e m => by rw [upd_ne (a := p) (b := a) (fun z => m (by rw [z]; exact n))]; exact e, fun a q => by
    by_cases z : a = p
    · subst z; rw [upd_same]; simp
    · rw [upd_ne z]; exact q⟩
theorem HR.put {K : PySem.W.Frag} {al B : List Addr} {H : Hp} {h : HH} (x : HR K al B H h) {n : Nat} {p : Addr} {u : HO} {o : Ob} (e : al[n]? = some p) (r : ObR K al B (upd H p u) o p) : HR K al B (upd H p u) (h.set n o) := by
  have hp : p ∈ al := List.mem_of_getElem? e
  have s : Stp al H al (upd H p u) := Stp.put hp
  refine ⟨x.nd, by simp [x.len], fun i a v e1 e2 => ?_, fun a ha => s.up a (x.live a ha), x.apart⟩
  by_cases z : i = n
  · subst z
    rw [e] at e1; cases e1
    have l : i < h.length := by have := (List.getElem?_eq_some_iff.mp e2).1; simpa using this
    rw [List.getElem?_set_self l] at e2
    cases e2
    exact r
  · rw [List.getElem?_set_ne (fun q => z q.symm)] at e2
    refine (x.ob i a v e1 e2).mono s (upd_ne fun q => ?_)
    subst q
    exact z (nodupIx x.nd e1 e)
/-! ### states -/
structure Sim (K : PySem.W.Frag) (al B : List Addr) (ro : En) (h : HH) (sg : L2.St) (H : Hp) : Prop where
  hr : HR K al B H h
  len : ro.length = sg.length
  env : ∀ (i : Nat) (w : Val), ro[i]? = some (some w) → ∃ v, sg[i]? = some (some v) ∧ Rep K al B H w v
theorem Sim.step {K : PySem.W.Frag} {al al' B : List Addr} {ro : En} {h h' : HH} {sg : L2.St} {H H' : Hp} (x : Sim K al B ro h sg H) (s : Stp al H al' H') (hr : HR K al' B H' h') : Sim K al' B ro h' sg H' :=
  ⟨hr, x.len, fun i w e => by obtain ⟨v, p, q⟩ := x.env i w e; exact ⟨v, p, q.step s⟩⟩
/-- a raised exception -/
def ExR (K : PySem.W.Frag) (al B : List Addr) (H : Hp) (e : Ex) (cls : Value) (d : Option Addr) : Prop :=
  cls = e.cls ∧ (e.fs = [] → d = none) ∧ (e.fs ≠ [] → ∃ dd gs, d = some dd ∧ H dd = some (.xd gs) ∧ dd ∉ al ∧ dd ∉ B ∧ e.fs.map (·.1) = gs.map (·.1) ∧ Reps K al B H (e.fs.map (·.2)) (gs.map (·.2)))
/-- what must follow an own run -/
def Po {β γ : Type} (K : PySem.W.Frag) (B : List Addr) (rb : List Addr → Hp → β → γ → Prop) (sg : L2.St) (al : List Addr) (H : Hp) (o : Out β) (W : WX) (Q : γ → Hp → Prop) : Prop :=
  match o with
  | .bad => False
  | .ok w h' => ∀ al' H' v, Stp al H al' H' → HR K al' B H' h' → rb al' H' w v → Q v H'
  | .ex e h' => ∀ al' H' cls d, Stp al H al' H' → HR K al' B H' h' → ExR K al' B H' e cls d → W cls d sg H'
section
variable {β γ δ ε : Type} {K : PySem.W.Frag} {B : List Addr} {rb : List Addr → Hp → β → γ → Prop} {rc : List Addr → Hp → δ → ε → Prop} {sg : L2.St} {al al' : List Addr} {H H' : Hp} {o : Out β} {W : WX} {Q Q' : γ → Hp → Prop}
theorem Po.mono (p : Po K B rb sg al H o W Q) (h : ∀ v H', Q v H' → Q' v H') : Po K B rb sg al H o W Q' := by
  cases o with
  | bad => exact p
  | ok w h' => exact fun a b c d e f => h _ _ (p a b c d e f)
  | ex e h' => exact p
theorem Po.step (p : Po K B rb sg al H o W Q) (s : Stp al H al' H') : Po K B rb sg al' H' o W Q := by
  cases o with
  | bad => exact p
  | ok w h' => exact fun a b c d e f => p a b c (s.trans d) e f
  | ex e h' => exact fun a b c d e f => p a b c d (s.trans e) f
theorem Po.bind {f : β → M δ} {R : ε → Hp → Prop} (p : Po K B rc sg al H (obind o f) W R) :
    Po K B rb sg al H o W (fun v H1 => ∃ al1 h1 w, Stp al H al1 H1 ∧ HR K al1 B H1 h1 ∧ rb al1 H1 w v ∧ Po K B rc sg al1 H1 (f w h1) W R) := by
  cases o with
  | bad => exact p
  | ok w h' => exact fun a b c d e f => ⟨a, h', w, d, e, f, Po.step (o := _) p d⟩
  | ex e h' => exact p
theorem Po.now {w : β} {h : HH} {v : γ} (p : Po K B rb sg al H (.ok w h) W Q) (hr : HR K al B H h) (r : rb al H w v) : Q v H := p al H v (Stp.refl al H) hr r
end
/-- an expression's reading -/
def tE (K : PySem.W.Frag) (W : WX) (m : SE) : TE := fun sg H Q => ∃ al B ro h, Sim K al B ro h sg H ∧ Po K B (fun al H => Rep K al B H) sg al H (m ro h) W Q
def tA (K : PySem.W.Frag) (W : WX) (m : En → M (List Val)) : TA := fun sg H Q => ∃ al B ro h, Sim K al B ro h sg H ∧ Po K B (fun al H => Reps K al B H) sg al H (m ro h) W Q
def tT (K : PySem.W.Frag) (W : WX) (m : En → M Bool) : TT := fun sg H Q => ∃ al B ro h, Sim K al B ro h sg H ∧ Po K B (fun _ _ a b => a = b) sg al H (m ro h) W Q
end Z
set_option Elab.async false
set_option maxRecDepth 100000
/-! Z1: expressions. -/
namespace Z
open PySem PySem.Spec PyProof.Rows L2
section
variable {X : Cx} {W : WX} {a b c e : Expr} {m m1 m2 m3 : SE} {pos : Pos}
theorem PE.weak {t t' : TE} (h : PE X e t) (i : ∀ sg H Q, t' sg H Q → t sg H Q) : PE X e t' := ⟨fun pins s sg H Q I q => h.run pins s sg H Q I (i _ _ _ q)⟩
theorem PT.weak {t t' : TT} (h : PT X e t) (i : ∀ sg H Q, t' sg H Q → t sg H Q) : PT X e t' := ⟨fun pins s sg H Q I q => h.run pins s sg H Q I (i _ _ _ q)⟩
theorem PA.weak {es : List Expr} {t t' : TA} (h : PA X es t) (i : ∀ sg H Q, t' sg H Q → t sg H Q) : PA X es t' := ⟨fun po pins s sg H Q I q => h.run po pins s sg H Q I (i _ _ _ q)⟩
/-! ### names, constants -/
def sVar (i : Nat) : SE := fun ro h => match ro[i]? with
  | some (some w) => .ok w h
  | _ => .bad
def sC (w : Val) : SE := fun _ h => .ok w h
theorem oe_var {i : Nat} {x : Str} (hN : X.N[i]? = some x) (hv : Vis X.env.scope x) (hd : (x == ("__debug__" : Str)) = false) (hcd : (x == ("__classdict__" : Str)) = false) : PE X (.Name x pos) (tE X.K W (sVar i)) := by
  refine PE.weak (pe_var hN hv hd hcd) ?_
  rintro sg H Q ⟨al, B, ro, h, S, p⟩
  unfold sVar at p
  split at p
  · rename_i w e1
    obtain ⟨v, e2, r⟩ := S.env _ _ e1
    exact ⟨v, e2, Po.now p S.hr r⟩
  · exact p.elim
theorem oe_c {w : Val} {v : V} (h : PE X e (tC v)) (r : ∀ al B H, Rep X.K al B H w v) : PE X e (tE X.K W (sC w)) := by
  refine PE.weak h ?_
  rintro sg H Q ⟨al, B, ro, h, S, p⟩
  exact Po.now p S.hr (r _ _ _)
theorem oe_int {i : Int} {j : Nat} : PE X (.Constant (.int i) j pos) (tE X.K W (sC (.int i))) := oe_c pe_int fun _ _ _ => .int i
theorem oe_bl {i : Bool} {j : Nat} : PE X (.Constant (.bool i) j pos) (tE X.K W (sC (.bl i))) := oe_c pe_bl fun _ _ _ => .bl i
theorem oe_non {j : Nat} : PE X (.Constant .none j pos) (tE X.K W (sC .non)) := oe_c pe_non fun _ _ _ => .non
theorem oe_str {x : Str} {j : Nat} : PE X (.Constant (.str x) j pos) (tE X.K W (sC (.str x))) := oe_c pe_str fun _ _ _ => .str x
theorem oe_glob {x : Str} {u : Value} {w : Val} {v : V} (hg : Gl X x) (hm : X.mg x = some u) (rv : RelV v u) (r : ∀ al B H, Rep X.K al B H w v) (hd : (x == ("__debug__" : Str)) = false) : PE X (.Name x pos) (tE X.K W (sC w)) := by
  refine PE.weak (pe_glob hg hm rv hd) ?_
  rintro sg H Q ⟨al, B, ro, h, S, p⟩
  exact Po.now p S.hr (r _ _ _)
/-! ### two operands -/
def sBin (f : Val → Val → M Val) (m1 m2 : SE) : SE := fun ro => bind (m1 ro) fun a => bind (m2 ro) fun b => f a b
def Lk2 (K : PySem.W.Frag) (f : Val → Val → M Val) (r : R2) : Prop := ∀ (W : WX) al B sg H h w1 w2 v1 v2 (Q : VK), HR K al B H h → Rep K al B H w1 v1 → Rep K al B H w2 v2 →
  Po K B (fun al H => Rep K al B H) sg al H (f w1 w2 h) W Q → r v1 v2 H Q
theorem tE_bin {K : PySem.W.Frag} {f : Val → Val → M Val} {r : R2} (lk : Lk2 K f r) (sg : L2.St) (H : Hp) (Q : VK) (p : tE K W (sBin f m1 m2) sg H Q) : tOp r (tE K W m1) (tE K W m2) sg H Q := by
  obtain ⟨al, B, ro, h, S, p⟩ := p
  refine ⟨al, B, ro, h, S, Po.mono (Po.bind p) fun v1 H1 ⟨al1, h1, w1, st1, hr1, r1, p1⟩ => ?_⟩
  refine ⟨al1, B, ro, h1, S.step st1 hr1, Po.mono (Po.bind p1) fun v2 H2 ⟨al2, h2, w2, st2, hr2, r2, p2⟩ => ?_⟩
  exact lk W al2 B sg H2 h2 w1 w2 v1 v2 Q hr2 (r1.step st2) r2 p2
theorem oe_op {op : Operator} {f : Val → Val → M Val} {r : R2} (ho : OpR X (binaryOp op) r) (lk : Lk2 X.K f r) (ha : PE X a (tE X.K W m1)) (hb : PE X b (tE X.K W m2)) : PE X (.BinOp a op b pos) (tE X.K W (sBin f m1 m2)) :=
  PE.weak (pe_op ho ha hb) (tE_bin lk)
theorem oe_cmp {op : CmpOp} {f : Val → Val → M Val} {r : R2} (ho : OpR X (compareOp op) r) (lk : Lk2 X.K f r) (hm : behindInMarks op b = false) (ha : PE X a (tE X.K W m1)) (hb : PE X b (tE X.K W m2)) : PE X (.Compare a [op] [b] pos) (tE X.K W (sBin f m1 m2)) :=
  PE.weak (pe_cmpR ho ha hb hm) (tE_bin lk)
theorem oe_ix {f : Val → Val → M Val} {r : R2} (ho : IxR X r) (lk : Lk2 X.K f r) (hs : PlainIx b) (ha : PE X a (tE X.K W m1)) (hb : PE X b (tE X.K W m2)) : PE X (.Subscript a b pos) (tE X.K W (sBin f m1 m2)) :=
  PE.weak (pe_ix ho ha hb hs) (tE_bin lk)
theorem Lk2.or {K : PySem.W.Frag} {f : Val → Val → M Val} {r r' : R2} (h : Lk2 K f r) : Lk2 K f (fun x y H Q => r x y H Q ∨ r' x y H Q) := fun W al B sg H hh w1 w2 v1 v2 Q a1 a2 a3 p => .inl (h W al B sg H hh w1 w2 v1 v2 Q a1 a2 a3 p)
/-! ### one operand -/
def sUn (f : Val → M Val) (m : SE) : SE := fun ro => bind (m ro) f
def Lk1 (K : PySem.W.Frag) (f : Val → M Val) (r : V → Hp → VK → Prop) : Prop := ∀ (W : WX) al B sg H h w v (Q : VK), HR K al B H h → Rep K al B H w v → Po K B (fun al H => Rep K al B H) sg al H (f w h) W Q → r v H Q
theorem tE_un {K : PySem.W.Frag} {f : Val → M Val} {r : V → Hp → VK → Prop} (lk : Lk1 K f r) (sg : L2.St) (H : Hp) (Q : VK) (p : tE K W (sUn f m) sg H Q) : tUn r (tE K W m) sg H Q := by
  obtain ⟨al, B, ro, h, S, p⟩ := p
  refine ⟨al, B, ro, h, S, Po.mono (Po.bind p) fun v1 H1 ⟨al1, h1, w1, st1, hr1, r1, p1⟩ => ?_⟩
  exact lk W al1 B sg H1 h1 w1 v1 Q hr1 r1 p1
theorem oe_un {op : UnaryOp} {f : Val → M Val} {r : V → Hp → VK → Prop} (ho : UnR X (unaryOp op) r) (lk : Lk1 X.K f r) (ha : PE X a (tE X.K W m)) : PE X (.UnaryOp op a pos) (tE X.K W (sUn f m)) := PE.weak (pe_un ho ha) (tE_un lk)
/-! ### argument lists -/
def aNil : En → M (List Val) := fun _ => ret []
def aCons (m : SE) (r : En → M (List Val)) : En → M (List Val) := fun ro => bind (m ro) fun x => bind (r ro) fun xs => ret (x :: xs)
theorem oa_nil : PA X [] (tA X.K W aNil) := by
  refine PA.weak pa_nil ?_
  rintro sg H Q ⟨al, B, ro, h, S, p⟩
  exact Po.now p S.hr .nil
theorem oa_cons {es : List Expr} {r : En → M (List Val)} (ha : PE X e (tE X.K W m)) (hr : PA X es (tA X.K W r)) (hs : starEach (e :: es) X.env = (false, eval e X.env) :: starEach es X.env) : PA X (e :: es) (tA X.K W (aCons m r)) := by
  refine PA.weak (pa_cons ha hr hs) ?_
  rintro sg H Q ⟨al, B, ro, h, S, p⟩
  refine ⟨al, B, ro, h, S, Po.mono (Po.bind p) fun v1 H1 ⟨al1, h1, w1, st1, hr1, r1, p1⟩ => ?_⟩
  refine ⟨al1, B, ro, h1, S.step st1 hr1, Po.mono (Po.bind p1) fun v2 H2 ⟨al2, h2, w2, st2, hr2, r2, p2⟩ => ?_⟩
  exact Po.now p2 hr2 (.cons (r1.step st2) r2)
def sArgs (f : List Val → M Val) (r : En → M (List Val)) : SE := fun ro => bind (r ro) f
def Lks (K : PySem.W.Frag) (f : List Val → M Val) (r : List V → Hp → VK → Prop) : Prop := ∀ (W : WX) al B sg H h ws vs (Q : VK), HR K al B H h → Reps K al B H ws vs → Po K B (fun al H => Rep K al B H) sg al H (f ws h) W Q → r vs H Q
theorem tE_args {K : PySem.W.Frag} {f : List Val → M Val} {ra : En → M (List Val)} {r : List V → Hp → VK → Prop} (lk : Lks K f r) (sg : L2.St) (H : Hp) (Q : VK) (p : tE K W (sArgs f ra) sg H Q) : (tA K W ra) sg H (fun vs H1 => r vs H1 Q) := by
  obtain ⟨al, B, ro, h, S, p⟩ := p
  refine ⟨al, B, ro, h, S, Po.mono (Po.bind p) fun v1 H1 ⟨al1, h1, w1, st1, hr1, r1, p1⟩ => ?_⟩
  exact lk W al1 B sg H1 h1 w1 v1 Q hr1 r1 p1
/-- a built-in by its name -/
theorem oe_callB {x : Str} {id : String} {es : List Expr} {f : List Val → M Val} {ra : En → M (List Val)} {r : List V → Hp → VK → Prop} {p : Pos} (hc : CallR X (.builtin id) r) (lk : Lks X.K f r) (hg : Gl X x) (hm : X.mg x = none) (hv : bootBuiltins x = some (.builtin id))
    (ha : PA X (e :: es) (tA X.K W ra)) (hn : x ≠ "__name__") (hd : (x == ("__debug__" : Str)) = false) (hs : starEach (e :: es) X.env = (false, eval e X.env) :: starEach es X.env) (hpl : (backTo pos (starEach es X.env)).any (·.1) = false) :
    PE X (.Call (.Name x p) (e :: es) [] pos) (tE X.K W (sArgs f ra)) := PE.weak (pe_callB hc hg hm hv ha hn hd hs hpl) (tE_args lk)
theorem oe_callTy {x : Str} {T : String} {es : List Expr} {f : List Val → M Val} {ra : En → M (List Val)} {r : List V → Hp → VK → Prop} {p : Pos} (hc : CallR X (.type T) r) (lk : Lks X.K f r) (hg : Gl X x) (hm : X.mg x = none) (hv : bootBuiltins x = some (.type T))
    (ha : PA X (e :: es) (tA X.K W ra)) (hn : x ≠ "__name__") (hd : (x == ("__debug__" : Str)) = false) (hs : starEach (e :: es) X.env = (false, eval e X.env) :: starEach es X.env) (hpl : (backTo pos (starEach es X.env)).any (·.1) = false) :
    PE X (.Call (.Name x p) (e :: es) [] pos) (tE X.K W (sArgs f ra)) := PE.weak (pe_callTy hc hg hm hv ha hn hd hs hpl) (tE_args lk)
end
end Z
set_option Elab.async false
set_option maxRecDepth 100000
/-! ZK: promises of defs where the guards about a call are known (none). -/
namespace Z
open PySem PySem.Spec PyProof.Rows L2
structure RmG (k : Nat) (A : Around) : Prop extends Room k A where
  gd : A.guards = some []
theorem RmG.mono {j k : Nat} {A : Around} (r : RmG k A) (h : j ≤ k) : RmG j A := ⟨r.toRoom.mono h, r.gd⟩
theorem RmG.deep {k : Nat} {A : Around} (r : RmG (k + 1) A) (env : Env) : RmG k (A.deeper env) := ⟨r.toRoom.deeper env, r.gd⟩
structure FnG (P : Program) (w : World) (K : PySem.W.Frag) (mg : Str → Option Value) (base : Heap) (CX : CXT) (k : Nat) (f : Addr) (fd : FuncData) (ps : List Str) (sp : Sp) : Prop where
  len : ∀ vs H Q E, sp vs H Q E → vs.length = ps.length
  run : ∀ (Ar : Around) (out : List Env) (st : Shared) (H : Hp) (ags : Args) (us : List Value) (vs : List V) (Q : VK) (E : XK), RmG k Ar → Env0 P w K mg base Ar out st H → BindsTo st fd ags (ps.zip us) → Vals vs us → sp vs H Q E →
    codeAny (model P w) Ar (.call (.ref f) ags) (CR CX out P w H st Q E) st
section
variable {P : Program} {w : World} {K : PySem.W.Frag} {mg : Str → Option Value} {base : Heap} {CX : CXT}
theorem FnG.mono {j k : Nat} {f : Addr} {fd : FuncData} {ps : List Str} {sp : Sp} (F : FnG P w K mg base CX j f fd ps sp) (h : j ≤ k) : FnG P w K mg base CX k f fd ps sp :=
  ⟨F.len, fun Ar out st H ags us vs Q E hr => F.run Ar out st H ags us vs Q E (hr.mono h)⟩
theorem fnG_of {k : Nat} {f : Addr} {nm qual : Str} {pms : Arguments} {bd : List Stmt} {sc : Scope} {dV kV doc pm cdv ct oc : Value} {an od : Option Addr} {osl : Array (Option Value)} {N ps : List Str} {sp : Sp}
    (lk : K.lookup f = some ⟨oc, od, .func (PySem.W.fnOf nm qual pms bd sc dV kV doc pm an cdv ct), osl⟩) (hcd : PySem.W.codeIn K cdv qual = true) (S : FnScope N ps sc) (hlen : ∀ vs H Q E, sp vs H Q E → vs.length = ps.length)
    (hbd : ∀ (Ar : Around) (out : List Env) (st : Shared) (H : Hp) (vs : List V) (Q : VK) (E : XK), RmG k (Ar.deeper (envOfC qual sc st.heap.objs.size f cdv)) → sp vs H Q E →
      ∃ t, PSs (cxOf CX P w K mg base N qual sc f cdv Ar out st H E) bd t ∧ t { nx := fun _ H' => Q .non H', rt := Q } (start N vs) H) :
    FnG P w K mg base CX (k + 1) f (PySem.W.fnOf nm qual pms bd sc dV kV doc pm an cdv ct) ps sp := by
  refine ⟨hlen, fun Ar out st H ags us vs Q E rm en bnd rv hsp => ?_⟩
  have ln := hlen _ _ _ _ hsp
  have keep : ∀ b o, base.get? b = some o → st.heap.get? b = some o := fun b o e => (en.bs b o e).1
  have KI : K.In st.heap := en.mod.kin.keeps keep
  have nl : st.heap.NoLimit := en.mod.nolimit.keeps keep
  have kinds : ∀ z ∈ ps.zip us, sc.names.lookup z.1 = some .local ∨ (sc.names.lookup z.1 = some .cell ∧ ((cellsFrom (st.heap.objs.size + 1) sc.names []).lookup z.1).isSome = true) := by
    rintro ⟨n, v⟩ hz
    exact (S.par n (List.of_mem_zip hz).1).imp id fun q => ⟨q, PySem.W.cellsFrom_some _ _ _ (.inl q)⟩
  refine codeAny_call_function rm.toRoom.depth (KI _ _ lk) rfl S.co S.gen rfl (PySem.W.codeRec_of KI hcd) (bnd _ _ _ _ ?_)
  refine wpAny_newFunctionEnv_cells S.kind kinds fun env he s2 x => ?_
  subst he
  refine ⟨nl.keeps x.toInCall.keep, codeAny_func ?_⟩
  obtain ⟨t, h1, h2⟩ := hbd Ar out st H vs Q E (rm.deep _) hsp
  have I0 : Inv (cxOf CX P w K mg base N qual sc f cdv Ar out st H E) [] (start N vs) H s2 := inv_start S rm.toRoom.hd en ln rv x
  refine wpAny_mono (h1.run [] s2 (start N vs) H _ I0 h2) (fun fl s3 hs => ?_) fun _ _ z => z
  cases fl with
  | next =>
    obtain ⟨_, H3, J, q⟩ := hs
    exact ⟨V.non, H3, J.os, J.bare, J.base, J.hok, (rfl : RelV V.non Value.none), q⟩
  | ret u =>
    obtain ⟨v, _, H3, J, r3, q⟩ := hs
    exact ⟨v, H3, J.os, J.bare, J.base, J.hok, r3, q⟩
  | brk => exact hs.elim fun _ z => z.elim fun _ z => z.2.elim
  | cont => exact hs.elim fun _ z => z.elim fun _ z => z.2.elim
/-- the law's call, the guards known -/
theorem law_callG {mb : Str → Option Value} {k : Nat} {fa a : Addr} {fd : FuncData} {x : Str} {sp : Sp} {s1 : Shared} {vs : List Value} {ns : List Int} (KX : K.In s1.heap) (hns : s1.heap.Ns mainGlobals mg) (hbn : s1.heap.Ns builtinsNs mb)
    (hbb : ∀ x : Str, x ≠ "__name__" → mb x = bootBuiltins x) (hlim : s1.heap.NoLimit) (hg : s1.gens = #[]) (ha : s1.heap.get? a = some { cls := .type "list", data := .seq vs.toArray }) (hi : IntsAre vs ns) (hl : ns.length ≤ sizeLine) (rm : RmG k callerA)
    (F : ∀ base : Heap, K.In base → base.Ns mainGlobals mg → FnG P w K mg base CX k fa fd [x] sp) (bind : ∀ (s : Shared) (u : Value), BindsTo s fd ⟨[u], []⟩ [(x, u)])
    (hsp : ∀ H : Hp, SqL K H a (ns.map V.int) → sp [.ref a] H (fun v _ => v = .bl true) fun _ _ _ => False) (hCX : ∀ H e s', CX [] H s1 (fun _ _ _ => False) e s' → False) :
    codeAny (model P w) callerA (.call (.ref fa) ⟨[.ref a], []⟩) (fun r s' => r = .ok (.ret (.bool true)) ∧ OldK s1.heap s'.heap ∧ s'.os = s1.os ∧ AllBare s'.gens) s1 := by
  have rvs := vals_ints hi
  have lenV := hi.length
  have core : ∀ H : Hp, Only H → SqL K H a (ns.map V.int) → HOk P w H s1.heap → (∀ b, H b ≠ none → b = a) → (H a ≠ none → K.lookup a = none) →
      codeAny (model P w) callerA (.call (.ref fa) ⟨[.ref a], []⟩) (fun r s' => r = .ok (.ret (.bool true)) ∧ OldK s1.heap s'.heap ∧ s'.os = s1.os ∧ AllBare s'.gens) s1 := by
    intro H hO hS hok hA hK
    have hidden : ∀ {b : Addr} {o : Obj}, s1.heap.get? b = some o → H b = none → (hidT s1.heap H).get? b = some o := fun e n => hidT_get e n
    have dicts : ∀ {b : Addr} {o : Obj} {es : Array DictEntry} {ep : Nat}, s1.heap.get? b = some o → o.data = .dict es ep → H b = none := by
      intro b o es ep e d
      rcases q : H b with _ | u
      · rfl
      · obtain rfl := hA b (by rw [q]; simp)
        rw [ha] at e
        cases e
        exact absurd (show Data.seq vs.toArray _ = Data.dict es ep from d) (by simp)
    have space : ∀ {b : Addr} {m : Str → Option Value}, s1.heap.Ns b m → (hidT s1.heap H).Ns b m := by
      rintro b m ⟨o, es, ep, e, d, r⟩
      exact ⟨o, es, ep, hidden e (dicts e d), d, r⟩
    have KB : K.In (hidT s1.heap H) := by
      intro b o e
      refine hidden (KX b o e) ?_
      rcases q : H b with _ | u
      · rfl
      · obtain rfl := hA b (by rw [q]; simp)
        have z := hK (by rw [q]; simp)
        rw [z] at e
        cases e
    have md : Mod K mg (hidT s1.heap H) := by
      obtain ⟨mc, h1, h2⟩ := hlim
      exact ⟨KB, space hns, ⟨mb, space hbn, hbb⟩, ⟨mc, space h1, h2⟩⟩
    have en : Env0 P w K mg (hidT s1.heap H) callerA [] s1 H := by
      refine ⟨rfl, md, fun b o e => of_hidT e, Nat.le_of_eq (hidT_size _ _), trivial, fun b hb => ?_, hok, .of_eq hg⟩
      have hb' : b ∈ ([] : List Addr) := hb
      cases hb'
    refine codeAny_mono ((F _ KB (space hns)).run callerA [] s1 H ⟨[.ref a], []⟩ [.ref a] [.ref a] _ _ rm en (bind s1 (.ref a)) (.cons rfl .nil) (hsp H hS)) fun r s2 h => ?_
    match r, h with
    | .error e, h => exact (hCX H e s2 h).elim
    | .ok .next, h => exact False.elim h
    | .ok .brk, h => exact False.elim h
    | .ok .cont, h => exact False.elim h
    | .ok (.ret u), ⟨v, H2, os, bare, un, hok2, rv, (q : v = .bl true)⟩ =>
      subst q
      obtain rfl : u = Value.bool true := rv
      refine ⟨rfl, OldK.of_keep fun b o e => ?_, os, bare⟩
      rcases q : H b with _ | u
      · refine un.keep b o e q (fun z => ?_) (by simp)
        have z' : b ∈ ([] : List Addr) := z
        cases z'
      · rcases hO b with z | ⟨ob, xs, z⟩
        · rw [q] at z; cases z
        · have f1 := (hok b _ z).1
          rw [e] at f1
          cases f1
          exact (hok2 b _ (un.frzs b _ _ z)).1
  rcases hk : K.lookup a with _ | o
  · let ob : Obj := { cls := .type "list", data := .seq vs.toArray }
    let H0 : Hp := fun b => if b = a then some (.frz ob (.lst (ns.map V.int))) else none
    have at0 : H0 a = some (.frz ob (.lst (ns.map V.int))) := if_pos rfl
    have ne0 : ∀ {b}, b ≠ a → H0 b = none := fun z => if_neg z
    refine core H0 (fun b => ?_) (.inl (.inr ⟨ob, at0⟩)) (fun b u z => ?_) (fun b z => ?_) fun _ => hk
    · by_cases c : b = a
      · subst c; exact .inr ⟨ob, _, at0⟩
      · exact .inl (ne0 c)
    · by_cases c : b = a
      · subst c
        rw [at0] at z
        cases z
        exact ⟨ha, by rw [List.length_map]; exact hl, vs, _, rvs, ha⟩
      · rw [ne0 c] at z; cases z
    · exact Classical.byContradiction fun c => z (ne0 c)
  · have e := KX a o hk
    rw [ha] at e
    cases e
    refine core (fun _ => none) (fun _ => .inl rfl) (.inr ⟨_, vs.toArray, _, hk, rfl, rfl, rfl, ?_, ?_⟩) (fun b u z => ?_) (fun b z => absurd rfl z) fun z => absurd rfl z
    · rw [List.size_toArray, lenV]; exact hl
    · rw [List.toList_toArray]; exact rvs
    · have z' : (none : Option HO) = some u := z
      cases z'
end
theorem walk_ofG {l : PySem.W.OpenLaw} {n k : Nat} {q : Program} {loose : List Str} {XP : (Str → Option Value) → Heap → Prop} {YP : World → Heap → Prop} {d : DefRec} {K : Params → PySem.W.Frag} {CX : World → CXT} {sp : World → Sp} {x : Str}
    (hn : l.most = some n) (hn2 : n ≤ sizeLine) (hdf : d.params.defaults = []) (rm : RmG k callerA) (hY : ∀ (w : World) (h : Heap), YP w h → (K w.params).In h)
    (F : ∀ (w : World) (mg : Str → Option Value) (fa : Addr) (h : Heap), (K w.params).In h → h.Ns mainGlobals mg → mg d.name = some (.ref fa) →
      ∃ fd : FuncData, (∀ (s : Shared) (u : Value), BindsTo s fd ⟨[u], []⟩ [(x, u)]) ∧ ∀ base : Heap, (K w.params).In base → base.Ns mainGlobals mg → FnG l.prog w (K w.params) mg base (CX w) k fa fd [x] (sp w))
    (hsp : ∀ (w : World) (H : Hp) (a : Addr) (ns : List Int), ns.length ≤ n → (∀ z ∈ ns, Builtin.Int.intBits z ≤ 1048576) → SqL (K w.params) H a (ns.map V.int) → sp w [.ref a] H (fun v _ => v = .bl true) fun _ _ _ => False)
    (hCX : ∀ (w : World) (H : Hp) (s : Shared) (e : Value) (s' : Shared), CX w [] H s (fun _ _ _ => False) e s' → False) : PySem.W.WalkO q loose XP YP l.row.toRowW d [] (fun f vs => PySem.call f vs) := by
  refine Att.attach_callB hn hdf fun w s0 s1 mg mb fa o pm cd doc a vs ns G Y ho hd hcd hmg hobj hints hlen hbits hg => ?_
  have KX := hY w _ Y
  obtain ⟨fd, hb, hF⟩ := F w mg fa _ KX G.T.g hmg
  exact law_callG KX G.T.g G.T.b G.T.builtins G.T.nolimit hg hobj hints (Nat.le_trans hlen hn2) rm hF hb (fun H hS => hsp w H a ns hlen hbits hS) fun H e s' => hCX w H s1 e s'
section
variable {P : Program} {w : World} {K : PySem.W.Frag} {mg : Str → Option Value} {base : Heap}
theorem funG {x qual : Str} {st : Stmt} {f : Addr} {fd : FuncData} {N ps : List Str} {k : Nat} {sp : Sp} (F : Fun K x qual st f fd) (S : FnScope N ps (defScope st)) (hlen : ∀ vs H Q E, sp vs H Q E → vs.length = ps.length)
    (hbd : ∀ (cdv : Value) (Ar : Around) (out : List Env) (s : Shared) (H : Hp) (vs : List V) (Q : VK) (E : XK), RmG k (Ar.deeper (envOfC qual (defScope st) s.heap.objs.size f cdv)) → sp vs H Q E →
      ∃ t, PSs (cxOf (L2.CX P w) P w K mg base N qual (defScope st) f cdv Ar out s H E) (defBody st) t ∧ t { nx := fun _ H' => Q .non H', rt := Q } (start N vs) H) : FnG P w K mg base (L2.CX P w) (k + 1) f fd ps sp := by
  obtain ⟨oc, od, kV, doc, pm, an, cdv, ct, osl, rfl, lk, hcd⟩ := F.ex
  exact fnG_of lk hcd S hlen fun Ar out s H vs Q E rm h => hbd cdv Ar out s H vs Q E rm h
theorem funG0 {x qual : Str} {st : Stmt} {f : Addr} {fd : FuncData} {N ps : List Str} {k : Nat} {sp : Sp} (F : Fun K x qual st f fd) (S : FnScope N ps (defScope st)) (hlen : ∀ vs H Q E, sp vs H Q E → vs.length = ps.length)
    (hbd : ∀ (cdv : Value) (Ar : Around) (out : List Env) (s : Shared) (H : Hp) (vs : List V) (Q : VK) (E : XK), RmG k (Ar.deeper (envOfC qual (defScope st) s.heap.objs.size f cdv)) → sp vs H Q E →
      ∃ t, PSs (cxOf CX0 P w K mg base N qual (defScope st) f cdv Ar out s H E).nox (defBody st) t ∧ t { nx := fun _ H' => Q .non H', rt := Q } (start N vs) H) : FnG P w K mg base CX0 (k + 1) f fd ps sp := by
  obtain ⟨oc, od, kV, doc, pm, an, cdv, ct, osl, rfl, lk, hcd⟩ := F.ex
  refine fnG_of lk hcd S hlen fun Ar out s H vs Q E rm h => ?_
  obtain ⟨t, h1, h2⟩ := hbd cdv Ar out s H vs Q E rm h
  exact ⟨t, h1.nox, h2⟩
theorem funDG {x qual : Str} {pms : Arguments} {bd : List Stmt} {sc : Scope} {dvs : List V} {kws : List (Str × V)} {f : Addr} {fd : FuncData} {N ps : List Str} {k : Nat} {sp : Sp} (F : FunD K x qual pms bd sc dvs kws f fd) (S : FnScope N ps sc) (hlen : ∀ vs H Q E, sp vs H Q E → vs.length = ps.length)
    (hbd : ∀ (cdv : Value) (Ar : Around) (out : List Env) (s : Shared) (H : Hp) (vs : List V) (Q : VK) (E : XK), RmG k (Ar.deeper (envOfC qual sc s.heap.objs.size f cdv)) → sp vs H Q E →
      ∃ t, PSs (cxOf (L2.CX P w) P w K mg base N qual sc f cdv Ar out s H E) bd t ∧ t { nx := fun _ H' => Q .non H', rt := Q } (start N vs) H) : FnG P w K mg base (L2.CX P w) (k + 1) f fd ps sp := by
  obtain ⟨oc, od, dV, kV, doc, pm, an, cdv, ct, osl, rfl, lk, hcd, _, _⟩ := F.ex
  exact fnG_of lk hcd S hlen fun Ar out s H vs Q E rm h => hbd cdv Ar out s H vs Q E rm h
end
end Z
set_option Elab.async false
set_option maxRecDepth 100000
/-! Z2: calls of the program's own defs, statements, bodies. -/
namespace Z
open PySem PySem.Spec PyProof.Rows L2
/-! ### own defs -/
def spF (K : PySem.W.Frag) (n : Nat) (F : List Val → M Val) : Sp := fun vs H Q E => ∃ al B h ws, HR K al B H h ∧ Reps K al B H ws vs ∧ ws.length = n ∧ Po K B (fun al H => Rep K al B H) [] al H (F ws h) (fun cls d _ H' => E cls d H') Q
theorem Po.wish {β γ : Type} {K : PySem.W.Frag} {B : List Addr} {rb : List Addr → Hp → β → γ → Prop} {sg sg' : L2.St} {al : List Addr} {H : Hp} {o : Out β} {W W' : WX} {Q : γ → Hp → Prop} (p : Po K B rb sg al H o W Q) (h : ∀ cls d H', W cls d sg H' → W' cls d sg' H') : Po K B rb sg' al H o W' Q := by
  cases o with
  | bad => exact p
  | ok w h' => exact p
  | ex e h' => exact fun a b c d e f g => h _ _ _ (p a b c d e f g)
/-- own values in the parameters' order -/
structure KBz (K : PySem.W.Frag) (fd : FuncData) (ps : List Str) (n : Nat) (ks : List Str) (gW : List Val → List Val → List Val) : Prop where
  ex : ∃ g gV, KBn K fd ps n ks g gV ∧ ∀ al B H ws vs zs us, Reps K al B H ws vs → Reps K al B H zs us → Reps K al B H (gW ws zs) (gV vs us)
def sCall (F : List Val → M Val) (n m np : Nat) (gW : List Val → List Val → List Val) (ra rk : En → M (List Val)) : SE := fun ro => bind (ra ro) fun ws => bind (rk ro) fun zs => if ws.length = n ∧ zs.length = m ∧ (gW ws zs).length = np then F (gW ws zs) else fail
section
variable {X : Cx} {W : WX} {k n : Nat} {f : Addr} {fd : FuncData} {ps ks : List Str} {F : List Val → M Val} {gW : List Val → List Val → List Val} {ra rk : En → M (List Val)} {x : Str} {p pos : Pos} {e : Expr} {es : List Expr} {kws : List Keyword}
/-- the keywords' values -/
theorem PK.weak {t t' : TA} (h : PK X kws t) (i : ∀ sg H Q, t' sg H Q → t sg H Q) : PK X kws t' := ⟨fun po pins s sg H Q I q => h.run po pins s sg H Q I (i _ _ _ q)⟩
theorem ok_nil : PK X [] (tA X.K W aNil) := by
  refine PK.weak pk_nil ?_
  rintro sg H Q ⟨al, B, ro, h, S, p⟩
  exact Po.now p S.hr .nil
theorem ok_cons {m : SE} {nm : Option Str} {kpos : Pos} (ha : PE X e (tE X.K W m)) (hr : PK X kws (tA X.K W rk)) : PK X (⟨nm, e, kpos⟩ :: kws) (tA X.K W (aCons m rk)) := by
  refine PK.weak (pk_cons ha hr) ?_
  rintro sg H Q ⟨al, B, ro, h, S, p⟩
  refine ⟨al, B, ro, h, S, Po.mono (Po.bind p) fun v1 H1 ⟨al1, h1, w1, st1, hr1, r1, p1⟩ => ?_⟩
  refine ⟨al1, B, ro, h1, S.step st1 hr1, Po.mono (Po.bind p1) fun v2 H2 ⟨al2, h2, w2, st2, hr2, r2, p2⟩ => ?_⟩
  exact Po.now p2 hr2 (.cons (r1.step st2) r2)
theorem run_call {pins : List (Addr × Obj)} {sg : L2.St} {H : Hp} {s : Shared} {Q : VK} {us ws : List Value} {vs zs : List V} {g : List Value → List Value → List Value} {gV : List V → List V → List V} {sp : Sp} {E : XK}
    (G : FnG X.prog X.w X.K X.mg X.base (L2.CX X.prog X.w) k f fd ps sp) (hr : RmG k X.A) (hb : KBn X.K fd ps n ks g gV) (tk : Takes X W) (hE : ∀ cls d H', E cls d H' → W cls d sg H')
    (I : Inv X pins sg H s) (r : Vals vs us) (rz : Vals zs ws) (l1 : vs.length = n) (l2 : zs.length = ks.length) (h : sp (gV vs zs) H Q E) : wpAny (model X.prog X.w) X.A (call (.ref f) us (ks.zip ws)) (EP X pins sg Q) X.xe s := by
  have r2 := hb.rel r rz
  refine wpAny_call (codeAny_mono (G.run X.A X.stack s H ⟨us, ks.zip ws⟩ (g us ws) (gV vs zs) Q E hr I.env0 (hb.to s us ws I.kIn (r.length.symm.trans l1) (rz.length.symm.trans l2)) r2 h) fun r s' hq => ?_)
  cases r with
  | error e => exact tk _ _ (XE.of_call I hE hq)
  | ok fl =>
    cases fl with
    | ret u => exact I.after hq
    | next => exact False.elim hq
    | brk => exact False.elim hq
    | cont => exact False.elim hq
/-- f(e, .., k = v, ..) -/
theorem oe_call {nk np : Nat} (G : FnG X.prog X.w X.K X.mg X.base (L2.CX X.prog X.w) k f fd ps (spF X.K ps.length F)) (hr : RmG k X.A) (hg : Gl X x) (hm : X.mg x = some (.ref f)) (hk : PySem.W.keepIn X.K (.ref f) = true) (hb : KBz X.K fd ps n ks gW) (tk : Takes X W)
    (ha : PA X (e :: es) (tA X.K W ra)) (hkw : PK X kws (tA X.K W rk)) (h1 : ks.length = nk) (h2 : ps.length = np) (hall : (backToKw pos (keywordEach kws X.env)).all (·.1.isSome) = true) (hks : (backToKw pos (keywordEach kws X.env)).filterMap (·.1) = ks)
    (hdb : (x == ("__debug__" : Str)) = false) (he : starEach (e :: es) X.env = (false, eval e X.env) :: starEach es X.env)
    (hpl : ((backTo pos (starEach (e :: es) X.env)).any (·.1) || (backToKw pos (keywordEach kws X.env)).any (·.1.isNone)) = false) :
    PE X (.Call (.Name x p) (e :: es) kws pos) (tE X.K W (sCall F n nk np gW ra rk)) := by
  subst h1 h2
  refine ⟨fun pins s sg H Q I h => ?_⟩
  obtain ⟨al, B, ro, h, S, q⟩ := h
  obtain ⟨g, gV, hb, hrel⟩ := hb.ex
  refine wpAny_Call_Name_kw (ld_glob I hg hm ?_ hdb)
  refine PySem.W.callWith_KW (h₀ := X.base) I.ok.mod.kin hk hall (thn (ha.run pos pins s sg H _ I ⟨al, B, ro, h, S, Po.mono (Po.bind q) fun vs H1 z => z⟩) fun us s1 ⟨vs, H1, I1, r, al1, h1, w1, st1, hr1, r1, p1⟩ => ?_) hpl he
  refine thn (hkw.run pos pins s1 sg H1 _ I1 ⟨al1, B, ro, h1, S.step st1 hr1, Po.mono (Po.bind p1) fun vs H1 z => z⟩) fun ws s2 ⟨zs, H2, I2, rz, al2, h2, w2, st2, hr2, r2, p2⟩ => ⟨I2.kIn, ?_⟩
  have r1' := r1.step st2
  rw [hks]
  by_cases c : w1.length = n ∧ w2.length = ks.length ∧ (gW w1 w2).length = ps.length
  · rw [if_pos c] at p2
    refine run_call (W := W) (E := fun cls d H' => W cls d sg H') G hr hb tk (fun _ _ _ z => z) I2 r rz (r1.length.symm.trans c.1) (r2.length.symm.trans c.2.1) ?_
    exact ⟨al2, B, h2, gW w1 w2, hr2, hrel _ _ _ _ _ _ _ r1' r2, c.2.2, Po.wish p2 fun _ _ _ z => z⟩
  · rw [if_neg c] at p2
    exact p2.elim
/-- f() -/
theorem oe_call0 {np : Nat} (G : FnG X.prog X.w X.K X.mg X.base (L2.CX X.prog X.w) k f fd ps (spF X.K ps.length F)) (hr : RmG k X.A) (hg : Gl X x) (hm : X.mg x = some (.ref f)) (hk : PySem.W.keepIn X.K (.ref f) = true) (hb : KBz X.K fd ps 0 [] gW) (tk : Takes X W) (h2 : ps.length = np)
    (hdb : (x == ("__debug__" : Str)) = false) : PE X (.Call (.Name x p) [] [] pos) (tE X.K W (sCall F 0 0 np gW aNil aNil)) := by
  subst h2
  refine ⟨fun pins s sg H Q I h => ?_⟩
  obtain ⟨al, B, ro, h, S, q⟩ := h
  obtain ⟨g, gV, hb, hrel⟩ := hb.ex
  refine wpAny_Call_Name_kw (ld_glob I hg hm ?_ hdb)
  refine PySem.W.callWith_K0 I.kIn hk ?_
  have q : Po X.K B (fun al H => Rep X.K al B H) sg al H (if (0 = 0 ∧ 0 = 0 ∧ (gW [] []).length = ps.length) then F (gW [] []) h else .bad) W Q := by
    have e : sCall F 0 0 ps.length gW aNil aNil ro h = if (0 = 0 ∧ 0 = 0 ∧ (gW [] []).length = ps.length) then F (gW [] []) h else .bad := by
      show (if ([] : List Val).length = 0 ∧ ([] : List Val).length = 0 ∧ (gW [] []).length = ps.length then F (gW [] []) else fail) h = _
      split <;> simp_all [fail]
    rw [← e]; exact q
  by_cases c : (gW [] []).length = ps.length
  · rw [if_pos ⟨rfl, rfl, c⟩] at q
    exact run_call (W := W) (us := []) (ws := []) (ks := []) (E := fun cls d H' => W cls d sg H') G hr hb tk (fun _ _ _ z => z) I .nil .nil rfl rfl ⟨al, B, h, gW [] [], S.hr, hrel _ _ _ _ _ _ _ .nil .nil, c, Po.wish q fun _ _ _ z => z⟩
  · rw [if_neg (fun z => c z.2.2)] at q
    exact q.elim
end
/-! ### statements -/
inductive Fl where
  | nx | brk | ct | ret (w : Val) | ex (e : Ex)
inductive SO where
  | bad
  | go (f : Fl) (ro : En) (h : HH)
abbrev SS := En → HH → SO
def Ps (K : PySem.W.Frag) (B : List Addr) (al : List Addr) (H : Hp) (o : SO) (W : WX) (D : Ends) : Prop :=
  match o with
  | .bad => False
  | .go f ro' h' => ∀ al' sg' H', Stp al H al' H' → Sim K al' B ro' h' sg' H' → match f with
    | .nx => D.nx sg' H'
    | .brk => D.bk sg' H'
    | .ct => D.ct sg' H'
    | .ret w => ∀ v, Rep K al' B H' w v → D.rt v H'
    | .ex e => ∀ cls d, ExR K al' B H' e cls d → W cls d sg' H'
def tS (K : PySem.W.Frag) (W : WX) (m : SS) : TS := fun D sg H => ∃ al B ro h, Sim K al B ro h sg H ∧ Ps K B al H (m ro h) W D
theorem Ps.step {K : PySem.W.Frag} {B al al' : List Addr} {H H' : Hp} {o : SO} {W : WX} {D : Ends} (p : Ps K B al H o W D) (s : Stp al H al' H') : Ps K B al' H' o W D := by
  cases o with
  | bad => exact p
  | go f ro h => exact fun a b c d e => p a b c (s.trans d) e
def sbind {β : Type} (o : Out β) (ro : En) (k : β → HH → SO) : SO := match o with
  | .bad => .bad
  | .ok a h => k a h
  | .ex e h => .go (.ex e) ro h
theorem Ps.bind {β γ : Type} {K : PySem.W.Frag} {B al : List Addr} {rb : List Addr → Hp → β → γ → Prop} {sg : L2.St} {H : Hp} {o : Out β} {W : WX} {D : Ends} {ro : En} {h : HH} {k : β → HH → SO} (S : Sim K al B ro h sg H) (p : Ps K B al H (sbind o ro k) W D) :
    Po K B rb sg al H o W (fun v H1 => ∃ al1 h1 w, Stp al H al1 H1 ∧ HR K al1 B H1 h1 ∧ rb al1 H1 w v ∧ Ps K B al1 H1 (k w h1) W D) := by
  cases o with
  | bad => exact p
  | ok w h' => exact fun a b c d e f => ⟨a, h', w, d, e, f, Ps.step (o := k w h') p d⟩
  | ex e h' => exact fun a b c d st hr er => p a sg b st (S.step st hr) c d er
theorem Ps.ends {K : PySem.W.Frag} {B al : List Addr} {H : Hp} {o : SO} {W : WX} {D D' : Ends} (p : Ps K B al H o W D) (h1 : ∀ s h, D.nx s h → D'.nx s h) (h2 : ∀ s h, D.bk s h → D'.bk s h) (h3 : ∀ s h, D.ct s h → D'.ct s h) (h4 : ∀ s h, D.rt s h → D'.rt s h) : Ps K B al H o W D' := by
  cases o with
  | bad => exact p
  | go f ro h =>
    intro a b c d e
    have q := p a b c d e
    cases f with
    | nx => exact h1 _ _ q
    | brk => exact h2 _ _ q
    | ct => exact h3 _ _ q
    | ret w => exact fun v r => h4 _ _ (q v r)
    | ex e => exact q
def nNext : SS := fun ro h => .go .nx ro h
def nSeq (m1 m2 : SS) : SS := fun ro h => match m1 ro h with
  | .go .nx ro1 h1 => m2 ro1 h1
  | o => o
def nRet (m : SE) : SS := fun ro h => sbind (m ro h) ro fun w h1 => .go (.ret w) ro h1
def nRetN : SS := fun ro h => .go (.ret .non) ro h
def nExpr (m : SE) : SS := fun ro h => sbind (m ro h) ro fun _ h1 => .go .nx ro h1
def nSet (i : Nat) (m : SE) : SS := fun ro h => sbind (m ro h) ro fun w h1 => .go .nx (ro.set i (some w)) h1
def nIf (c : En → M Bool) (m1 m2 : SS) : SS := fun ro h => sbind (c ro h) ro fun b h1 => if b = true then m1 ro h1 else m2 ro h1
def nBrk : SS := fun ro h => .go .brk ro h
def nCt : SS := fun ro h => .go .ct ro h
section
variable {X : Cx} {W : WX} {st : Stmt} {rest : List Stmt} {e : Expr} {m : SE} {m1 m2 : SS} {pos : Pos}
theorem PS.weak {t t' : TS} (h : PS X st t) (i : ∀ D sg H, t' D sg H → t D sg H) : PS X st t' := ⟨fun pins s sg H D I q => h.run pins s sg H D I (i _ _ _ q)⟩
theorem PSs.weak {t t' : TS} (h : PSs X rest t) (i : ∀ D sg H, t' D sg H → t D sg H) : PSs X rest t' := ⟨fun pins s sg H D I q => h.run pins s sg H D I (i _ _ _ q)⟩
theorem os_nil : PSs X [] (tS X.K W nNext) := by
  refine PSs.weak pss_nil ?_
  rintro D sg H ⟨al, B, ro, h, S, p⟩
  exact p al sg H (Stp.refl _ _) S
theorem tS_seq {K : PySem.W.Frag} (D : Ends) (sg : L2.St) (H : Hp) (p : tS K W (nSeq m1 m2) D sg H) : tSeq (tS K W m1) (tS K W m2) D sg H := by
  obtain ⟨al, B, ro, h, S, p⟩ := p
  refine ⟨al, B, ro, h, S, ?_⟩
  unfold nSeq at p
  cases e : m1 ro h with
  | bad => rw [e] at p; exact p
  | go f ro1 h1 =>
    rw [e] at p
    intro a b c d s
    cases f with
    | nx => exact ⟨a, B, ro1, h1, s, Ps.step (o := m2 ro1 h1) p d⟩
    | brk => exact p a b c d s
    | ct => exact p a b c d s
    | ret w => exact p a b c d s
    | ex e => exact p a b c d s
theorem os_cons (h1 : PS X st (tS X.K W m1)) (h2 : PSs X rest (tS X.K W m2)) : PSs X (st :: rest) (tS X.K W (nSeq m1 m2)) := PSs.weak (pss_cons h1 h2) tS_seq
theorem os_ret (he : PE X e (tE X.K W m)) : PS X (.Return (some e) pos) (tS X.K W (nRet m)) := by
  refine PS.weak (ps_ret he) ?_
  rintro D sg H ⟨al, B, ro, h, S, p⟩
  refine ⟨al, B, ro, h, S, Po.mono (Ps.bind S p) fun v H1 ⟨al1, h1, w, st, hr, r, q⟩ => ?_⟩
  exact q al1 sg H1 (Stp.refl _ _) (S.step st hr) v r
theorem os_retN : PS X (.Return none pos) (tS X.K W nRetN) := by
  refine PS.weak ps_retN ?_
  rintro D sg H ⟨al, B, ro, h, S, p⟩
  exact p al sg H (Stp.refl _ _) S _ .non
theorem os_expr (he : PE X e (tE X.K W m)) (hs : swapsWith e none pos.line X.env = pure false) : PS X (.Expr e pos) (tS X.K W (nExpr m)) := by
  refine PS.weak (ps_expr he hs) ?_
  rintro D sg H ⟨al, B, ro, h, S, p⟩
  refine ⟨al, B, ro, h, S, Po.mono (Ps.bind S p) fun v H1 ⟨al1, h1, w, st, hr, r, q⟩ => ?_⟩
  exact q al1 sg H1 (Stp.refl _ _) (S.step st hr)
theorem os_pass : PS X (.Pass pos) (tS X.K W nNext) := by
  refine PS.weak ps_pass ?_
  rintro D sg H ⟨al, B, ro, h, S, p⟩
  exact p al sg H (Stp.refl _ _) S
theorem os_break : PS X (.Break pos) (tS X.K W nBrk) := by
  refine PS.weak ps_break ?_
  rintro D sg H ⟨al, B, ro, h, S, p⟩
  exact p al sg H (Stp.refl _ _) S
theorem os_continue : PS X (.Continue pos) (tS X.K W nCt) := by
  refine PS.weak ps_continue ?_
  rintro D sg H ⟨al, B, ro, h, S, p⟩
  exact p al sg H (Stp.refl _ _) S
theorem os_if {c : Expr} {mc : En → M Bool} {p q : List Stmt} (hc : PT X c (tT X.K W mc)) (hp : PSs X p (tS X.K W m1)) (hq : PSs X q (tS X.K W m2)) : PS X (.If c p q pos) (tS X.K W (nIf mc m1 m2)) := by
  refine PS.weak (ps_if hc hp hq) ?_
  rintro D sg H ⟨al, B, ro, h, S, p⟩
  refine ⟨al, B, ro, h, S, Po.mono (Ps.bind S p) fun v H1 ⟨al1, h1, w, st, hr, r, q⟩ => ?_⟩
  subst r
  by_cases k : w = true
  · rw [if_pos k] at q ⊢; exact ⟨al1, B, ro, h1, S.step st hr, q⟩
  · rw [if_neg k] at q ⊢; exact ⟨al1, B, ro, h1, S.step st hr, q⟩
theorem Sim.set {K : PySem.W.Frag} {al B : List Addr} {ro : En} {h : HH} {sg : L2.St} {H : Hp} (S : Sim K al B ro h sg H) (i : Nat) {w : Val} {v : V} (r : Rep K al B H w v) : Sim K al B (ro.set i (some w)) h (sg.set i (some v)) H := by
  refine ⟨S.hr, by simp [S.len], fun j u e => ?_⟩
  by_cases z : i = j
  · subst z
    have l : i < ro.length := by have := (List.getElem?_eq_some_iff.mp e).1; simpa using this
    rw [List.getElem?_set_self l] at e
    cases e
    exact ⟨v, by rw [List.getElem?_set_self (by rw [← S.len]; exact l)], r⟩
  · rw [List.getElem?_set_ne z] at e
    obtain ⟨v', p, q⟩ := S.env j u e
    exact ⟨v', by rw [List.getElem?_set_ne z]; exact p, q⟩
theorem os_set {i : Nat} {x : Str} {pos' : Pos} (hN : X.N.Nodup) (hi : X.N[i]? = some x) (hx : Loc X.env.scope x) (he : PE X e (tE X.K W m)) (hs : swapsWith e (some (.Name x pos')) pos.line X.env = pure false) (hf : X.fn x = true ∨ X.env.scope.names.lookup x = some .local) :
    PS X (.Assign [.Name x pos'] e pos) (tS X.K W (nSet i m)) := by
  refine PS.weak (ps_set hN hi hx he hs hf) ?_
  rintro D sg H ⟨al, B, ro, h, S, p⟩
  refine ⟨al, B, ro, h, S, Po.mono (Ps.bind S p) fun v H1 ⟨al1, h1, w, st, hr, r, q⟩ => ?_⟩
  exact q al1 _ H1 (Stp.refl _ _) ((S.step st hr).set i r)
end
/-! ### tests -/
def Out.val {β γ : Type} (o : Out β) (f : β → M γ) : Out γ := obind o f
section
variable {X : Cx} {W : WX} {a b : Expr} {m : SE} {t u : En → M Bool} {rest : List Expr} {pos : Pos}
def truthy (w : Val) : M Bool := fun h => match w with
  | .non => .ok false h
  | .bl b => .ok b h
  | .int i => .ok (i != 0) h
  | .str x => if x.length ≤ sizeLine then .ok ((x.length : Int) != 0) h else .bad
  | .tup xs => .ok (!xs.isEmpty) h
  | .lst xs => .ok (!xs.isEmpty) h
  | .ref n => match h[n]? with
    | some (.lst xs) => .ok (!xs.isEmpty) h
    | some (.dic xs) => .ok (!xs.isEmpty) h
    | _ => .bad
  | .scr ns => .ok (!ns.isEmpty) h
  | _ => .bad
def cV (m : SE) : En → M Bool := fun ro => bind (m ro) truthy
def cAnd (t u : En → M Bool) : En → M Bool := fun ro => bind (t ro) fun b => if b = true then u ro else ret false
def cOr (t u : En → M Bool) : En → M Bool := fun ro => bind (t ro) fun b => if b = true then ret true else u ro
def cNot (t : En → M Bool) : En → M Bool := fun ro => bind (t ro) fun b => ret (!b)
theorem Reps.isEmpty {K : PySem.W.Frag} {al B : List Addr} {H : Hp} {xs : List Val} {vs : List V} (r : Reps K al B H xs vs) : (!xs.isEmpty) = !vs.isEmpty := by cases r <;> rfl
theorem lk_truthy {K : PySem.W.Frag} {al B : List Addr} {sg : L2.St} {H : Hp} {h : HH} {w : Val} {v : V} {Q : Bool → Hp → Prop} (hr : HR K al B H h) (r : Rep K al B H w v) (p : Po K B (fun _ _ a b => a = b) sg al H (truthy w h) W Q) : ∃ k, TruV K v H k ∧ Q k H := by
  cases r with
  | non => exact ⟨false, rfl, Po.now p hr rfl⟩
  | bl b => exact ⟨b, rfl, Po.now p hr rfl⟩
  | int i => exact ⟨i != 0, rfl, Po.now p hr rfl⟩
  | str x =>
    unfold truthy at p
    dsimp only at p
    split at p
    · rename_i z; exact ⟨_, ⟨z, rfl⟩, Po.now p hr rfl⟩
    · exact p.elim
  | tup a _ s => exact ⟨_, .inr (.inl ⟨_, sqT_of a, s.isEmpty⟩), Po.now p hr rfl⟩
  | lst a _ s => exact ⟨_, .inl ⟨_, SqL.of a.1, s.isEmpty⟩, Po.now p hr rfl⟩
  | ref e =>
    rename_i n a
    unfold truthy at p
    dsimp only at p
    split at p
    · rename_i xs e2
      cases hr.ob _ _ _ e e2 with
      | lst q _ s => exact ⟨_, .inl ⟨_, SqL.of q, s.isEmpty⟩, Po.now p hr rfl⟩
    · rename_i xs e2
      cases hr.ob _ _ _ e e2 with
      | dic q ks s => exact ⟨_, .inr (.inr ⟨_, q, by have := s.isEmpty; cases xs <;> cases ‹List (Key × V)› <;> simp_all⟩), Po.now p hr rfl⟩
    · exact p.elim
  | glo => exact p.elim
  | ty => exact p.elim
  | scr a _ => exact ⟨_, .inl ⟨_, sqL_of a, by simp⟩, Po.now p hr rfl⟩
  | exn => exact p.elim
theorem ot_val (ha : PE X a (tE X.K W m)) (he : ∀ whole, isTrue a X.env whole = (do let v ← whole; standAt a.pos; holding [v] (PySem.truthy v))) : PT X a (tT X.K W (cV m)) := by
  refine PT.weak (pt_truth ha he) ?_
  rintro sg H Q ⟨al, B, ro, h, S, p⟩
  refine ⟨al, B, ro, h, S, Po.mono (Po.bind p) fun v1 H1 ⟨al1, h1, w1, st1, hr1, r1, p1⟩ => ?_⟩
  exact lk_truthy hr1 r1 p1
theorem PW.weak {t t' : TT} {e : Expr} (h : PW X e t) (i : ∀ sg H Q, t' sg H Q → t sg H Q) : PW X e t' := ⟨fun wh pins s sg H Q I q => h.run wh pins s sg H Q I (i _ _ _ q)⟩
theorem ow_and1 (ha : PT X a (tT X.K W t)) : PW X (.BoolOp .And [a] pos) (tT X.K W t) := pw_and1 ha
theorem ow_or1 (ha : PT X a (tT X.K W t)) : PW X (.BoolOp .Or [a] pos) (tT X.K W t) := pw_or1 ha
theorem ow_and (ha : PT X a (tT X.K W t)) (hb : PW X (.BoolOp .And (b :: rest) pos) (tT X.K W u)) : PW X (.BoolOp .And (a :: b :: rest) pos) (tT X.K W (cAnd t u)) := by
  refine PW.weak (pw_and ha hb) ?_
  rintro sg H Q ⟨al, B, ro, h, S, p⟩
  refine ⟨al, B, ro, h, S, Po.mono (Po.bind p) fun v1 H1 ⟨al1, h1, w1, st1, hr1, r1, p1⟩ => ?_⟩
  subst r1
  cases w1 with
  | true => exact ⟨al1, B, ro, h1, S.step st1 hr1, p1⟩
  | false => exact Po.now p1 hr1 rfl
theorem ow_or (ha : PT X a (tT X.K W t)) (hb : PW X (.BoolOp .Or (b :: rest) pos) (tT X.K W u)) : PW X (.BoolOp .Or (a :: b :: rest) pos) (tT X.K W (cOr t u)) := by
  refine PW.weak (pw_or ha hb) ?_
  rintro sg H Q ⟨al, B, ro, h, S, p⟩
  refine ⟨al, B, ro, h, S, Po.mono (Po.bind p) fun v1 H1 ⟨al1, h1, w1, st1, hr1, r1, p1⟩ => ?_⟩
  subst r1
  cases w1 with
  | false => exact ⟨al1, B, ro, h1, S.step st1 hr1, p1⟩
  | true => exact Po.now p1 hr1 rfl
theorem ot_not (ha : PT X a (tT X.K W t)) : PT X (.UnaryOp .Not a pos) (tT X.K W (cNot t)) := by
  refine PT.weak (pt_not ha) ?_
  rintro sg H Q ⟨al, B, ro, h, S, p⟩
  refine ⟨al, B, ro, h, S, Po.mono (Po.bind p) fun v1 H1 ⟨al1, h1, w1, st1, hr1, r1, p1⟩ => ?_⟩
  subst r1
  exact Po.now p1 hr1 rfl
/-- a comparison as a test -/
def cBin (f : Val → Val → M Val) (m1 m2 : SE) : En → M Bool := fun ro => bind (sBin f m1 m2 ro) fun w => match w with
  | .bl b => ret b
  | _ => fail
theorem ot_cmp {op : CmpOp} {f : Val → Val → M Val} {m1 m2 : SE} {r : R2} (ho : OpR X (compareOp op) r) (lk : Lk2 X.K f r) (hm : behindInMarks op b = false) (ha : PE X a (tE X.K W m1)) (hb : PE X b (tE X.K W m2)) : PT X (.Compare a [op] [b] pos) (tT X.K W (cBin f m1 m2)) := by
  refine PT.weak (pt_cmpR ho ha hb hm) ?_
  rintro sg H Q ⟨al, B, ro, h, S, p⟩
  refine tE_bin lk sg H _ ⟨al, B, ro, h, S, Po.mono (Po.bind p) fun v1 H1 ⟨al1, h1, w1, st1, hr1, r1, p1⟩ => ?_⟩
  cases r1 <;> first | exact p1.elim | exact ⟨_, rfl, Po.now p1 hr1 rfl⟩
/-! ### and, or, not, if as values -/
def sAnd (m1 m2 : SE) : SE := fun ro => bind (m1 ro) fun w => bind (truthy w) fun b => if b = true then m2 ro else ret w
def sOr (m1 m2 : SE) : SE := fun ro => bind (m1 ro) fun w => bind (truthy w) fun b => if b = true then ret w else m2 ro
def sNot (m : SE) : SE := fun ro => bind (m ro) fun w => bind (truthy w) fun b => ret (.bl (!b))
def sIf (c : En → M Bool) (m1 m2 : SE) : SE := fun ro => bind (c ro) fun b => if b = true then m1 ro else m2 ro
end
end Z
set_option Elab.async false
set_option maxRecDepth 100000
/-! Z3: and, or, not, if as values; targets; loops; list comprehensions. -/
namespace Z
open PySem PySem.Spec PyProof.Rows L2
section
variable {X : Cx} {W : WX} {a b c : Expr} {m1 m2 m : SE} {t : En → M Bool} {rest : List Expr} {pos : Pos}
theorem oe_one {op : BoolOp} (h : PE X a (tE X.K W m)) : PE X (.BoolOp op [a] pos) (tE X.K W m) := pe_one h
theorem oe_and (ha : PE X a (tE X.K W m1)) (hb : PE X (.BoolOp .And (b :: rest) pos) (tE X.K W m2)) : PE X (.BoolOp .And (a :: b :: rest) pos) (tE X.K W (sAnd m1 m2)) := by
  refine PE.weak (pe_andT ha hb) ?_
  rintro sg H Q ⟨al, B, ro, h, S, p⟩
  refine ⟨al, B, ro, h, S, Po.mono (Po.bind p) fun v1 H1 ⟨al1, h1, w1, st1, hr1, r1, p1⟩ => ?_⟩
  obtain ⟨k, tk, al2, h2, w2, st2, hr2, e, p2⟩ := lk_truthy hr1 r1 (Po.bind p1)
  subst e
  refine ⟨_, tk, ?_⟩
  cases w2 with
  | true => exact ⟨al2, B, ro, h2, S.step (st1.trans st2) hr2, p2⟩
  | false => exact Po.now p2 hr2 (r1.step st2)
theorem oe_or (ha : PE X a (tE X.K W m1)) (hb : PE X (.BoolOp .Or (b :: rest) pos) (tE X.K W m2)) : PE X (.BoolOp .Or (a :: b :: rest) pos) (tE X.K W (sOr m1 m2)) := by
  refine PE.weak (pe_orT ha hb) ?_
  rintro sg H Q ⟨al, B, ro, h, S, p⟩
  refine ⟨al, B, ro, h, S, Po.mono (Po.bind p) fun v1 H1 ⟨al1, h1, w1, st1, hr1, r1, p1⟩ => ?_⟩
  obtain ⟨k, tk, al2, h2, w2, st2, hr2, e, p2⟩ := lk_truthy hr1 r1 (Po.bind p1)
  subst e
  refine ⟨_, tk, ?_⟩
  cases w2 with
  | false => exact ⟨al2, B, ro, h2, S.step (st1.trans st2) hr2, p2⟩
  | true => exact Po.now p2 hr2 (r1.step st2)
theorem oe_not (ha : PE X a (tE X.K W m)) : PE X (.UnaryOp .Not a pos) (tE X.K W (sNot m)) := by
  refine PE.weak (pe_notT ha) ?_
  rintro sg H Q ⟨al, B, ro, h, S, p⟩
  refine ⟨al, B, ro, h, S, Po.mono (Po.bind p) fun v1 H1 ⟨al1, h1, w1, st1, hr1, r1, p1⟩ => ?_⟩
  obtain ⟨k, tk, al2, h2, w2, st2, hr2, e, p2⟩ := lk_truthy hr1 r1 (Po.bind p1)
  subst e
  exact ⟨_, tk, Po.now p2 hr2 (.bl _)⟩
theorem oe_if (hc : PT X c (tT X.K W t)) (ha : PE X a (tE X.K W m1)) (hb : PE X b (tE X.K W m2)) : PE X (.IfExp c a b pos) (tE X.K W (sIf t m1 m2)) := by
  refine PE.weak (pe_ifExp hc ha hb) ?_
  rintro sg H Q ⟨al, B, ro, h, S, p⟩
  refine ⟨al, B, ro, h, S, Po.mono (Po.bind p) fun v1 H1 ⟨al1, h1, w1, st1, hr1, r1, p1⟩ => ?_⟩
  subst r1
  by_cases k : w1 = true
  · rw [if_pos k] at p1 ⊢; exact ⟨al1, B, ro, h1, S.step st1 hr1, p1⟩
  · rw [if_neg k] at p1 ⊢; exact ⟨al1, B, ro, h1, S.step st1 hr1, p1⟩
end
/-! ### targets -/
abbrev GM := Val → En → HH → SO
/-- what a store leaves: only the slots at sl are others -/
def Pg (K : PySem.W.Frag) (B : List Addr) (sl : List Nat) (al : List Addr) (H : Hp) (sg : L2.St) (o : SO) (Q : L2.St → Hp → Prop) : Prop := match o with
  | .go .nx ro' h' => ∀ al' sg' H', Stp al H al' H' → Sim K al' B ro' h' sg' H' → (sg'.length = sg.length ∧ ∀ i, i ∉ sl → sg'[i]? = sg[i]?) → Q sg' H'
  | _ => False
def tG (K : PySem.W.Frag) (sl : List Nat) (g : GM) : TG := fun v sg H Q => ∃ al B ro h w, Sim K al B ro h sg H ∧ Rep K al B H w v ∧ Pg K B sl al H sg (g w ro h) Q
def tGs (K : PySem.W.Frag) (sl : List Nat) (g : List Val → En → HH → SO) : TGs := fun vs sg H Q => ∃ al B ro h ws, Sim K al B ro h sg H ∧ Reps K al B H ws vs ∧ Pg K B sl al H sg (g ws ro h) Q
def gNm (i : Nat) : GM := fun w ro h => .go .nx (ro.set i (some w)) h
def gsNil : List Val → En → HH → SO := fun ws ro h => match ws with
  | [] => .go .nx ro h
  | _ => .bad
def gsCons (g : GM) (r : List Val → En → HH → SO) : List Val → En → HH → SO := fun ws ro h => match ws with
  | [] => .bad
  | w :: ws => match g w ro h with
    | .go .nx ro1 h1 => r ws ro1 h1
    | _ => .bad
/-- the items of a thing -/
def items (w : Val) (h : HH) : Option (List Val) := match w with
  | .tup xs => some xs
  | .lst xs => some xs
  | .scr ns => some (ns.map Val.int)
  | .ref n => match h[n]? with
    | some (.lst xs) => some xs
    | _ => none
  | _ => none
def gTp (n : Nat) (g : List Val → En → HH → SO) : GM := fun w ro h => match items w h with
  | some xs => if xs.length = n then g xs ro h else .bad
  | none => .bad
theorem Pg.step {K : PySem.W.Frag} {B : List Addr} {sl : List Nat} {al al' : List Addr} {H H' : Hp} {sg : L2.St} {o : SO} {Q : L2.St → Hp → Prop} (p : Pg K B sl al H sg o Q) (s : Stp al H al' H') : Pg K B sl al' H' sg o Q := by
  cases o with
  | bad => exact p
  | go f ro h =>
    cases f with
    | nx => exact fun a b c d e f => p a b c (s.trans d) e f
    | _ => exact p
theorem Reps.ints {K : PySem.W.Frag} {al B : List Addr} {H : Hp} : ∀ ns : List Int, Reps K al B H (ns.map Val.int) (ns.map V.int)
  | [] => .nil
  | n :: ns => .cons (.int n) (Reps.ints ns)
/-- a thing with items stands as a list or as a tuple -/
theorem items_sq {K : PySem.W.Frag} {al B : List Addr} {H : Hp} {h : HH} {w : Val} {v : V} {xs : List Val} (hr : HR K al B H h) (r : Rep K al B H w v) (e : items w h = some xs) : ∃ a vs, v = .ref a ∧ (SqL K H a vs ∨ SqT K H a vs) ∧ Reps K al B H xs vs := by
  cases r with
  | tup a _ s => cases e; exact ⟨_, _, rfl, .inr (sqT_of a), s⟩
  | lst a _ s => cases e; exact ⟨_, _, rfl, .inl (SqL.of a.1), s⟩
  | scr a _ => cases e; exact ⟨_, _, rfl, .inl (sqL_of a), Reps.ints _⟩
  | exn => cases e
  | ref q =>
    unfold items at e
    dsimp only at e
    split at e
    · rename_i e2
      cases e
      cases hr.ob _ _ _ q e2 with
      | lst q _ s => exact ⟨_, _, rfl, .inl (SqL.of q), s⟩
    · cases e
  | non => cases e
  | bl => cases e
  | int => cases e
  | str => cases e
  | glo => cases e
  | ty => cases e
section
variable {X : Cx} {tg : Expr} {pos : Pos}
theorem PG.weak {t t' : TG} (h : PG X tg t) (i : ∀ v sg H Q, t' v sg H Q → t v sg H Q) : PG X tg t' := ⟨fun pins s sg H v u Q I r q => h.run pins s sg H v u Q I r (i _ _ _ _ q)⟩
theorem PG.or {t t' : TG} (h : PG X tg t) (h' : PG X tg t') : PG X tg (fun v sg H Q => t v sg H Q ∨ t' v sg H Q) := ⟨fun pins s sg H v u Q I r q => q.elim (h.run pins s sg H v u Q I r) (h'.run pins s sg H v u Q I r)⟩
theorem PGs.weak {ts : List Expr} {t t' : TGs} (h : PGs X ts t) (i : ∀ v sg H Q, t' v sg H Q → t v sg H Q) : PGs X ts t' := ⟨fun pins s sg H v u Q I r q => h.run pins s sg H v u Q I r (i _ _ _ _ q)⟩
theorem og_name {i : Nat} {x : Str} (hN : X.N.Nodup) (hi : X.N[i]? = some x) (hx : Loc X.env.scope x) (hf : X.fn x = true ∨ X.env.scope.names.lookup x = some .local) : PG X (.Name x pos) (tG X.K [i] (gNm i)) := by
  refine PG.weak (pg_name hN hi hx hf) ?_
  rintro v sg H Q ⟨al, B, ro, h, w, S, r, p⟩
  refine p al _ H (Stp.refl _ _) (S.set i r) ⟨by simp, fun j hj => ?_⟩
  rw [List.getElem?_set_ne]
  simpa using fun z => hj (by simp [z])
theorem ogs_nil : PGs X [] (tGs X.K [] gsNil) := by
  refine PGs.weak pgs_nil ?_
  rintro v sg H Q ⟨al, B, ro, h, ws, S, r, p⟩
  cases r with
  | nil => exact ⟨rfl, p al sg H (Stp.refl _ _) S ⟨rfl, fun _ _ => rfl⟩⟩
  | cons _ _ => exact p.elim
theorem ogs_cons {e : Expr} {es : List Expr} {sl sl' : List Nat} {g : GM} {r : List Val → En → HH → SO} (h1 : PG X e (tG X.K sl g)) (h2 : PGs X es (tGs X.K sl' r)) (hs : (assignEach (e :: es) X.env).map (·.2) = assign e X.env :: (assignEach es X.env).map (·.2)) : PGs X (e :: es) (tGs X.K (sl ++ sl') (gsCons g r)) := by
  refine PGs.weak (pgs_cons h1 h2 hs) ?_
  rintro v sg H Q ⟨al, B, ro, h, ws, S, rr, p⟩
  cases rr with
  | nil => exact p.elim
  | @cons w ws v vs rw rs =>
    refine ⟨v, vs, rfl, al, B, ro, h, w, S, rw, ?_⟩
    unfold gsCons at p
    dsimp only at p
    cases e : g w ro h with
    | bad => rw [e] at p; exact p.elim
    | go f ro1 h1 =>
      rw [e] at p
      cases f with
      | nx =>
        intro a b c d s f
        refine ⟨a, B, ro1, h1, ws, s, rs.step d, ?_⟩
        dsimp only at p
        cases e2 : r ws ro1 h1 with
        | bad => rw [e2] at p; exact p.elim
        | go f2 ro2 h2 =>
          rw [e2] at p
          cases f2 with
          | nx =>
            intro a' b' c' d' s' f'
            refine p a' b' c' (d.trans d') s' ⟨f'.1.trans f.1, fun i hi => ?_⟩
            rw [f'.2 i fun z => hi (List.mem_append_right _ z), f.2 i fun z => hi (List.mem_append_left _ z)]
          | _ => exact p.elim
      | _ => exact p.elim
theorem og_tup {es : List Expr} {k n : Nat} {sl : List Nat} {g : List Val → En → HH → SO} (hc : X.calm = true) (h : PGs X es (tGs X.K sl g)) (hn : (assignEach es X.env).length = n) (hst : (assignEach es X.env).findIdx? (·.1) = none) : PG X (.Tuple es k pos) (tG X.K sl (gTp n g)) := by
  refine PG.weak (PG.or (pg_tup hc h hn hst) (pg_lst hc h hn hst)) ?_
  rintro v sg H Q ⟨al, B, ro, h, w, S, r, p⟩
  unfold gTp at p
  cases e : items w h with
  | none => rw [e] at p; exact p.elim
  | some xs =>
    rw [e] at p
    dsimp only at p
    obtain ⟨a, vs, rfl, q, rs⟩ := items_sq S.hr r e
    split at p
    · rename_i l
      rcases q with q | q
      · exact .inr ⟨a, vs, rfl, q, by rw [← rs.length]; exact l, al, B, ro, h, xs, S, rs, p⟩
      · exact .inl ⟨a, vs, rfl, q, by rw [← rs.length]; exact l, al, B, ro, h, xs, S, rs, p⟩
    · exact p.elim
end
def nAsg (m : SE) (g : GM) : SS := fun ro h => sbind (m ro h) ro fun w h1 => match g w ro h1 with
  | .go .nx ro2 h2 => .go .nx ro2 h2
  | _ => .bad
theorem os_asg {X : Cx} {W : WX} {tg e : Expr} {m : SE} {sl : List Nat} {g : GM} {pos : Pos} (he : PE X e (tE X.K W m)) (hg : PG X tg (tG X.K sl g)) (hs : swapsWithSole [tg] e pos.line X.env = pure false) (hw : swappedStores [tg] e X.env = pure none)
    (h1 : (assignEach [tg] X.env).map (·.2) = [assign tg X.env]) : PS X (.Assign [tg] e pos) (tS X.K W (nAsg m g)) := by
  refine PS.weak (ps_asg he hg hs hw h1) ?_
  rintro D sg H ⟨al, B, ro, h, S, p⟩
  refine ⟨al, B, ro, h, S, Po.mono (Ps.bind S p) fun v H1 ⟨al1, h1, w, st, hr, r, q⟩ => ?_⟩
  refine ⟨al1, B, ro, h1, w, S.step st hr, r, ?_⟩
  split at q
  · rename_i e
    rw [e]
    exact fun a b c d e f => q a b c d e
  · exact q.elim
section
variable {K : PySem.W.Frag} {al al' B B' : List Addr} {H H' : Hp}
theorem At.stepB (s : StpB B al H al' H') (hB : ∀ b ∈ B', b ∈ B ∨ H b = none) {a : Addr} {u : HO} (x : At al B H a u) : At al' B' H' a u := by
  have y := x.stepW s
  refine ⟨y.1, y.2, fun z => ?_⟩
  rcases hB a z with q | q
  · exact x.2.2 q
  · rcases x.1 with e | ⟨_, e⟩ <;> rw [q] at e <;> cases e
theorem At1.stepB (s : StpB B al H al' H') (hB : ∀ b ∈ B', b ∈ B ∨ H b = none) {a : Addr} {u : HO} (x : At1 al B H a u) : At1 al' B' H' a u := ⟨(x.stepW s).1, (x.at.stepB s hB).2⟩
theorem AtT.stepB (s : StpB B al H al' H') (hB : ∀ b ∈ B', b ∈ B ∨ H b = none) {a : Addr} {u : List V} (x : AtT al B H a u) : AtT al' B' H' a u := by
  obtain ⟨w, q, f⟩ := x
  exact ⟨w, q.stepB s hB, f⟩
mutual
theorem Rep.stepB (s : StpB B al H al' H') (hB : ∀ b ∈ B', b ∈ B ∨ H b = none) : ∀ {w : Val} {v : V}, Rep K al B H w v → Rep K al' B' H' w v
  | _, _, .non => .non
  | _, _, .bl b => .bl b
  | _, _, .int i => .int i
  | _, _, .str x => .str x
  | _, _, .tup a l r => .tup (a.imp (AtT.stepB s hB) id) l (Reps.stepB s hB r)
  | _, _, .lst a l r => .lst (At1.stepB s hB a) l (Reps.stepB s hB r)
  | _, _, .ref e => .ref (s.get e)
  | _, _, .glo a => .glo a
  | _, _, .ty n => .ty n
  | _, _, .scr a l => .scr (a.imp (At.stepB s hB) id) l
  | _, _, .exn a e r => .exn (At1.stepB s hB a) e (Reps.stepB s hB r)
theorem Reps.stepB (s : StpB B al H al' H') (hB : ∀ b ∈ B', b ∈ B ∨ H b = none) : ∀ {w : List Val} {v : List V}, Reps K al B H w v → Reps K al' B' H' w v
  | _, _, .nil => .nil
  | _, _, .cons a r => .cons (Rep.stepB s hB a) (Reps.stepB s hB r)
end
end
theorem Sim.stepB {K : PySem.W.Frag} {al al' B B' : List Addr} {ro : En} {h h' : HH} {sg : L2.St} {H H' : Hp} (x : Sim K al B ro h sg H) (s : StpB B al H al' H') (hB : ∀ b ∈ B', b ∈ B ∨ H b = none) (hr : HR K al' B' H' h') : Sim K al' B' ro h' sg H' :=
  ⟨hr, x.len, fun i w e => by obtain ⟨v, p, q⟩ := x.env i w e; exact ⟨v, p, q.stepB s hB⟩⟩
/-! ### what is walked -/
/-- what is walked: fixed items, or a list of one's own, read at each turn -/
inductive Itm where
  | st (xs : List Val) | dyn (n : Nat) | den (n : Nat)
def nxt (x : Itm) (i : Nat) (h : HH) : Option (Option Val) := match x with
  | .st xs => some xs[i]?
  | .dyn n => match h[n]? with
    | some (.lst xs) => some xs[i]?
    | _ => none
  | .den n => match h[n]? with
    | some (.lst xs) => some (xs[i]?.map fun x => .tup [.int (i : Nat), x])
    | _ => none
abbrev SI := En → M (Itm × Nat)
/-- what J yields is x, from (al, H) on -/
def ItR (K : PySem.W.Frag) (B : List Addr) (J : It) (x : Itm) (al : List Addr) (H : Hp) : Prop :=
  ∀ al' B' H' h', StpB B al H al' H' → (∀ b ∈ B', b ∈ B ∨ H b = none) → HR K al' B' H' h' → ∀ i,
    (nxt x i h' = some none → J.stop i H') ∧ ∀ w, nxt x i h' = some (some w) → J.go i H' ∧ ∀ y H'', J.yld i H' y H'' → Stp al' H' al' H'' ∧ HR K al' B' H'' h' ∧ Rep K al' B' H'' w y
def tI (K : PySem.W.Frag) (W : WX) (mi : SI) : TI := fun sg H R => ∃ al B ro h, Sim K al B ro h sg H ∧ Po K B (fun al H (x : Itm × Nat) J => ItR K B J x.1 al H ∧ x.2 ≤ sizeLine) sg al H (mi ro h) W R
/-- the turns -/
def turns (g : GM) (body : SS) (x : Itm) : Nat → Nat → SS
  | 0, i, ro, h => match nxt x i h with
    | some none => .go .nx ro h
    | _ => .bad
  | k + 1, i, ro, h => match nxt x i h with
    | none => .bad
    | some none => .go .nx ro h
    | some (some w) => match g w ro h with
      | .go .nx ro1 h1 => match body ro1 h1 with
        | .go .nx ro2 h2 => turns g body x k (i + 1) ro2 h2
        | .go .ct ro2 h2 => turns g body x k (i + 1) ro2 h2
        | .go .brk ro2 h2 => .go .nx ro2 h2
        | o => o
      | _ => .bad
def nFor (mi : SI) (g : GM) (body : SS) : SS := fun ro h => sbind (mi ro h) ro fun x h1 => turns g body x.1 x.2 0 ro h1
theorem tS_for {K : PySem.W.Frag} {W : WX} {mi : SI} {g : GM} {sl : List Nat} {body : SS} (D : Ends) (sg : L2.St) (H : Hp) (p : tS K W (nFor mi g body) D sg H) : tFor (tI K W mi) (tG K sl g) (tS K W body) D sg H := by
  obtain ⟨al, B, ro, h, S, p⟩ := p
  refine ⟨al, B, ro, h, S, Po.mono (Ps.bind S p) fun J H1 ⟨al1, h1, ⟨x, n⟩, st, hr, ⟨it, _⟩, q⟩ => ?_⟩
  dsimp only at it q
  refine ⟨fun i m sg2 H2 => ∃ al2 ro2 h2, Stp al1 H1 al2 H2 ∧ Sim K al2 B ro2 h2 sg2 H2 ∧ Ps K B al2 H2 (turns g body x m i ro2 h2) W D, ⟨n, al1, ro, h1, Stp.refl _ _, S.step st hr, q⟩, ?_⟩
  rintro i m sg2 H2 ⟨al2, ro2, h2, st2, S2, q2⟩
  obtain ⟨i1, i2⟩ := it al2 B H2 h2 st2.toB (fun b hb => .inl hb) S2.hr i
  cases e0 : nxt x i h2 with
  | none => cases m <;> (unfold turns at q2; rw [e0] at q2; exact q2.elim)
  | some o =>
  cases o with
  | none =>
    refine .inl ⟨i1 e0, ?_⟩
    cases m with
    | zero => unfold turns at q2; rw [e0] at q2; exact q2 al2 sg2 H2 (Stp.refl _ _) S2
    | succ m => unfold turns at q2; rw [e0] at q2; exact q2 al2 sg2 H2 (Stp.refl _ _) S2
  | some w =>
    obtain ⟨g1, g2⟩ := i2 w e0
    cases m with
    | zero => unfold turns at q2; rw [e0] at q2; exact q2.elim
    | succ m =>
    unfold turns at q2
    rw [e0] at q2
    refine .inr ⟨g1, fun sg3 H3 => ∃ al3 ro3 h3, Stp al1 H1 al3 H3 ∧ Sim K al3 B ro3 h3 sg3 H3 ∧ Ps K B al3 H3 (turns g body x m (i + 1) ro3 h3) W D, fun sg3 H3 ⟨al3, ro3, h3, a, b, c⟩ => ⟨m, by omega, al3, ro3, h3, a, b, c⟩, fun y H3 yy => ?_⟩
    obtain ⟨s3, hr3, r3⟩ := g2 y H3 yy
    refine ⟨al2, B, ro2, h2, w, S2.step s3 hr3, r3, ?_⟩
    dsimp only at q2
    cases e : g w ro2 h2 with
    | bad => rw [e] at q2; exact q2.elim
    | go f ro4 h4 =>
      rw [e] at q2
      cases f with
      | nx =>
        intro al4 sg4 H4 st4 S4 _
        refine ⟨al4, B, ro4, h4, S4, ?_⟩
        dsimp only at q2
        cases e2 : body ro4 h4 with
        | bad => rw [e2] at q2; exact q2.elim
        | go f5 ro5 h5 =>
          rw [e2] at q2
          have s34 := (st2.trans s3).trans st4
          intro al5 sg5 H5 st5 S5
          cases f5 with
          | nx => exact ⟨al5, ro5, h5, s34.trans st5, S5, q2.step ((s3.trans st4).trans st5)⟩
          | ct => exact ⟨al5, ro5, h5, s34.trans st5, S5, q2.step ((s3.trans st4).trans st5)⟩
          | brk => exact q2 al5 sg5 H5 ((s3.trans st4).trans st5) S5
          | ret w => exact q2 al5 sg5 H5 ((s3.trans st4).trans st5) S5
          | ex e => exact q2 al5 sg5 H5 ((s3.trans st4).trans st5) S5
      | _ => exact q2.elim
theorem os_for {X : Cx} {W : WX} {tg iter : Expr} {body : List Stmt} {mi : SI} {g : GM} {sl : List Nat} {mb : SS} {pos : Pos} (hp : PassesOwn (model X.prog X.w) X.A X.env X.xe) (hc : X.calm = true) (hi : PI X tg iter (tI X.K W mi)) (hg : PG X tg (tG X.K sl g)) (hb : PSs X body (tS X.K W mb))
    (hs : ∀ x, foldedSetIterable iter X.env x = pure x) : PS X (.For tg iter body [] pos) (tS X.K W (nFor mi g mb)) := PS.weak (ps_for hp hc hi hg hb hs) tS_for
/-! ### while -/
def wturns (c : En → M Bool) (body : SS) : Nat → SS
  | 0, _, _ => .bad
  | n + 1, ro, h => sbind (c ro h) ro fun b h1 => if b = true then match body ro h1 with
      | .go .nx ro2 h2 => wturns c body n ro2 h2
      | .go .ct ro2 h2 => wturns c body n ro2 h2
      | .go .brk ro2 h2 => .go .nx ro2 h2
      | o => o
    else .go .nx ro h1
def nWhile (fuel : Nat) (c : En → M Bool) (body : SS) : SS := wturns c body fuel
theorem tS_while {K : PySem.W.Frag} {W : WX} {c : En → M Bool} {body : SS} {n : Nat} (D : Ends) (sg : L2.St) (H : Hp) (p : tS K W (nWhile n c body) D sg H) : tWhile (tT K W c) (tS K W body) D sg H := by
  obtain ⟨al, B, ro, h, S, p⟩ := p
  refine ⟨fun m sg2 H2 => ∃ al2 ro2 h2, Sim K al2 B ro2 h2 sg2 H2 ∧ Ps K B al2 H2 (wturns c body m ro2 h2) W D, ⟨n, al, ro, h, S, p⟩, ?_⟩
  rintro m sg2 H2 ⟨al2, ro2, h2, S2, q⟩
  cases m with
  | zero => exact q.elim
  | succ m =>
    unfold wturns at q
    refine ⟨al2, B, ro2, h2, S2, Po.mono (Ps.bind S2 q) fun b H3 ⟨al3, h3, b', st3, hr3, e, q3⟩ => ?_⟩
    subst e
    by_cases k : b' = true
    · rw [if_pos k] at q3 ⊢
      refine ⟨fun sg4 H4 => ∃ al4 ro4 h4, Sim K al4 B ro4 h4 sg4 H4 ∧ Ps K B al4 H4 (wturns c body m ro4 h4) W D, fun sg4 H4 z => ⟨m, by omega, z⟩, al3, B, ro2, h3, S2.step st3 hr3, ?_⟩
      cases e2 : body ro2 h3 with
      | bad => rw [e2] at q3; exact q3.elim
      | go f5 ro5 h5 =>
        rw [e2] at q3
        intro al5 sg5 H5 st5 S5
        cases f5 with
        | nx => exact ⟨al5, ro5, h5, S5, q3.step st5⟩
        | ct => exact ⟨al5, ro5, h5, S5, q3.step st5⟩
        | brk => exact q3 al5 sg5 H5 st5 S5
        | ret w => exact q3 al5 sg5 H5 st5 S5
        | ex e => exact q3 al5 sg5 H5 st5 S5
    · rw [if_neg k] at q3 ⊢
      exact q3 al3 sg2 H3 (Stp.refl _ _) (S2.step st3 hr3)
theorem os_while {X : Cx} {W : WX} {c : Expr} {body : List Stmt} {mc : En → M Bool} {mb : SS} {n : Nat} {pos : Pos} (hp : PassesOwn (model X.prog X.w) X.A X.env X.xe) (hc : PT X c (tT X.K W mc)) (hb : PSs X body (tS X.K W mb)) : PS X (.While c body [] pos) (tS X.K W (nWhile n mc mb)) := PS.weak (ps_while hp hc hb) tS_while
/-! ### list comprehensions -/
def lcTurns (g : GM) (t : En → M Bool) (m : SE) (ro : En) (x : Itm) : Nat → Nat → List Val → M (List Val)
  | 0, i, acc, h => match nxt x i h with
    | some none => .ok acc h
    | _ => .bad
  | k + 1, i, acc, h => match nxt x i h with
    | none => .bad
    | some none => .ok acc h
    | some (some w) => match g w ro h with
      | .go .nx ro1 h1 => match t ro1 h1 with
        | .ok b h2 => if b = true then match m ro1 h2 with
            | .ok y h3 => lcTurns g t m ro x k (i + 1) (acc ++ [y]) h3
            | _ => .bad
          else lcTurns g t m ro x k (i + 1) acc h2
        | _ => .bad
      | _ => .bad
def wipeN (ro : En) : List Nat → En
  | [] => ro
  | v :: vs => (wipeN ro vs).set v none
def sLc (mi : SI) (g : GM) (t : En → M Bool) (m : SE) (own : List Nat) : SE := fun ro => bind (mi ro) fun x => bind (lcTurns g t m (wipeN ro own) x.1 x.2 0 []) fun ys => ret (.lst ys)
theorem Sim.wiped {K : PySem.W.Frag} {al B : List Addr} {ro : En} {h : HH} {sg : L2.St} {H : Hp} (S : Sim K al B ro h sg H) : ∀ vs : List Nat, Sim K al B (wipeN ro vs) h (wipe sg vs) H
  | [] => S
  | v :: vs => by
    have T := S.wiped vs
    refine ⟨T.hr, by unfold wipeN wipe; simp [T.len], fun i w e => ?_⟩
    unfold wipeN at e
    unfold L2.wipe
    by_cases z : v = i
    · subst z
      by_cases l : v < (wipeN ro vs).length
      · rw [List.getElem?_set_self l] at e; cases e
      · rw [List.getElem?_eq_none (by simpa using l)] at e; cases e
    · rw [List.getElem?_set_ne z] at e
      obtain ⟨v', p, q⟩ := T.env i w e
      exact ⟨v', by rw [List.getElem?_set_ne z]; exact p, q⟩
theorem wipe_in {sg : L2.St} : ∀ {vs : List Nat} {i : Nat}, i ∈ vs → (wipe sg vs)[i]? = (sg[i]?).map fun _ => none
  | v :: vs, i, h => by
    unfold wipe
    by_cases z : v = i
    · subst z
      by_cases l : v < (wipe sg vs).length
      · rw [List.getElem?_set_self l]
        rw [wipe_length] at l
        rw [List.getElem?_eq_getElem l]; rfl
      · rw [List.getElem?_eq_none (by simpa using l)]
        rw [wipe_length] at l
        rw [List.getElem?_eq_none (by omega)]; rfl
    · rw [List.getElem?_set_ne z]
      exact wipe_in (by rcases List.mem_cons.mp h with e | e; exact absurd e.symm z; exact e)
theorem wipe_same {sg sg' : L2.St} {vs : List Nat} (hl : sg'.length = sg.length) (h : ∀ i, i ∉ vs → sg'[i]? = sg[i]?) : wipe sg' vs = wipe sg vs := by
  refine List.ext_getElem? fun i => ?_
  by_cases c : i ∈ vs
  · rw [wipe_in c, wipe_in c]
    by_cases l : i < sg.length
    · rw [List.getElem?_eq_getElem l, List.getElem?_eq_getElem (by rw [hl]; exact l)]; rfl
    · rw [List.getElem?_eq_none (by omega), List.getElem?_eq_none (by omega)]
  · rw [wipe_out c, wipe_out c, h i c]
theorem wipe_wipe {sg : L2.St} {vs : List Nat} : wipe (wipe sg vs) vs = wipe sg vs := wipe_same (wipe_length _ _) fun i h => wipe_out h
/-- D is being made -/
theorem HR.busy {K : PySem.W.Frag} {al B : List Addr} {H : Hp} {h : HH} (x : HR K al B H h) {D : Addr} (l : H D ≠ none) (n : D ∉ al)
    (q : ∀ (n : Nat) (a : Addr) (o : Ob), al[n]? = some a → h[n]? = some o → ObR K al (D :: B) H o a) : HR K al (D :: B) H h :=
  ⟨x.nd, x.len, q, fun a ha => by rcases List.mem_cons.mp ha with e | e; exact e ▸ l; exact x.live a e, fun a ha => by rcases List.mem_cons.mp ha with e | e; exact e ▸ n; exact x.apart a e⟩
theorem At.grow {al B : List Addr} {H : Hp} {D : Addr} {o : HO} (n : H D = none) {a : Addr} {u : HO} (x : At al B H a u) : At al (D :: B) (upd H D o) a u := by
  obtain ⟨q, n1, n2⟩ := x
  have ne : a ≠ D := by
    intro z
    subst z
    rcases q with q | ⟨_, q⟩ <;> rw [n] at q <;> cases q
  refine ⟨by rw [upd_ne ne]; exact q, n1, fun z => ?_⟩
  rcases List.mem_cons.mp z with e | e
  · exact ne e
  · exact n2 e
theorem At1.grow {al B : List Addr} {H : Hp} {D : Addr} {o : HO} (n : H D = none) {a : Addr} {u : HO} (x : At1 al B H a u) : At1 al (D :: B) (upd H D o) a u := ⟨by rw [upd_ne (ne_of_none x.1 n)]; exact x.1, (x.at.grow (o := o) n).2⟩
theorem At.less {al B : List Addr} {H : Hp} {D : Addr} {a : Addr} {u : HO} (x : At al (D :: B) H a u) : At al B H a u := ⟨x.1, x.2.1, fun z => x.2.2 (List.mem_cons_of_mem _ z)⟩
theorem At1.less {al B : List Addr} {H : Hp} {D : Addr} {a : Addr} {u : HO} (x : At1 al (D :: B) H a u) : At1 al B H a u := ⟨x.1, x.2.1, fun z => x.2.2 (List.mem_cons_of_mem _ z)⟩
theorem At.turn {al B : List Addr} {H : Hp} {D : Addr} {o : HO} (n : D ∈ B) {a : Addr} {u : HO} (x : At al B H a u) : At al B (upd H D o) a u := by
  refine ⟨by rw [upd_ne (a := D) (b := a) (fun z => x.2.2 (by rw [z]; exact n))]; exact x.1, x.2⟩
theorem At1.turn {al B : List Addr} {H : Hp} {D : Addr} {o : HO} (n : D ∈ B) {a : Addr} {u : HO} (x : At1 al B H a u) : At1 al B (upd H D o) a u := by
  refine ⟨by rw [upd_ne (a := D) (b := a) (fun z => x.2.2 (by rw [z]; exact n))]; exact x.1, x.2⟩
theorem AtT.grow {al B : List Addr} {H : Hp} {D : Addr} {o : HO} (n : H D = none) {a : Addr} {u : List V} (x : AtT al B H a u) : AtT al (D :: B) (upd H D o) a u := by
  obtain ⟨w, q, f⟩ := x
  exact ⟨w, q.grow n, f⟩
theorem AtT.less {al B : List Addr} {H : Hp} {D : Addr} {a : Addr} {u : List V} (x : AtT al (D :: B) H a u) : AtT al B H a u := by
  obtain ⟨w, q, f⟩ := x
  exact ⟨w, q.less, f⟩
theorem AtT.turn {al B : List Addr} {H : Hp} {D : Addr} {o : HO} (n : D ∈ B) {a : Addr} {u : List V} (x : AtT al B H a u) : AtT al B (upd H D o) a u := by
  obtain ⟨w, q, f⟩ := x
  exact ⟨w, q.turn n, f⟩
mutual
theorem Rep.grow {K : PySem.W.Frag} {al B : List Addr} {H : Hp} {D : Addr} {o : HO} (n : H D = none) : ∀ {w : Val} {v : V}, Rep K al B H w v → Rep K al (D :: B) (upd H D o) w v
  | _, _, .non => .non
  | _, _, .bl b => .bl b
  | _, _, .int i => .int i
  | _, _, .str x => .str x
  | _, _, .tup a l r => .tup (a.imp (AtT.grow n) id) l (Reps.grow n r)
  | _, _, .lst a l r => .lst (At1.grow n a) l (Reps.grow n r)
  | _, _, .ref e => .ref e
  | _, _, .glo a => .glo a
  | _, _, .ty n => .ty n
  | _, _, .scr a l => .scr (a.imp (At.grow n) id) l
  | _, _, .exn a e r => .exn (At1.grow n a) e (Reps.grow n r)
theorem Reps.grow {K : PySem.W.Frag} {al B : List Addr} {H : Hp} {D : Addr} {o : HO} (n : H D = none) : ∀ {w : List Val} {v : List V}, Reps K al B H w v → Reps K al (D :: B) (upd H D o) w v
  | _, _, .nil => .nil
  | _, _, .cons a r => .cons (Rep.grow n a) (Reps.grow n r)
end
mutual
theorem Rep.less {K : PySem.W.Frag} {al B : List Addr} {H : Hp} {D : Addr} : ∀ {w : Val} {v : V}, Rep K al (D :: B) H w v → Rep K al B H w v
  | _, _, .non => .non
  | _, _, .bl b => .bl b
  | _, _, .int i => .int i
  | _, _, .str x => .str x
  | _, _, .tup a l r => .tup (a.imp AtT.less id) l (Reps.less r)
  | _, _, .lst a l r => .lst (At1.less  a) l (Reps.less  r)
  | _, _, .ref e => .ref e
  | _, _, .glo a => .glo a
  | _, _, .ty n => .ty n
  | _, _, .scr a l => .scr (a.imp (At.less) id) l
  | _, _, .exn a e r => .exn (At1.less a) e (Reps.less r)
theorem Reps.less {K : PySem.W.Frag} {al B : List Addr} {H : Hp} {D : Addr} : ∀ {w : List Val} {v : List V}, Reps K al (D :: B) H w v → Reps K al B H w v
  | _, _, .nil => .nil
  | _, _, .cons a r => .cons (Rep.less a) (Reps.less r)
end
mutual
/-- D changes -/
theorem Rep.turn {K : PySem.W.Frag} {al B : List Addr} {H : Hp} {D : Addr} {o : HO} (n : D ∈ B) : ∀ {w : Val} {v : V}, Rep K al B H w v → Rep K al B (upd H D o) w v
  | _, _, .non => .non
  | _, _, .bl b => .bl b
  | _, _, .int i => .int i
  | _, _, .str x => .str x
  | _, _, .tup a l r => .tup (a.imp (AtT.turn n) id) l (Reps.turn n r)
  | _, _, .lst a l r => .lst (At1.turn n a) l (Reps.turn n r)
  | _, _, .ref e => .ref e
  | _, _, .glo a => .glo a
  | _, _, .ty n => .ty n
  | _, _, .scr a l => .scr (a.imp (At.turn n) id) l
  | _, _, .exn a e r => .exn (At1.turn n a) e (Reps.turn n r)
theorem Reps.turn {K : PySem.W.Frag} {al B : List Addr} {H : Hp} {D : Addr} {o : HO} (n : D ∈ B) : ∀ {w : List Val} {v : List V}, Reps K al B H w v → Reps K al B (upd H D o) w v
  | _, _, .nil => .nil
  | _, _, .cons a r => .cons (Rep.turn n a) (Reps.turn n r)
end
theorem ObR.grow {K : PySem.W.Frag} {al B : List Addr} {H : Hp} {D : Addr} {u : HO} (n : H D = none) {o : Ob} {a : Addr} (x : ObR K al B H o a) : ObR K al (D :: B) (upd H D u) o a := by
  cases x with
  | lst h l r => exact .lst (by rw [upd_ne (ne_of_none h n)]; exact h) l (r.grow n)
  | dic h k r => exact .dic (by rw [upd_ne (ne_of_none h n)]; exact h) k (r.grow n)
  | ins h k r => exact .ins (by rw [upd_ne (ne_of_none h n)]; exact h) k (r.grow n)
theorem ObR.less {K : PySem.W.Frag} {al B : List Addr} {H : Hp} {D : Addr} {o : Ob} {a : Addr} (x : ObR K al (D :: B) H o a) : ObR K al B H o a := by
  cases x with
  | lst h l r => exact .lst h l r.less
  | dic h k r => exact .dic h k r.less
  | ins h k r => exact .ins h k r.less
theorem ObR.turn {K : PySem.W.Frag} {al B : List Addr} {H : Hp} {D : Addr} {u : HO} (n : D ∈ B) {o : Ob} {a : Addr} (na : a ≠ D) (x : ObR K al B H o a) : ObR K al B (upd H D u) o a := by
  cases x with
  | lst h l r => exact .lst (by rw [upd_ne na]; exact h) l (r.turn n)
  | dic h k r => exact .dic (by rw [upd_ne na]; exact h) k (r.turn n)
  | ins h k r => exact .ins (by rw [upd_ne na]; exact h) k (r.turn n)
theorem HR.grow {K : PySem.W.Frag} {al B : List Addr} {H : Hp} {h : HH} (x : HR K al B H h) {D : Addr} {u : HO} (n : H D = none) : HR K al (D :: B) (upd H D u) h :=
  ⟨x.nd, x.len, fun i a o e1 e2 => (x.ob i a o e1 e2).grow n, fun a ha => by
    rcases List.mem_cons.mp ha with e | e
    · subst e; rw [upd_same]; simp
    · exact (Stp.lay (al := al) n).up a (x.live a e), fun a ha => by
    rcases List.mem_cons.mp ha with e | e
    · subst e; exact (x.fresh n).1
    · exact x.apart a e⟩
theorem HR.less {K : PySem.W.Frag} {al B : List Addr} {H : Hp} {h : HH} {D : Addr} (x : HR K al (D :: B) H h) : HR K al B H h :=
  ⟨x.nd, x.len, fun i a o e1 e2 => (x.ob i a o e1 e2).less, fun a ha => x.live a (List.mem_cons_of_mem _ ha), fun a ha => x.apart a (List.mem_cons_of_mem _ ha)⟩
theorem HR.turn {K : PySem.W.Frag} {al B : List Addr} {H : Hp} {h : HH} (x : HR K al B H h) {D : Addr} {u : HO} (n : D ∈ B) : HR K al B (upd H D u) h :=
  ⟨x.nd, x.len, fun i a o e1 e2 => (x.ob i a o e1 e2).turn n fun z => x.apart D n (z ▸ List.mem_of_getElem? e1), fun a ha => by
    by_cases z : a = D
    · subst z; rw [upd_same]; simp
    · rw [upd_ne z]; exact x.live a ha, x.apart⟩
/-- what stays but D -/
theorem Stp.turn {al : List Addr} {H0 H : Hp} {al' : List Addr} {D : Addr} {u : HO} (s : Stp al H0 al' H) (n : H0 D = none) (l : H D ≠ none) : Stp al H0 al' (upd H D u) :=
  ⟨s.more, fun a o e m => by rw [upd_ne (ne_of_none e n)]; exact s.keep a o e m, fun a q => by
    by_cases z : a = D
    · subst z; rw [upd_same]; simp
    · rw [upd_ne z]; exact s.up a q⟩
theorem tE_lc {K : PySem.W.Frag} {W : WX} {mi : SI} {g : GM} {sl : List Nat} {t : En → M Bool} {m : SE} {own : List Nat} (hsl : ∀ i ∈ sl, i ∈ own) (sg : L2.St) (H : Hp) (Q : VK) (p : tE K W (sLc mi g t m own) sg H Q) :
    tLc (tI K W mi) (tG K sl g) (tT K (fun _ _ _ _ => False) t) (tE K (fun _ _ _ _ => False) m) own sg H Q := by
  obtain ⟨al, B, ro, h, S, p⟩ := p
  refine ⟨al, B, ro, h, S, Po.mono (Po.bind p) fun J H1 ⟨al1, h1, ⟨x, n⟩, st, hr, ⟨it, hlen⟩, q⟩ => ?_⟩
  dsimp only at it q hlen
  intro D hD
  have S1 := (S.step st hr).wiped own
  have hDB : ∀ b ∈ D :: B, b ∈ B ∨ H1 b = none := fun b hb => by
    rcases List.mem_cons.mp hb with e | e
    · exact .inr (e ▸ hD)
    · exact .inl e
  have key : ∀ acc accV al2 H2 h2, Po K B (fun al H => Rep K al B H) sg al1 H1 (obind (.ok acc h2) fun ys => ret (.lst ys)) W Q → acc.length ≤ sizeLine → Stp al1 H1 al2 H2 → HR K al2 (D :: B) H2 h2 → H2 D = some (.lst accV) → Reps K al2 (D :: B) H2 acc accV → Q (.ref D) H2 := by
    intro acc accV al2 H2 h2 q l s2 hr2 d2 r2
    refine q al2 H2 (.ref D) s2 hr2.less (.lst ⟨d2, fun z => hr2.apart D (List.mem_cons_self) z, fun z => ?_⟩ l r2.less)
    exact (hr.fresh hD).2 z
  refine ⟨fun i k H2 => ∃ al2 h2 acc accV, Stp al1 H1 al2 H2 ∧ HR K al2 (D :: B) H2 h2 ∧ H2 D = some (.lst accV) ∧ Reps K al2 (D :: B) H2 acc accV ∧ acc.length + k ≤ sizeLine ∧
    Po K B (fun al H => Rep K al B H) sg al1 H1 (obind (lcTurns g t m (wipeN ro own) x k i acc h2) fun ys => ret (.lst ys)) W Q, ⟨n, al1, h1, [], [], Stp.lay hD, hr.grow hD, upd_same, .nil, by simpa using hlen, q⟩, ?_⟩
  rintro i k H2 ⟨al2, h2, acc, accV, st2, hr2, d2, r2, hl, q2⟩
  obtain ⟨i1, i2⟩ := it al2 (D :: B) H2 h2 st2.toB hDB hr2 i
  cases e0 : nxt x i h2 with
  | none => cases k <;> (unfold lcTurns at q2; rw [e0] at q2; exact q2.elim)
  | some o =>
  cases o with
  | none =>
    refine .inl ⟨i1 e0, ?_⟩
    cases k with
    | zero => unfold lcTurns at q2; rw [e0] at q2; exact key acc accV al2 H2 h2 q2 (by omega) st2 hr2 d2 r2
    | succ k => unfold lcTurns at q2; rw [e0] at q2; exact key acc accV al2 H2 h2 q2 (by omega) st2 hr2 d2 r2
  | some w =>
    obtain ⟨g1, g2⟩ := i2 w e0
    cases k with
    | zero => unfold lcTurns at q2; rw [e0] at q2; exact q2.elim
    | succ k =>
    unfold lcTurns at q2
    rw [e0] at q2
    refine .inr ⟨g1, fun H3 => ∃ al3 h3 acc accV, Stp al1 H1 al3 H3 ∧ HR K al3 (D :: B) H3 h3 ∧ H3 D = some (.lst accV) ∧ Reps K al3 (D :: B) H3 acc accV ∧ acc.length + k ≤ sizeLine ∧
      Po K B (fun al H => Rep K al B H) sg al1 H1 (obind (lcTurns g t m (wipeN ro own) x k (i + 1) acc h3) fun ys => ret (.lst ys)) W Q, fun H3 ⟨al3, h3, acc, accV, a, b, c, d, e, f⟩ => ⟨k, by omega, al3, h3, acc, accV, a, b, c, d, e, f⟩, fun y H3 yy => ?_⟩
    -- within the turn D is one of those that are being made
    obtain ⟨s3, hr3, r3⟩ := g2 y H3 yy
    have st3 := st2.trans s3
    have d3 : H3 D = some (.lst accV) := s3.keep _ _ d2 (hr2.apart D List.mem_cons_self)
    refine ⟨al2, D :: B, wipeN ro own, h2, w, S1.stepB st3.toB hDB hr3, r3, ?_⟩
    dsimp only at q2
    cases e : g w (wipeN ro own) h2 with
    | bad => rw [e] at q2; exact q2.elim
    | go f ro4 h4 =>
      rw [e] at q2
      cases f with
      | nx =>
        intro al4 sg4 H4 st4 S4 ⟨hl4, f4⟩
        have d4 : H4 D = some (.lst accV) := st4.keep _ _ d3 (hr3.apart D List.mem_cons_self)
        refine ⟨(wipe_same hl4 fun i hi => f4 i fun z => hi (hsl i z)).trans wipe_wipe, ?_⟩
        refine ⟨al4, D :: B, ro4, h4, S4, ?_⟩
        dsimp only at q2
        cases e2 : t ro4 h4 with
        | bad => rw [e2] at q2; exact q2.elim
        | ex _ _ => rw [e2] at q2; exact q2.elim
        | ok b h5 =>
          rw [e2] at q2
          intro al5 H5 v5 st5 hr5 eb
          subst eb
          have d5 : H5 D = some (.lst accV) := st5.keep _ _ d4 (S4.hr.apart D List.mem_cons_self)
          have st15 := (st3.trans st4).trans st5
          have r5 := r2.step ((s3.trans st4).trans st5)
          cases b with
          | false => exact ⟨al5, h5, acc, accV, st15, hr5, d5, r5, by omega, q2⟩
          | true =>
            rw [if_pos rfl]
            refine ⟨al5, D :: B, ro4, h5, S4.step st5 hr5, ?_⟩
            dsimp only at q2
            rw [if_pos rfl] at q2
            cases e3 : m ro4 h5 with
            | bad => rw [e3] at q2; exact q2.elim
            | ex _ _ => rw [e3] at q2; exact q2.elim
            | ok y6 h6 =>
              rw [e3] at q2
              intro al6 H6 v6 st6 hr6 r6
              have d6 : H6 D = some (.lst accV) := st6.keep _ _ d5 (hr5.apart D List.mem_cons_self)
              refine ⟨accV, d6, by rw [← r2.length]; omega, al6, h6, acc ++ [y6], accV ++ [v6], (st15.trans st6).turn hD (by rw [d6]; simp), hr6.turn List.mem_cons_self, upd_same, ((r5.step st6).turn List.mem_cons_self).append (.cons (r6.turn List.mem_cons_self) .nil), by simp; omega, q2⟩
      | _ => exact q2.elim
abbrev W0 : WX := fun _ _ _ _ => False
theorem takes0 {X : Cx} : Takes (X.wish fun _ _ => False) W0 := fun _ _ ⟨_, _, _, _, _, _, _, _, _, _, _, _, _, _, _, _, z⟩ => z.elim
section
variable {X : Cx} {W : WX} {elt tg iter : Expr} {ifs : List Expr} {scope : Scope} {own : List (Str × Nat)} {pos : Pos} {mi : SI} {g : GM} {sl : List Nat} {t : En → M Bool} {m : SE}
theorem oe_lc (hc : X.calm = true) (hN : X.N.Nodup) (hi : PI X tg iter (tI X.K W mi)) (ok : BlkOk X.N X.env.scope scope own) (hsl : ∀ i ∈ sl, i ∈ own.map (·.2))
    (hg : ∀ (s : Shared) (H : Hp) (C : Addr) (cl : List (Str × Addr)) (fp : List Addr), PG (X.blk s H scope (compEnvC scope cl C X.env) fp) tg (tG X.K sl g))
    (ht : ∀ (s : Shared) (H : Hp) (C : Addr) (cl : List (Str × Addr)) (fp : List Addr), PTs (X.blk s H scope (compEnvC scope cl C X.env) fp) ifs (tT X.K W0 t))
    (he : ∀ (s : Shared) (H : Hp) (C : Addr) (cl : List (Str × Addr)) (fp : List Addr), PE (X.blk s H scope (compEnvC scope cl C X.env) fp) elt (tE X.K W0 m)) (hs : ∀ x, foldedSetIterable iter X.env x = pure x) :
    PE X (.ListComp elt [⟨tg, iter, ifs, 0⟩] scope pos) (tE X.K W (sLc mi g t m (own.map (·.2)))) := PE.weak (pe_lc hc hN hi ok hg ht he hs) (tE_lc hsl)
theorem os_setLc {i : Nat} {y : Str} {py spos : Pos} (hc : X.calm = true) (hN : X.N.Nodup) (hy : X.N[i]? = some y) (hyl : X.env.scope.names.lookup y = some .local)
    (hsw : swapsWith (.ListComp elt [⟨tg, iter, ifs, 0⟩] scope pos) (some (.Name y py)) spos.line X.env = pure true) (hi : PI X tg iter (tI X.K W mi)) (ok : BlkOk X.N X.env.scope scope own) (hsl : ∀ i ∈ sl, i ∈ own.map (·.2))
    (hg : ∀ (s : Shared) (H : Hp) (C : Addr) (cl : List (Str × Addr)) (fp : List Addr), PG (X.blk s H scope (compEnvC scope cl C X.env) fp) tg (tG X.K sl g))
    (ht : ∀ (s : Shared) (H : Hp) (C : Addr) (cl : List (Str × Addr)) (fp : List Addr), PTs (X.blk s H scope (compEnvC scope cl C X.env) fp) ifs (tT X.K W0 t))
    (he : ∀ (s : Shared) (H : Hp) (C : Addr) (cl : List (Str × Addr)) (fp : List Addr), PE (X.blk s H scope (compEnvC scope cl C X.env) fp) elt (tE X.K W0 m)) (hs : ∀ x, foldedSetIterable iter X.env x = pure x) :
    PS X (.Assign [.Name y py] (.ListComp elt [⟨tg, iter, ifs, 0⟩] scope pos) spos) (tS X.K W (nSet i (sLc mi g t m (own.map (·.2))))) := by
  refine PS.weak (ps_setLc hc hN hy hyl hsw hi ok hg ht he hs) ?_
  rintro D sg H ⟨al, B, ro, h, S, p⟩
  refine tE_lc hsl sg H _ ⟨al, B, ro, h, S, Po.mono (Ps.bind S p) fun v H1 ⟨al1, h1, w, st, hr, r, q⟩ => ?_⟩
  exact q al1 _ H1 (Stp.refl _ _) ((S.step st hr).set i r)
end
end Z
set_option Elab.async false
set_option maxRecDepth 100000
set_option linter.unusedVariables false
/-! Z4: operators on values. -/
namespace Z
open PySem PySem.Spec PyProof.Rows L2
/-! ### plain data -/
mutual
def toD : Val → PyData
  | .non => .none
  | .bl b => .bool b
  | .int i => .int i
  | .str x => .str x
  | .tup xs => .tuple (toDs xs)
  | .lst xs => .list (toDs xs)
  | .ref _ => .none
  | .glo _ => .none
  | .ty _ => .none
  | .scr _ => .none
  | .exn _ _ _ _ => .none
def toDs : List Val → List PyData
  | [] => []
  | x :: xs => toD x :: toDs xs
end
mutual
def okV : Val → Bool
  | .non => true
  | .bl _ => true
  | .int _ => true
  | .str x => PyData.strOk x
  | .tup xs => okVs xs
  | .lst xs => okVs xs
  | .ref _ => false
  | .glo _ => false
  | .ty _ => false
  | .scr _ => false
  | .exn _ _ _ _ => false
def okVs : List Val → Bool
  | [] => true
  | x :: xs => okV x && okVs xs
end
section
variable {K : PySem.W.Frag} {al B : List Addr} {H : Hp}
mutual
theorem dp_of : ∀ {w : Val} {v : V}, okV w = true → Rep K al B H w v → Dp K H v (toD w)
  | _, _, _, .non => by unfold toD; exact .non
  | _, _, _, .bl b => by unfold toD; exact .bl b
  | _, _, _, .int i => by unfold toD; exact .int i
  | _, _, _, .str x => by unfold toD; exact .str x
  | _, _, o, .tup a _ r => by unfold okV at o; unfold toD; exact .tup (sqT_of a) (dps_of o r)
  | _, _, o, .lst a _ r => by unfold okV at o; unfold toD; exact .lst (SqL.of a.1) (dps_of o r)
  | _, _, o, .ref _ => by unfold okV at o; cases o
  | _, _, o, .glo _ => by unfold okV at o; cases o
  | _, _, o, .ty _ => by unfold okV at o; cases o
  | _, _, o, .scr _ _ => by unfold okV at o; cases o
  | _, _, o, .exn _ _ _ => by unfold okV at o; cases o
theorem dps_of : ∀ {w : List Val} {v : List V}, okVs w = true → Reps K al B H w v → DpAll K H v (toDs w)
  | _, _, _, .nil => by unfold toDs; exact .nil
  | _, _, o, .cons a r => by
    unfold okVs at o; unfold toDs
    rw [Bool.and_eq_true] at o
    exact .cons (dp_of o.1 a) (dps_of o.2 r)
end
end
mutual
theorem lay_of : ∀ w : Val, okV w = true → (toD w).canLay0 = true
  | .non, _ => by unfold toD; simp [PyData.canLay0]
  | .bl _, _ => by unfold toD; simp [PyData.canLay0]
  | .int _, _ => by unfold toD; simp [PyData.canLay0]
  | .str x, o => by unfold okV at o; unfold toD; simp [PyData.canLay0, o]
  | .tup xs, o => by unfold okV at o; unfold toD; simp [PyData.canLay0, lays_of xs o]
  | .lst xs, o => by unfold okV at o; unfold toD; simp [PyData.canLay0, lays_of xs o]
  | .ref _, o => by unfold okV at o; cases o
  | .glo _, o => by unfold okV at o; cases o
  | .ty _, o => by unfold okV at o; cases o
  | .scr _, o => by unfold okV at o; cases o
  | .exn _ _ _ _, o => by unfold okV at o; cases o
theorem lays_of : ∀ w : List Val, okVs w = true → PyData.canLayAll0 (toDs w) = true
  | [], _ => by unfold toDs; simp [PyData.canLayAll0]
  | x :: xs, o => by
    unfold okVs at o; unfold toDs
    rw [Bool.and_eq_true] at o
    simp [PyData.canLayAll0, lay_of x o.1, lays_of xs o.2]
end
/-- a list of one's own, as it stands -/
def rd (w : Val) (h : HH) : Option Val := match w with
  | .ref n => match h[n]? with
    | some (.lst xs) => some (.lst xs)
    | _ => none
  | w => some w
theorem rd_dp {K : PySem.W.Frag} {al B : List Addr} {H : Hp} {h : HH} {w w' : Val} {v : V} (hr : HR K al B H h) (r : Rep K al B H w v) (e : rd w h = some w') (o : okV w' = true) : Dp K H v (toD w') := by
  cases r with
  | ref q =>
    unfold rd at e
    dsimp only at e
    split at e
    · rename_i e2
      cases e
      cases hr.ob _ _ _ q e2 with
      | lst q _ s =>
        unfold okV at o
        unfold toD
        exact .lst (SqL.of q) (dps_of o s)
    · cases e
  | non => cases e; exact dp_of (al := al) (B := B) o .non
  | bl b => cases e; exact dp_of (al := al) (B := B) o (.bl b)
  | int b => cases e; exact dp_of (al := al) (B := B) o (.int b)
  | str b => cases e; exact dp_of (al := al) (B := B) o (.str b)
  | tup a l s => cases e; exact dp_of o (.tup a l s)
  | lst a l s => cases e; exact dp_of o (.lst a l s)
  | glo => cases e; exact dp_of (al := al) (B := B) o (.glo _)
  | ty => cases e; exact dp_of (al := al) (B := B) o (.ty _)
  | scr a l => cases e; exact dp_of o (.scr a l)
  | exn a e2 r => cases e; unfold okV at o; cases o
section
variable {X : Cx}
def rEqM (K : PySem.W.Frag) (neg : Bool) : R2 := fun x y H Q => ∃ d e, Dp K H x d ∧ Dp K H y e ∧ d.canLay0 = true ∧ e.canLay0 = true ∧ min d.depth e.depth ≤ 64 ∧ Q (.bl (if neg then !PyData.eqv d e else PyData.eqv d e)) H
theorem op_eqM (hu : X.A.units + 64 < cLine) : OpR X (compareOp .Eq) (rEqM X.K false) := by
  intro pins s σ H x y v u Q I rx ry h
  obtain ⟨d, e, hd, he, sd, se, l, q⟩ := h
  obtain ⟨as, r1⟩ := Dp.reads I d x v hd rx
  obtain ⟨bs, r2⟩ := Dp.reads I e y u he ry
  exact SeqAt.compareEq_reads r1 r2 sd se (by omega) ⟨.bl _, H, I, rfl, q⟩
theorem op_neM (hu : X.A.units + 64 < cLine) : OpR X (compareOp .NotEq) (rEqM X.K true) := by
  intro pins s σ H x y v u Q I rx ry h
  obtain ⟨d, e, hd, he, sd, se, l, q⟩ := h
  obtain ⟨as, r1⟩ := Dp.reads I d x v hd rx
  obtain ⟨bs, r2⟩ := Dp.reads I e y u he ry
  exact SeqAt.compareNe_reads r1 r2 sd se (by omega) ⟨.bl _, H, I, rfl, q⟩
end
/-- scalars that == tells at once -/
def quick : Val → Val → Option Bool
  | .str x, .str y => some (decide (x = y))
  | .int i, .int j => some (decide (i = j))
  | .bl i, .bl j => some (decide (i = j))
  | .non, .non => some true
  | .str _, .int _ => some false
  | .int _, .str _ => some false
  | .str _, .bl _ => some false
  | .bl _, .str _ => some false
  | .str _, .non => some false
  | .non, .str _ => some false
  | .int _, .non => some false
  | .non, .int _ => some false
  | .bl _, .non => some false
  | .non, .bl _ => some false
  | _, _ => none
def veq (w1 w2 : Val) : Option Bool := match quick w1 w2 with
  | some b => some b
  | none => if okV w1 = true ∧ okV w2 = true ∧ min (toD w1).depth (toD w2).depth ≤ 64 then some (PyData.eqv (toD w1) (toD w2)) else none
def bEq (w1 w2 : Val) : M Val := fun h => match rd w1 h, rd w2 h with
  | some a, some b => match veq a b with
    | some k => .ok (.bl k) h
    | none => .bad
  | _, _ => .bad
def bNe (w1 w2 : Val) : M Val := fun h => match rd w1 h, rd w2 h with
  | some a, some b => match veq a b with
    | some k => .ok (.bl (!k)) h
    | none => .bad
  | _, _ => .bad
theorem quick_scal {K : PySem.W.Frag} {al B : List Addr} {H : Hp} {w1 w2 : Val} {v1 v2 : V} {k : Bool} (r1 : Rep K al B H w1 v1) (r2 : Rep K al B H w2 v2) (e : quick w1 w2 = some k) : scal v1 v2 = true ∧ decide (v1 = v2) = k := by
  cases r1 <;> cases r2 <;> first
    | (exfalso; revert e; intro e; cases e; done)
    | (unfold quick at e; cases e; exact ⟨rfl, by simp⟩)
theorem rd_quick {K : PySem.W.Frag} {al B : List Addr} {H : Hp} {h : HH} {w a : Val} {v : V} (hr : HR K al B H h) (r : Rep K al B H w v) (e : rd w h = some a) : a = w ∨ ∃ xs, a = .lst xs := by
  cases r <;> unfold rd at e <;> dsimp only at e <;> first
    | (cases e; exact .inl rfl)
    | (split at e
       · cases e; exact .inr ⟨_, rfl⟩
       · cases e)
theorem quick_lst {xs : List Val} {b : Val} : quick (.lst xs) b = none := by cases b <;> rfl
theorem quick_lst' {xs : List Val} {b : Val} : quick b (.lst xs) = none := by cases b <;> rfl
theorem lk_eq {K : PySem.W.Frag} : Lk2 K bEq (fun x y H Q => rEq x y H Q ∨ rEqM K false x y H Q) := by
  intro W al B sg H h w1 w2 v1 v2 Q hr r1 r2 p
  unfold bEq at p
  cases e1 : rd w1 h with
  | none => rw [e1] at p; exact p.elim
  | some a =>
    cases e2 : rd w2 h with
    | none => rw [e1, e2] at p; exact p.elim
    | some b =>
      rw [e1, e2] at p
      dsimp only at p
      cases e3 : veq a b with
      | none => rw [e3] at p; exact p.elim
      | some k =>
        rw [e3] at p
        have q := Po.now p hr (.bl k)
        unfold veq at e3
        cases e4 : quick a b with
        | some k' =>
          rw [e4] at e3; cases e3
          rcases rd_quick hr r1 e1 with rfl | ⟨xs, rfl⟩
          · rcases rd_quick hr r2 e2 with rfl | ⟨xs, rfl⟩
            · obtain ⟨s, d⟩ := quick_scal r1 r2 e4
              exact .inl ⟨s, by rw [d]; exact q⟩
            · rw [quick_lst'] at e4; cases e4
          · rw [quick_lst] at e4; cases e4
        | none =>
          rw [e4] at e3
          dsimp only at e3
          split at e3
          · rename_i c
            cases e3
            exact .inr ⟨_, _, rd_dp hr r1 e1 c.1, rd_dp hr r2 e2 c.2.1, lay_of _ c.1, lay_of _ c.2.1, c.2.2, q⟩
          · cases e3
theorem lk_ne {K : PySem.W.Frag} : Lk2 K bNe (fun x y H Q => rNe x y H Q ∨ rEqM K true x y H Q) := by
  intro W al B sg H h w1 w2 v1 v2 Q hr r1 r2 p
  unfold bNe at p
  cases e1 : rd w1 h with
  | none => rw [e1] at p; exact p.elim
  | some a =>
    cases e2 : rd w2 h with
    | none => rw [e1, e2] at p; exact p.elim
    | some b =>
      rw [e1, e2] at p
      dsimp only at p
      cases e3 : veq a b with
      | none => rw [e3] at p; exact p.elim
      | some k =>
        rw [e3] at p
        have q := Po.now p hr (.bl (!k))
        unfold veq at e3
        cases e4 : quick a b with
        | some k' =>
          rw [e4] at e3; cases e3
          rcases rd_quick hr r1 e1 with rfl | ⟨xs, rfl⟩
          · rcases rd_quick hr r2 e2 with rfl | ⟨xs, rfl⟩
            · obtain ⟨s, d⟩ := quick_scal r1 r2 e4
              exact .inl ⟨s, by rw [d]; exact q⟩
            · rw [quick_lst'] at e4; cases e4
          · rw [quick_lst] at e4; cases e4
        | none =>
          rw [e4] at e3
          dsimp only at e3
          split at e3
          · rename_i c
            cases e3
            exact .inr ⟨_, _, rd_dp hr r1 e1 c.1, rd_dp hr r2 e2 c.2.1, lay_of _ c.1, lay_of _ c.2.1, c.2.2, q⟩
          · cases e3
end Z
set_option Elab.async false
set_option maxRecDepth 100000
set_option linter.unusedVariables false
/-! Z5: arithmetic, comparisons, subscripts, displays. -/
namespace Z
open PySem PySem.Spec PyProof.Rows L2
section
variable {X : Cx}
def CPowW (i j : Int) : Prop := 0 ≤ j ∧ (Builtin.Int.intBits i : Int) * j ≤ 2 ^ 27
theorem op_powW : OpR X (binaryOp .Pow) (rI CPowW fun i j => .int (i ^ j.toNat)) := opI fun _ _ _ _ _ _ _ hc q => pow_int hc.1 hc.2 q
end
theorem OpR.or3 {X : Cx} {f : Value → Value → Sem Value} {r1 r2 r3 : R2} (h1 : OpR X f r1) (h2 : OpR X f r2) (h3 : OpR X f r3) : OpR X f (fun x y H Q => r1 x y H Q ∨ r2 x y H Q ∨ r3 x y H Q) := h1.or (h2.or h3)
theorem OpR.or4 {X : Cx} {f : Value → Value → Sem Value} {r1 r2 r3 r4 : R2} (h1 : OpR X f r1) (h2 : OpR X f r2) (h3 : OpR X f r3) (h4 : OpR X f r4) : OpR X f (fun x y H Q => r1 x y H Q ∨ r2 x y H Q ∨ r3 x y H Q ∨ r4 x y H Q) := h1.or (h2.or (h3.or h4))
/-- a list of one's own or one that stays -/
def lsts (w : Val) (h : HH) : Option (List Val) := match w with
  | .lst xs => some xs
  | .ref n => match h[n]? with
    | some (.lst xs) => some xs
    | _ => none
  | _ => none
theorem lsts_at {K : PySem.W.Frag} {al B : List Addr} {H : Hp} {h : HH} {w : Val} {v : V} {xs : List Val} (hr : HR K al B H h) (r : Rep K al B H w v) (e : lsts w h = some xs) : ∃ a vs, v = .ref a ∧ H a = some (.lst vs) ∧ xs.length ≤ sizeLine ∧ Reps K al B H xs vs := by
  cases r with
  | lst a l s => cases e; exact ⟨_, _, rfl, a.1, l, s⟩
  | ref q =>
    unfold lsts at e
    dsimp only at e
    split at e
    · rename_i e2
      cases e
      cases hr.ob _ _ _ q e2 with
      | lst q l s => exact ⟨_, _, rfl, q, l, s⟩
    · cases e
  | _ => cases e
def bAdd (w1 w2 : Val) : M Val := fun h => match w1, w2 with
  | .int i, .int j => .ok (.int (i + j)) h
  | .str x, .str y => if x.length + y.length ≤ sizeLine then .ok (.str (x ++ y)) h else .bad
  | .tup xs, .tup ys => if xs.length + ys.length ≤ sizeLine then .ok (.tup (xs ++ ys)) h else .bad
  | w1, w2 => match lsts w1 h, lsts w2 h with
    | some xs, some ys => if xs.length + ys.length ≤ sizeLine then .ok (.lst (xs ++ ys)) h else .bad
    | _, _ => .bad
theorem lk_add {K : PySem.W.Frag} : Lk2 K bAdd (fun x y H Q => rI0 (fun i j => .int (i + j)) x y H Q ∨ (∃ i j, x = .str i ∧ y = .str j ∧ i.length + j.length ≤ sizeLine ∧ Q (.str (i ++ j)) H) ∨ rCatF K x y H Q ∨ rCat x y H Q) := by
  intro W al B sg H h w1 w2 v1 v2 Q hr r1 r2 p
  have L : ∀ xs ys, lsts w1 h = some xs → lsts w2 h = some ys → xs.length + ys.length ≤ sizeLine → Po K B (fun al H => Rep K al B H) sg al H (.ok (.lst (xs ++ ys)) h) W Q → rCat v1 v2 H Q := by
    intro xs ys e1 e2 l p
    obtain ⟨a, vs, rfl, q1, _, s1⟩ := lsts_at hr r1 e1
    obtain ⟨b, us, rfl, q2, _, s2⟩ := lsts_at hr r2 e2
    refine ⟨a, b, vs, us, rfl, rfl, q1, q2, by rw [← s1.length, ← s2.length]; exact l, fun z hz => ?_⟩
    exact p _ _ _ (Stp.lay hz) (hr.lay hz) (.lst (At1.lay hr hz) (by rw [List.length_append]; exact l) ((s1.append s2).step (Stp.lay hz)))
  have E : ∀ {o : Out Val}, o = (match lsts w1 h, lsts w2 h with
    | some xs, some ys => if xs.length + ys.length ≤ sizeLine then .ok (.lst (xs ++ ys)) h else .bad
    | _, _ => .bad) → Po K B (fun al H => Rep K al B H) sg al H o W Q → rCat v1 v2 H Q := by
    intro o eo p
    cases e1 : lsts w1 h with
    | none => rw [e1] at eo; rw [eo] at p; exact p.elim
    | some xs =>
      cases e2 : lsts w2 h with
      | none => rw [e1, e2] at eo; rw [eo] at p; exact p.elim
      | some ys =>
        rw [e1, e2] at eo
        dsimp only at eo
        split at eo
        · rename_i l; rw [eo] at p; exact L xs ys e1 e2 l p
        · rw [eo] at p; exact p.elim
  unfold bAdd at p
  split at p
  · cases r1; cases r2; exact .inl ⟨_, _, rfl, rfl, Po.now p hr (.int _)⟩
  · cases r1; cases r2
    split at p
    · rename_i l; exact .inr (.inl ⟨_, _, rfl, rfl, l, Po.now p hr (.str _)⟩)
    · exact p.elim
  · cases r1 with
    | tup a1 l1 s1 =>
      cases r2 with
      | tup a2 l2 s2 =>
        split at p
        · rename_i l
          refine .inr (.inr (.inl ⟨_, _, _, _, rfl, rfl, sqT_of a1, sqT_of a2, by rw [← s1.length, ← s2.length]; exact l, fun e => ?_, fun _ e => ?_, fun _ _ z u hz hu => ?_⟩))
          · subst e; cases s1
            exact Po.now p hr (by rw [List.nil_append]; exact .tup a2 l2 s2)
          · subst e; cases s2
            exact Po.now p hr (by rw [List.append_nil]; exact .tup a1 l1 s1)
          · exact p _ _ _ (Stp.lay hz) (hr.lay hz) (.tup (.inl (AtT.lay hr hz hu)) (by rw [List.length_append]; exact l) ((s1.append s2).step (Stp.lay hz)))
        · exact p.elim
  · exact .inr (.inr (.inr (E rfl p)))
def bSub (w1 w2 : Val) : M Val := fun h => match w1, w2 with
  | .int i, .int j => .ok (.int (i - j)) h
  | _, _ => .bad
theorem lk_sub {K : PySem.W.Frag} : Lk2 K bSub (rI0 (fun i j => .int (i - j))) := by
  intro W al B sg H h w1 w2 v1 v2 Q hr r1 r2 p
  unfold bSub at p
  split at p
  · cases r1; cases r2; exact ⟨_, _, rfl, rfl, Po.now p hr (.int _)⟩
  · exact p.elim
instance {i j : Int} : Decidable (CMul i j) := inferInstanceAs (Decidable (_ ∨ _))
instance {i j : Int} : Decidable (CMulW i j) := inferInstanceAs (Decidable (_ < _))
instance {i j : Int} : Decidable (CPowW i j) := inferInstanceAs (Decidable (_ ∧ _))
instance {i j : Int} : Decidable (CDivW i j) := inferInstanceAs (Decidable (_ ∧ _))
instance {i j : Int} : Decidable (CDivN i j) := inferInstanceAs (Decidable (_ ∧ _))
def bMul (w1 w2 : Val) : M Val := fun h => match w1, w2 with
  | .int i, .int j => if CMul i j then .ok (.int (i * j)) h else if CMulW i j then .ok (.int (i * j)) h else .bad
  | _, _ => .bad
theorem lk_mul {K : PySem.W.Frag} : Lk2 K bMul (fun x y H Q => rI CMul (fun i j => .int (i * j)) x y H Q ∨ rI CMulW (fun i j => .int (i * j)) x y H Q) := by
  intro W al B sg H h w1 w2 v1 v2 Q hr r1 r2 p
  unfold bMul at p
  split at p
  · cases r1; cases r2
    split at p
    · rename_i c; exact .inl ⟨_, _, rfl, rfl, c, Po.now p hr (.int _)⟩
    · split at p
      · rename_i c; exact .inr ⟨_, _, rfl, rfl, c, Po.now p hr (.int _)⟩
      · exact p.elim
  · exact p.elim
def bPow (w1 w2 : Val) : M Val := fun h => match w1, w2 with
  | .int i, .int j => if CPowW i j then .ok (.int (i ^ j.toNat)) h else .bad
  | _, _ => .bad
theorem lk_pow {K : PySem.W.Frag} : Lk2 K bPow (rI CPowW (fun i j => .int (i ^ j.toNat))) := by
  intro W al B sg H h w1 w2 v1 v2 Q hr r1 r2 p
  unfold bPow at p
  split at p
  · cases r1; cases r2
    split at p
    · rename_i c; exact ⟨_, _, rfl, rfl, c, Po.now p hr (.int _)⟩
    · exact p.elim
  · exact p.elim
def bDiv (w1 w2 : Val) : M Val := fun h => match w1, w2 with
  | .int i, .int j => if CDivW i j then .ok (.int (i / j)) h else if CDivN i j then .ok (.int (i.fdiv j)) h else .bad
  | _, _ => .bad
theorem lk_div {K : PySem.W.Frag} : Lk2 K bDiv (fun x y H Q => rI CDivW (fun i j => .int (i / j)) x y H Q ∨ rI CDivN (fun i j => .int (i.fdiv j)) x y H Q) := by
  intro W al B sg H h w1 w2 v1 v2 Q hr r1 r2 p
  unfold bDiv at p
  split at p
  · cases r1; cases r2
    split at p
    · rename_i c; exact .inl ⟨_, _, rfl, rfl, c, Po.now p hr (.int _)⟩
    · split at p
      · rename_i c; exact .inr ⟨_, _, rfl, rfl, c, Po.now p hr (.int _)⟩
      · exact p.elim
  · exact p.elim
def bMod (w1 w2 : Val) : M Val := fun h => match w1, w2 with
  | .int i, .int j => if 0 < j then .ok (.int (i % j)) h else if j ≠ 0 then .ok (.int (i.fmod j)) h else .bad
  | _, _ => .bad
theorem lk_mod {K : PySem.W.Frag} : Lk2 K bMod (fun x y H Q => rI (fun _ j => 0 < j) (fun i j => .int (i % j)) x y H Q ∨ rI (fun _ j => j ≠ 0) (fun i j => .int (i.fmod j)) x y H Q) := by
  intro W al B sg H h w1 w2 v1 v2 Q hr r1 r2 p
  unfold bMod at p
  split at p
  · cases r1; cases r2
    split at p
    · rename_i c; exact .inl ⟨_, _, rfl, rfl, c, Po.now p hr (.int _)⟩
    · split at p
      · rename_i c; exact .inr ⟨_, _, rfl, rfl, c, Po.now p hr (.int _)⟩
      · exact p.elim
  · exact p.elim
def uNeg (w : Val) : M Val := fun h => match w with
  | .int i => .ok (.int (-i)) h
  | _ => .bad
theorem lk_neg {K : PySem.W.Frag} : Lk1 K uNeg (rU fun i => .int (-i)) := by
  intro W al B sg H h w v Q hr r p
  unfold uNeg at p
  split at p
  · cases r; exact ⟨_, rfl, Po.now p hr (.int _)⟩
  · exact p.elim
/-! ### order -/
def bOrd (f : Int → Int → Bool) (w1 w2 : Val) : M Val := fun h => match w1, w2 with
  | .int i, .int j => .ok (.bl (f i j)) h
  | _, _ => .bad
theorem lk_ord {K : PySem.W.Frag} {f : Int → Int → Bool} : Lk2 K (bOrd f) (rI0 fun i j => .bl (f i j)) := by
  intro W al B sg H h w1 w2 v1 v2 Q hr r1 r2 p
  unfold bOrd at p
  split at p
  · cases r1; cases r2; exact ⟨_, _, rfl, rfl, Po.now p hr (.bl _)⟩
  · exact p.elim
/-! ### is None -/
def bIs (neg : Bool) (w1 w2 : Val) : M Val := fun h => match w2 with
  | .non => match w1 with
    | .non => .ok (.bl (!neg)) h
    | _ => .ok (.bl neg) h
  | _ => .bad
theorem lk_is {K : PySem.W.Frag} : Lk2 K (bIs false) (fun x y H Q => y = .non ∧ Q (.bl (decide (x = .non))) H) := by
  intro W al B sg H h w1 w2 v1 v2 Q hr r1 r2 p
  unfold bIs at p
  split at p
  · cases r2
    refine ⟨rfl, ?_⟩
    cases r1 <;> exact Po.now p hr (.bl _)
  · exact p.elim
theorem lk_isnot {K : PySem.W.Frag} : Lk2 K (bIs true) (fun x y H Q => y = .non ∧ Q (.bl (!decide (x = .non))) H) := by
  intro W al B sg H h w1 w2 v1 v2 Q hr r1 r2 p
  unfold bIs at p
  split at p
  · cases r2
    refine ⟨rfl, ?_⟩
    cases r1 <;> exact Po.now p hr (.bl _)
  · exact p.elim
/-! ### in: flat things, or one text in another -/
def flat : Val → Bool
  | .non => true
  | .bl _ => true
  | .int _ => true
  | .str _ => true
  | _ => false
def eqF : Val → Val → Bool
  | .non, .non => true
  | .bl a, .bl b => a == b
  | .bl a, .int b => (if a then 1 else 0) == b
  | .int a, .bl b => a == (if b then 1 else 0)
  | .int a, .int b => a == b
  | .str a, .str b => a == b
  | _, _ => false
def bIn (neg : Bool) (w1 w2 : Val) : M Val := fun h => match w1, w2 with
  | .str x, .str y => if neg then .ok (.bl (!(!(Builtin.Str.occurrences y x 0 y.length 1).isEmpty))) h else .ok (.bl (!(Builtin.Str.occurrences y x 0 y.length 1).isEmpty)) h
  | w1, w2 => match items w2 h with
    | some xs => if flat w1 = true ∧ xs.all flat = true then .ok (.bl (if neg then !(xs.any fun y => eqF y w1) else xs.any fun y => eqF y w1)) h else .bad
    | none => .bad
theorem flat_rep {K : PySem.W.Frag} {al B : List Addr} {H : Hp} {w : Val} {v : V} (r : Rep K al B H w v) (f : flat w = true) : flatV v = true := by cases r <;> first | rfl | (revert f; intro f; cases f)
theorem flats_rep {K : PySem.W.Frag} {al B : List Addr} {H : Hp} : ∀ {xs : List Val} {vs : List V}, Reps K al B H xs vs → xs.all flat = true → vs.all flatV = true
  | _, _, .nil, _ => rfl
  | _, _, .cons a r, f => by
    rw [List.all_cons, Bool.and_eq_true] at f ⊢
    exact ⟨flat_rep a f.1, flats_rep r f.2⟩
theorem eqF_rep {K : PySem.W.Frag} {al B : List Addr} {H : Hp} {w1 w2 : Val} {v1 v2 : V} (r1 : Rep K al B H w1 v1) (r2 : Rep K al B H w2 v2) (f1 : flat w1 = true) (f2 : flat w2 = true) : eqV v1 v2 = eqF w1 w2 := by
  cases r1 <;> cases r2 <;> first | rfl | (revert f1; intro f1; cases f1; done) | (revert f2; intro f2; cases f2; done)
theorem any_rep {K : PySem.W.Frag} {al B : List Addr} {H : Hp} {w : Val} {v : V} (r : Rep K al B H w v) (f : flat w = true) : ∀ {xs : List Val} {vs : List V}, Reps K al B H xs vs → xs.all flat = true → inV v vs = xs.any fun y => eqF y w
  | _, _, .nil, _ => rfl
  | _, _, .cons a q, g => by
    rw [List.all_cons, Bool.and_eq_true] at g
    have := any_rep r f q g.2
    unfold inV at this ⊢
    rw [List.any_cons, List.any_cons, eqF_rep a r g.1 f, this]
theorem lk_in {K : PySem.W.Frag} (neg : Bool) : Lk2 K (bIn neg) (fun x y H Q => (∃ i j, x = .str i ∧ y = .str j ∧ Q (.bl (if neg then !(!(Builtin.Str.occurrences j i 0 j.length 1).isEmpty) else !(Builtin.Str.occurrences j i 0 j.length 1).isEmpty)) H) ∨ rIn K neg x y H Q) := by
  intro W al B sg H h w1 w2 v1 v2 Q hr r1 r2 p
  unfold bIn at p
  split at p
  · cases r1; cases r2
    refine .inl ⟨_, _, rfl, rfl, ?_⟩
    cases neg <;> exact Po.now p hr (.bl _)
  · cases e : items w2 h with
    | none => rw [e] at p; exact p.elim
    | some xs =>
      rw [e] at p
      dsimp only at p
      obtain ⟨a, vs, rfl, q, s⟩ := items_sq hr r2 e
      split at p
      · rename_i c
        refine .inr ⟨a, vs, rfl, q, flat_rep r1 c.1, flats_rep s c.2, ?_⟩
        rw [any_rep r1 c.1 s c.2]
        exact Po.now p hr (.bl _)
      · exact p.elim
theorem op_inZ {X : Cx} : OpR X (compareOp .In) (fun x y H Q => (∃ i j, x = .str i ∧ y = .str j ∧ Q (.bl (if false then !(!(Builtin.Str.occurrences j i 0 j.length 1).isEmpty) else !(Builtin.Str.occurrences j i 0 j.length 1).isEmpty)) H) ∨ rIn X.K false x y H Q) := OpR.or (r := fun x y H Q => ∃ i j, x = .str i ∧ y = .str j ∧ Q (.bl (!(Builtin.Str.occurrences j i 0 j.length 1).isEmpty)) H) op_in_str op_in_seq
theorem op_notInZ {X : Cx} : OpR X (compareOp .NotIn) (fun x y H Q => (∃ i j, x = .str i ∧ y = .str j ∧ Q (.bl (if true then !(!(Builtin.Str.occurrences j i 0 j.length 1).isEmpty) else !(Builtin.Str.occurrences j i 0 j.length 1).isEmpty)) H) ∨ rIn X.K true x y H Q) := OpR.or (r := fun x y H Q => ∃ i j, x = .str i ∧ y = .str j ∧ Q (.bl (!(!(Builtin.Str.occurrences j i 0 j.length 1).isEmpty))) H) op_notIn_str op_notIn_seq
/-! ### a[i] -/
def bIx (w1 w2 : Val) : M Val := fun h => match w1, w2 with
  | .str z, .int i => if z.length ≤ sizeLine then (match atI z.cps.toList i with
    | some c => .ok (.str ⟨#[c]⟩) h
    | none => .bad) else .bad
  | w1, .int i => match items w1 h with
    | some xs => match atI xs i with
      | some w => .ok w h
      | none => .bad
    | none => .bad
  | _, _ => .bad
theorem Reps.atI {K : PySem.W.Frag} {al B : List Addr} {H : Hp} {xs : List Val} {vs : List V} {i : Int} {w : Val} (r : Reps K al B H xs vs) (e : atI xs i = some w) : ∃ v, L2.atI vs i = some v ∧ Rep K al B H w v := by
  unfold L2.atI at e ⊢
  rw [← r.length]
  cases e2 : ixN xs.length i with
  | none => rw [e2] at e; cases e
  | some j =>
    rw [e2] at e
    exact r.get e
theorem lk_ix {K : PySem.W.Frag} : Lk2 K bIx (rIx K) := by
  intro W al B sg H h w1 w2 v1 v2 Q hr r1 r2 p
  unfold bIx at p
  split at p
  · cases r1; cases r2
    split at p
    · rename_i l
      split at p
      · rename_i e
        exact .inr (.inr ⟨_, _, _, rfl, rfl, l, e, Po.now p hr (.str _)⟩)
      · exact p.elim
    · exact p.elim
  · cases r2
    split at p
    · rename_i xs e
      split at p
      · rename_i w e2
        obtain ⟨a, vs, rfl, q, s⟩ := items_sq hr r1 e
        obtain ⟨v, e3, r3⟩ := s.atI e2
        rcases q with q | q
        · exact .inl ⟨_, _, _, _, rfl, rfl, q, e3, Po.now p hr r3⟩
        · exact .inr (.inl ⟨_, _, _, _, rfl, rfl, q, e3, Po.now p hr r3⟩)
      · exact p.elim
    · exact p.elim
  · exact p.elim
/-! ### a[i:j] -/
abbrev SO' := En → M (Option Int)
def tO (K : PySem.W.Frag) (W : WX) (m : SO') : TO := fun sg H Q => ∃ al B ro h, Sim K al B ro h sg H ∧ Po K B (fun _ _ a b => a = b) sg al H (m ro h) W Q
def oNone : SO' := fun _ => ret none
def oSome (m : SE) : SO' := fun ro => bind (m ro) fun w => match w with
  | .int i => ret (some i)
  | _ => fail
section
variable {X : Cx} {W : WX} {e a : Expr} {m : SE} {lo hi : Option Expr} {ml mh : SO'} {pos p2 : Pos}
theorem PO.weak {e : Option Expr} {t t' : TO} (h : PO X e t) (i : ∀ sg H Q, t' sg H Q → t sg H Q) : PO X e t' := ⟨fun pins s sg H Q I q => h.run pins s sg H Q I (i _ _ _ q)⟩
theorem oo_none : PO X none (tO X.K W oNone) := by
  refine PO.weak po_none ?_
  rintro sg H Q ⟨al, B, ro, h, S, p⟩
  exact Po.now p S.hr rfl
theorem oo_some (he : PE X e (tE X.K W m)) : PO X (some e) (tO X.K W (oSome m)) := by
  refine PO.weak (po_some he) ?_
  rintro sg H Q ⟨al, B, ro, h, S, p⟩
  refine ⟨al, B, ro, h, S, Po.mono (Po.bind p) fun v1 H1 ⟨al1, h1, w1, st1, hr1, r1, p1⟩ => ?_⟩
  cases r1 <;> first | exact p1.elim | exact ⟨_, rfl, Po.now p1 hr1 rfl⟩
def cutW {β : Type} (xs : List β) (lo hi : Option Int) : List β := (xs.drop (HT.sIx xs.length 0 lo)).take (HT.sIx xs.length xs.length hi - HT.sIx xs.length 0 lo)
def bSl (w : Val) (lo hi : Option Int) : M Val := fun h => match w with
  | .tup xs => .ok (.tup (cutW xs lo hi)) h
  | .str z => if z.length ≤ sizeLine then .ok (.str (cutS z lo hi)) h else .bad
  | w => match lsts w h with
    | some xs => .ok (.lst (cutW xs lo hi)) h
    | none => .bad
def sSl (m : SE) (ml mh : SO') : SE := fun ro => bind (m ro) fun w => bind (ml ro) fun l => bind (mh ro) fun u => bSl w l u
theorem Reps.cut {K : PySem.W.Frag} {al B : List Addr} {H : Hp} {xs : List Val} {vs : List V} {lo hi : Option Int} (r : Reps K al B H xs vs) : Reps K al B H (cutW xs lo hi) (cutV vs lo hi) := by
  unfold cutW cutV
  rw [← r.length]
  exact (r.drop _).take _
theorem cut_whole {β : Type} {xs : List β} {lo hi : Option Int} (h : HT.sIx xs.length 0 lo = 0 ∧ HT.sIx xs.length xs.length hi = xs.length) : cutW xs lo hi = xs := by
  unfold cutW
  rw [h.1, h.2]
  simp
theorem cutW_len {β : Type} {xs : List β} {lo hi : Option Int} {n : Nat} (h : xs.length ≤ n) : (cutW xs lo hi).length ≤ n := by
  unfold cutW
  rw [List.length_take, List.length_drop]
  omega
theorem oe_sl (ha : PE X a (tE X.K W m)) (hl : PO X lo (tO X.K W ml)) (hu : PO X hi (tO X.K W mh)) : PE X (.Subscript a (.Slice lo hi none p2) pos) (tE X.K W (sSl m ml mh)) := by
  refine PE.weak (pe_slice (SlR.or sl_tupF (SlR.or sl_str sl_list)) ha hl hu) ?_
  rintro sg H Q ⟨al, B, ro, h, S, p⟩
  refine ⟨al, B, ro, h, S, Po.mono (Po.bind p) fun v1 H1 ⟨al1, h1, w1, st1, hr1, r1, p1⟩ => ?_⟩
  refine ⟨al1, B, ro, h1, S.step st1 hr1, Po.mono (Po.bind p1) fun l H2 ⟨al2, h2, w2, st2, hr2, r2, p2⟩ => ?_⟩
  subst r2
  refine ⟨al2, B, ro, h2, (S.step st1 hr1).step st2 hr2, Po.mono (Po.bind p2) fun u H3 ⟨al3, h3, w3, st3, hr3, r3, p3⟩ => ?_⟩
  subst r3
  have r := (r1.step st2).step st3
  unfold bSl at p3
  split at p3
  · cases r with
    | tup a l s =>
      refine .inl ⟨_, _, rfl, sqT_of a, fun z => ?_, fun z q u hq hu => ?_⟩
      · refine Po.now p3 hr3 ?_
        rw [cut_whole (by rw [s.length]; exact z)]
        exact .tup a l s
      · exact p3 _ _ _ (Stp.lay hq) (hr3.lay hq) (.tup (.inl (AtT.lay hr3 hq hu)) (cutW_len l) (s.cut.step (Stp.lay hq)))
  · cases r
    split at p3
    · rename_i l
      exact .inr (.inl ⟨_, rfl, l, Po.now p3 hr3 (.str _)⟩)
    · exact p3.elim
  · split at p3
    · rename_i e
      obtain ⟨a, vs, rfl, q, l, s⟩ := lsts_at hr3 r e
      exact .inr (.inr ⟨a, vs, rfl, SqL.of q, fun q hq => p3 _ _ _ (Stp.lay hq) (hr3.lay hq) (.lst (At1.lay hr3 hq) (cutW_len l) (s.cut.step (Stp.lay hq)))⟩)
    · exact p3.elim
end
/-! ### displays -/
def fTup (ws : List Val) : M Val := fun h => if ws.length ≤ sizeLine then .ok (.tup ws) h else .bad
def fLst (ws : List Val) : M Val := fun h => if ws.length ≤ sizeLine then .ok (.lst ws) h else .bad
def fNew (ws : List Val) : M Val := fun h => if ws.length ≤ sizeLine then .ok (.ref h.length) (h ++ [.lst ws]) else .bad
section
variable {X : Cx} {W : WX} {es : List Expr} {r : En → M (List Val)} {pos : Pos}
theorem oe_tup {x1 : Nat} (ha : PA X es (tA X.K W r)) : PE X (.Tuple es x1 pos) (tE X.K W (sArgs fTup r)) := by
  refine PE.weak (pe_tupF ha) ?_
  rintro sg H Q ⟨al, B, ro, h, S, p⟩
  refine ⟨al, B, ro, h, S, Po.mono (Po.bind p) fun v1 H1 ⟨al1, h1, w1, st1, hr1, r1, p1⟩ => ?_⟩
  unfold fTup at p1
  split at p1
  · rename_i l
    exact ⟨by rw [← r1.length]; exact l, fun z u hz hu => p1 _ _ _ (Stp.lay hz) (hr1.lay hz) (.tup (.inl (AtT.lay hr1 hz hu)) l (r1.step (Stp.lay hz)))⟩
  · exact p1.elim
theorem oe_lst (ha : PA X es (tA X.K W r)) : PE X (.List es pos) (tE X.K W (sArgs fLst r)) := by
  refine PE.weak (pe_lst ha) ?_
  rintro sg H Q ⟨al, B, ro, h, S, p⟩
  refine ⟨al, B, ro, h, S, Po.mono (Po.bind p) fun v1 H1 ⟨al1, h1, w1, st1, hr1, r1, p1⟩ => ?_⟩
  unfold fLst at p1
  split at p1
  · rename_i l
    exact ⟨by rw [← r1.length]; exact l, fun z hz => p1 _ _ _ (Stp.lay hz) (hr1.lay hz) (.lst (At1.lay hr1 hz) l (r1.step (Stp.lay hz)))⟩
  · exact p1.elim
theorem ref_new {K : PySem.W.Frag} {al B : List Addr} {H : Hp} {h : HH} (x : HR K al B H h) {p : Addr} : Rep K (al ++ [p]) B H (.ref h.length) (.ref p) := .ref (by rw [← x.len, List.getElem?_concat_length])
theorem oe_new (ha : PA X es (tA X.K W r)) : PE X (.List es pos) (tE X.K W (sArgs fNew r)) := by
  refine PE.weak (pe_lst ha) ?_
  rintro sg H Q ⟨al, B, ro, h, S, p⟩
  refine ⟨al, B, ro, h, S, Po.mono (Po.bind p) fun v1 H1 ⟨al1, h1, w1, st1, hr1, r1, p1⟩ => ?_⟩
  unfold fNew at p1
  split at p1
  · rename_i l
    refine ⟨by rw [← r1.length]; exact l, fun z hz => p1 _ _ _ (Stp.new hz) (hr1.new hz (.lst upd_same l (r1.step (Stp.new hz)))) ?_⟩
    exact .ref (by rw [← hr1.len, List.getElem?_concat_length])
  · exact p1.elim
end
end Z
set_option Elab.async false
set_option maxRecDepth 100000
set_option linter.unusedVariables false
/-! ZE: enumerate(t) of a tuple. -/
namespace ZE
open PySem PySem.Spec PyProof.Rows
open AutoSeq1 (wpAny_loadPart')
abbrev tIt (l : Addr) : Obj := { cls := .type "tuple_iterator", data := .fields #[.ref l, .int 0 0] }
abbrev enO (it : Addr) : Obj := { cls := .type "enumerate", data := .fields #[.none, .bool false, .ref it, rawInt 0, .none, .none] }
theorem made (l : Addr) (items : Array Value) (n : Nat) (dd : Option Addr) (sl : Array (Option Value)) :
    Meets (Builtin.«enumerate.__new__» ⟨[.type "enumerate", .ref l], []⟩) (fun _ R s => s.heap.get? l = some { cls := .type "tuple", dict := dd, data := .seq items n, slots := sl } ∧
      R (.ok (.ret (.ref (s.heap.push (tIt l)).objs.size))) { s with heap := (s.heap.push (tIt l)).push (enO s.heap.objs.size) }) :=
  .of_wp fun prog w A R s h => by
    obtain ⟨hp, g, d, tk, os⟩ := s
    obtain ⟨hl, q⟩ := h
    have f := sub_enumerate
    have hT : Heap.IsTuple (Shared.heap ⟨hp, g, d, tk, os⟩) l items := ⟨_, hl, rfl, n, rfl⟩
    wp_walk using wpAny_loadPart' hl
    refine wpAny_stack_any fun st => wpAny_pure ?_
    split
    · rename_i c _ _ _ _ _
      cases (c == Value.type "enumerate") <;>
      · wp_walk using wpAny_loadPart' hl, wpAny_pyIter_tuple hT
        exact ⟨_, rfl, q⟩
    · wp_walk using wpAny_loadPart' hl, wpAny_pyIter_tuple hT
      exact ⟨_, rfl, q⟩
section
variable {prog : Program} {w : World} {A : Around} {E : Value → Shared → Prop} {s : Shared}
theorem call {l : Addr} {items : Array Value} {Q : Value → Shared → Prop} (ht : s.heap.IsTuple l items)
    (h : ∀ h', IsEnum h' (s.heap.objs.size + 1) s.heap.objs.size 0 .none → h'.IsTupleIter s.heap.objs.size l 0 → (∀ b o, s.heap.get? b = some o → h'.get? b = some o) → Q (.ref (s.heap.objs.size + 1)) { s with heap := h' }) :
    wpAny (model prog w) A (PySem.call (.type "enumerate") [.ref l]) Q E s := by
  obtain ⟨⟨c, dd, dt, sl⟩, ho, hc, n, hd⟩ := ht
  simp only at hc hd
  subst hc hd
  refine callType_new F.called_enumerate (by decide) (F.typeCall_enumerate_1 _) (F.newCall_enumerate_1 _) (fun obj => F.args_object_init_2 obj _) F.entry_enumerate_new (made l items n dd sl) ⟨ho, ?_⟩
  have z : (s.heap.push (tIt l)).objs.size = s.heap.objs.size + 1 := Heap.size_push ..
  show _ ∧ _
  rw [z]
  have he : IsEnum ((s.heap.push (tIt l)).push (enO s.heap.objs.size)) (s.heap.objs.size + 1) s.heap.objs.size 0 .none := by
    have q := Heap.get?_push_size (s.heap.push (tIt l)) (o := enO s.heap.objs.size) rfl
    rw [z] at q
    exact q
  exact ⟨⟨_, he, rfl⟩, h _ he ⟨_, Heap.get?_push_of_some _ (Heap.get?_push_size _ rfl), rfl, rfl⟩ fun b o x => Heap.get?_push_of_some _ (Heap.get?_push_of_some _ x)⟩
end
end ZE
namespace Z
open PySem PySem.Spec PyProof.Rows L2
/-- the tuple at a, each item in a new pair -/
def IteT (K : PySem.W.Frag) (a : Addr) : It :=
  ⟨fun i H => ∃ (xs : List V) (x : V), SqT K H a xs ∧ xs[i]? = some x, fun i H v H' => ∃ T u x, v = .ref T ∧ H T = none ∧ H' = upd H T u ∧ FT u [.int (i : Nat), x] ∧ ∀ xs, SqT K H a xs → xs[i]? = some x, fun i H => ∃ xs : List V, SqT K H a xs ∧ xs.length ≤ i⟩
theorem turn_enumT {P : Program} {w : World} {K : PySem.W.Frag} {elts : List Expr} {kk : Nat} {tpos : Pos} (a e it : Addr) (hai : a ≠ it) (hae : a ≠ e) :
    Turn P w K (.Tuple elts kk tpos) (IteT K a) [e, it] e (fun i h => (∃ old, IsEnum h e it ((i : Nat) : Int) old) ∧ h.IsTupleIter it a i ∧ e ≠ it) where
  mem := by simp
  obj := fun i h st b hb => by
    obtain ⟨⟨old, he⟩, ⟨o, ho, hc, hd⟩, _⟩ := st
    rcases List.mem_cons.mp hb with z | hb
    · rw [z]; exact ⟨_, he, fun v q => nomatch q⟩
    · rw [List.mem_singleton.mp hb]; exact ⟨o, ho, fun v q => by rw [hd] at q; cases q⟩
  keep := fun i h h' st k => by
    obtain ⟨⟨old, he⟩, hi, hne⟩ := st
    exact ⟨⟨old, k e (by simp) _ he⟩, hi.at fun o q => k it (by simp) o q, hne⟩
  item := by
    intro X hP hw hK hc i pins s σ H E I hf st hg
    subst hP hw hK
    obtain ⟨⟨old, he⟩, hit, hne⟩ := st
    obtain ⟨xs, x, hq, hx⟩ := hg
    obtain ⟨its, rv, p, hz⟩ := I.tuple hq
    have pt : s.heap.IsTuple a its.toArray := p
    obtain ⟨u, hu, ru⟩ := rv.get hx
    have hel : e < s.heap.objs.size := Heap.lt_size he
    have hil : it < s.heap.objs.size := by obtain ⟨_, q, _⟩ := hit; exact Heap.lt_size q
    have lt : i < its.toArray.size := by
      have := (List.getElem?_eq_some_iff.mp hu).1
      simpa using this
    refine PySem.wpAny_pyNext_enum_itemD (PySem.Draws.tuple (A := X.A.in1) (I.ok.hd hc) it a hai its.toArray) he ⟨hit, pt⟩ lt hne (by simp; exact ⟨hne, fun z => hae z.symm⟩) fun y h' tk hy ho hit' hT hsz hk => ?_
    have ey : y = u := by
      have : its.toArray[i]? = some u := by simpa using hu
      rw [this] at hy
      exact (Option.some.inj hy).symm
    subst ey
    refine ⟨_, rfl, wpAny_letOwnedTupleGo_enum (s := { s with heap := h', toks := tk + 1 }) ho fun h'' he' sb => ?_⟩
    have hT2 : h''.get? s.heap.objs.size = some { cls := .type "tuple", data := .seq #[.int i tk, y] } := (sb.2 _ (Nat.ne_of_gt hel)).trans hT
    have new : ObjOk X.prog X.w (upd H s.heap.objs.size (.frz (newT #[.int i tk, y]) (.tup [.int (i : Nat), x]))) h'' s.heap.objs.size (.frz (newT #[.int i tk, y]) (.tup [.int (i : Nat), x])) :=
      ⟨hT2, by show 2 ≤ sizeLine; decide, [.int i tk, y], .cons ⟨_, rfl⟩ (.cons ru .nil), ⟨_, hT2, rfl, _, rfl⟩⟩
    have I1 : Inv X pins σ (upd H s.heap.objs.size (.frz (newT #[.int i tk, y]) (.tup [.int (i : Nat), x]))) { s with heap := h'', toks := tk + 1 } :=
      I.turnedNew (ch := [e, it]) (fun b ob hb q => (sb.2 b (fun z => hb (by simp [z]))).trans (hk b ob (fun z => hb (by simp [z])) (fun z => hb (by simp [z])) q)) hf (Nat.le_refl _) new
    refine ⟨.ref s.heap.objs.size, _, I1, rfl, ⟨_, _, x, rfl, I.hok.fresh (Nat.le_refl _), rfl, ⟨_, rfl, rfl, rfl⟩, fun ys hy => by rw [I.tuple_inj hy hq]; exact hx⟩, ⟨⟨y, ?_⟩, hit'.1.at fun o q => (sb.2 it (Ne.symm hne)).trans q, hne⟩, fun b hb => ?_⟩
    · have e1 : ((i + 1 : Nat) : Int) = (i : Int) + 1 := by omega
      rw [e1]; exact he'
    · have hb' : b < s.heap.objs.size := by
        rcases List.mem_cons.mp hb with z | hb
        · rw [z]; exact hel
        · rw [List.mem_singleton.mp hb]; exact hil
      rw [upd_ne (Nat.ne_of_lt hb')]
      exact (hf b hb).1
  done := by
    intro X hP hw hK hc i pins s σ H E I hf st hg
    subst hP hw hK
    obtain ⟨⟨old, he⟩, hit, hne⟩ := st
    obtain ⟨xs, hq, hx⟩ := hg
    obtain ⟨its, rv, p, hz⟩ := I.tuple hq
    have pt : s.heap.IsTuple a its.toArray := p
    obtain ⟨f0, f1, f2, f3, f4, f5⟩ := hf it (by simp)
    have hl := rv.length
    have hnone : its.toArray[i]? = none := by simp; omega
    have hT : s.TypeIs (.ref e) "enumerate" := ⟨_, he, rfl⟩
    unfold pyNext
    refine wpAny_bind (wpAny_attempt (wpAny_callSpecial?_slot (name := Str.ofString "__next__") hT F.slot_enumerate_next
      (wpAny_call_entry F.slot_enumerate_next hT F.entry_enumerate_next ?_ (F.args_enumerate_next_1 _))))
    refine wpAny_bind (m := field (.ref e) 2) (wpAny_field he rfl (x := .ref it) rfl ?_)
    refine wpAny_bind (wpAny_nextOf_tuple_end (I.ok.hd hc) hit pt hnone fun h' z he' hx' => ?_)
    obtain ⟨o, ho, hcc⟩ := hx'
    refine wpAny_bind (wpAny_isInstance (T := "StopIteration") (b := true) ⟨o, ho, hcc⟩ isSubtype_stop ?_)
    exact wpAny_pure ⟨rfl, I.turned (t' := s.toks) (fun b o hb q => he' b o hb q) f0 f1 f3 f4 f5⟩
  self := fun A i s Q E st h => by
    obtain ⟨⟨_, he⟩, _⟩ := st
    exact wpAny_pyIter_enum he h
def iEnumT (K : PySem.W.Frag) (ta : TA) : TI := fun σ H R => ta σ H fun vs H1 => ∃ a xs, vs = [.ref a] ∧ SqT K H1 a xs ∧ R (IteT K a) H1
theorem pi_enumT {X : Cx} {e : Expr} {ta : TA} {p pos tpos : Pos} {elts : List Expr} {kk : Nat} (hg : Gl X "enumerate") (hm : X.mg "enumerate" = none) (ha : PA X [e] ta) (hs : starEach [e] X.env = [(false, eval e X.env)] := by rfl) :
    PI X (.Tuple elts kk tpos) (.Call (.Name "enumerate" p) [e] [] pos) (iEnumT X.K ta) := by
  refine ⟨fun pins s σ H R I h => ?_⟩
  refine Call_ (ld_blt I hg hm boot_enumerate (PyProof.Rows.callWith_type1 (thn (ha.run pos pins s σ H _ I h) fun us s1 ⟨vs, H1, I1, r1, q1⟩ => ?_) hs rfl))
  obtain ⟨a, xs, ex, hq, q⟩ := q1
  subst ex
  cases r1 with
  | cons r rr =>
    cases rr
    cases r
    obtain ⟨its, rv, p', hz⟩ := I1.tuple hq
    have pt : s1.heap.IsTuple a its.toArray := p'
    have al : a < s1.heap.objs.size := by obtain ⟨_, q, _⟩ := pt; exact Heap.lt_size q
    refine ZE.call pt fun h' he hit hk => wpAny_pyIter_enum he ?_
    have I2 : Inv X pins σ H1 { s1 with heap := h' } := I1.kept (t' := s1.toks) hk
    refine ⟨s1.heap.objs.size + 1, [s1.heap.objs.size + 1, s1.heap.objs.size], _, _, H1, rfl, I2, turn_enumT a (s1.heap.objs.size + 1) s1.heap.objs.size (Nat.ne_of_lt al) (Nat.ne_of_lt (Nat.lt_succ_of_lt al)), ⟨⟨.none, he⟩, hit, Nat.succ_ne_self _⟩, fun b hb => ?_, q⟩
    have hle : s1.heap.objs.size ≤ b := by
      rcases List.mem_cons.mp hb with z | hb
      · rw [z]; exact Nat.le_add_right _ _
      · rw [List.mem_singleton.mp hb]; exact Nat.le_refl _
    exact I1.fpOk hle (I1.hok.fresh hle)
/-- the list at a, each item in a new pair -/
def IteL (K : PySem.W.Frag) (a : Addr) : It :=
  ⟨fun i H => ∃ (xs : List V) (x : V), SqL K H a xs ∧ xs[i]? = some x, fun i H v H' => ∃ T u x, v = .ref T ∧ H T = none ∧ H' = upd H T u ∧ FT u [.int (i : Nat), x] ∧ ∀ xs, SqL K H a xs → xs[i]? = some x, fun i H => ∃ xs : List V, SqL K H a xs ∧ xs.length ≤ i⟩
theorem turn_enumL {P : Program} {w : World} {K : PySem.W.Frag} {elts : List Expr} {kk : Nat} {tpos : Pos} (a e it : Addr) (hai : a ≠ it) (hae : a ≠ e) :
    Turn P w K (.Tuple elts kk tpos) (IteL K a) [e, it] e (fun i h => (∃ old, IsEnum h e it ((i : Nat) : Int) old) ∧ h.IsListIter it a i ∧ e ≠ it) where
  mem := by simp
  obj := fun i h st b hb => by
    obtain ⟨⟨old, he⟩, ⟨o, ho, hc, hd⟩, _⟩ := st
    rcases List.mem_cons.mp hb with z | hb
    · rw [z]; exact ⟨_, he, fun v q => nomatch q⟩
    · rw [List.mem_singleton.mp hb]; exact ⟨o, ho, fun v q => by rw [hd] at q; cases q⟩
  keep := fun i h h' st k => by
    obtain ⟨⟨old, he⟩, hi, hne⟩ := st
    exact ⟨⟨old, k e (by simp) _ he⟩, hi.at fun o q => k it (by simp) o q, hne⟩
  item := by
    intro X hP hw hK hc i pins s σ H E I hf st hg
    subst hP hw hK
    obtain ⟨⟨old, he⟩, hit, hne⟩ := st
    obtain ⟨xs, x, hq, hx⟩ := hg
    obtain ⟨its, rv, p, hz⟩ := I.list hq
    have pt : s.heap.IsList a its.toArray := p.isList
    obtain ⟨u, hu, ru⟩ := rv.get hx
    have hel : e < s.heap.objs.size := Heap.lt_size he
    have hil : it < s.heap.objs.size := by obtain ⟨_, q, _⟩ := hit; exact Heap.lt_size q
    have lt : i < its.toArray.size := by
      have := (List.getElem?_eq_some_iff.mp hu).1
      simpa using this
    refine PySem.wpAny_pyNext_enum_itemD (PySem.Draws.list (A := X.A.in1) (I.ok.hd hc) it a hai its.toArray) he ⟨hit, pt⟩ lt hne (by simp; exact ⟨hne, fun z => hae z.symm⟩) fun y h' tk hy ho hit' hT hsz hk => ?_
    have ey : y = u := by
      have : its.toArray[i]? = some u := by simpa using hu
      rw [this] at hy
      exact (Option.some.inj hy).symm
    subst ey
    refine ⟨_, rfl, wpAny_letOwnedTupleGo_enum (s := { s with heap := h', toks := tk + 1 }) ho fun h'' he' sb => ?_⟩
    have hT2 : h''.get? s.heap.objs.size = some { cls := .type "tuple", data := .seq #[.int i tk, y] } := (sb.2 _ (Nat.ne_of_gt hel)).trans hT
    have new : ObjOk X.prog X.w (upd H s.heap.objs.size (.frz (newT #[.int i tk, y]) (.tup [.int (i : Nat), x]))) h'' s.heap.objs.size (.frz (newT #[.int i tk, y]) (.tup [.int (i : Nat), x])) :=
      ⟨hT2, by show 2 ≤ sizeLine; decide, [.int i tk, y], .cons ⟨_, rfl⟩ (.cons ru .nil), ⟨_, hT2, rfl, _, rfl⟩⟩
    have I1 : Inv X pins σ (upd H s.heap.objs.size (.frz (newT #[.int i tk, y]) (.tup [.int (i : Nat), x]))) { s with heap := h'', toks := tk + 1 } :=
      I.turnedNew (ch := [e, it]) (fun b ob hb q => (sb.2 b (fun z => hb (by simp [z]))).trans (hk b ob (fun z => hb (by simp [z])) (fun z => hb (by simp [z])) q)) hf (Nat.le_refl _) new
    refine ⟨.ref s.heap.objs.size, _, I1, rfl, ⟨_, _, x, rfl, I.hok.fresh (Nat.le_refl _), rfl, ⟨_, rfl, rfl, rfl⟩, fun ys hy => by rw [I.list_inj hy hq]; exact hx⟩, ⟨⟨y, ?_⟩, hit'.1.at fun o q => (sb.2 it (Ne.symm hne)).trans q, hne⟩, fun b hb => ?_⟩
    · have e1 : ((i + 1 : Nat) : Int) = (i : Int) + 1 := by omega
      rw [e1]; exact he'
    · have hb' : b < s.heap.objs.size := by
        rcases List.mem_cons.mp hb with z | hb
        · rw [z]; exact hel
        · rw [List.mem_singleton.mp hb]; exact hil
      rw [upd_ne (Nat.ne_of_lt hb')]
      exact (hf b hb).1
  done := by
    intro X hP hw hK hc i pins s σ H E I hf st hg
    subst hP hw hK
    obtain ⟨⟨old, he⟩, hit, hne⟩ := st
    obtain ⟨xs, hq, hx⟩ := hg
    obtain ⟨its, rv, p, hz⟩ := I.list hq
    have pt : s.heap.IsList a its.toArray := p.isList
    obtain ⟨f0, f1, f2, f3, f4, f5⟩ := hf it (by simp)
    have hl := rv.length
    have hnone : its.toArray[i]? = none := by simp; omega
    have hT : s.TypeIs (.ref e) "enumerate" := ⟨_, he, rfl⟩
    unfold pyNext
    refine wpAny_bind (wpAny_attempt (wpAny_callSpecial?_slot (name := Str.ofString "__next__") hT F.slot_enumerate_next
      (wpAny_call_entry F.slot_enumerate_next hT F.entry_enumerate_next ?_ (F.args_enumerate_next_1 _))))
    refine wpAny_bind (m := field (.ref e) 2) (wpAny_field he rfl (x := .ref it) rfl ?_)
    refine wpAny_bind (wpAny_nextOf_list_end (I.ok.hd hc) hit pt hnone fun h' z he' hx' => ?_)
    obtain ⟨o, ho, hcc⟩ := hx'
    refine wpAny_bind (wpAny_isInstance (T := "StopIteration") (b := true) ⟨o, ho, hcc⟩ isSubtype_stop ?_)
    exact wpAny_pure ⟨rfl, I.turned (t' := s.toks) (fun b o hb q => he' b o hb q) f0 f1 f3 f4 f5⟩
  self := fun A i s Q E st h => by
    obtain ⟨⟨_, he⟩, _⟩ := st
    exact wpAny_pyIter_enum he h
def iEnumL (K : PySem.W.Frag) (ta : TA) : TI := fun σ H R => ta σ H fun vs H1 => ∃ a xs, vs = [.ref a] ∧ SqL K H1 a xs ∧ R (IteL K a) H1
theorem pi_enumL {X : Cx} {e : Expr} {ta : TA} {p pos tpos : Pos} {elts : List Expr} {kk : Nat} (hg : Gl X "enumerate") (hm : X.mg "enumerate" = none) (ha : PA X [e] ta) (hs : starEach [e] X.env = [(false, eval e X.env)] := by rfl) :
    PI X (.Tuple elts kk tpos) (.Call (.Name "enumerate" p) [e] [] pos) (iEnumL X.K ta) := by
  refine ⟨fun pins s σ H R I h => ?_⟩
  refine Call_ (ld_blt I hg hm boot_enumerate (PyProof.Rows.callWith_type1 (thn (ha.run pos pins s σ H _ I h) fun us s1 ⟨vs, H1, I1, r1, q1⟩ => ?_) hs rfl))
  obtain ⟨a, xs, ex, hq, q⟩ := q1
  subst ex
  cases r1 with
  | cons r rr =>
    cases rr
    cases r
    obtain ⟨its, rv, p', hz⟩ := I1.list hq
    have pt : s1.heap.IsList a its.toArray := p'.isList
    have al : a < s1.heap.objs.size := by obtain ⟨_, q, _⟩ := pt; exact Heap.lt_size q
    refine call_enumerate_list pt fun h' he hit hsz hk => wpAny_pyIter_enum he ?_
    have I2 : Inv X pins σ H1 { s1 with heap := h' } := I1.kept (t' := s1.toks) hk
    refine ⟨s1.heap.objs.size + 1, [s1.heap.objs.size + 1, s1.heap.objs.size], _, _, H1, rfl, I2, turn_enumL a (s1.heap.objs.size + 1) s1.heap.objs.size (Nat.ne_of_lt al) (Nat.ne_of_lt (Nat.lt_succ_of_lt al)), ⟨⟨.none, he⟩, hit, Nat.succ_ne_self _⟩, fun b hb => ?_, q⟩
    have hle : s1.heap.objs.size ≤ b := by
      rcases List.mem_cons.mp hb with z | hb
      · rw [z]; exact Nat.le_add_right _ _
      · rw [List.mem_singleton.mp hb]; exact Nat.le_refl _
    exact I1.fpOk hle (I1.hok.fresh hle)
end Z
set_option Elab.async false
set_option maxRecDepth 100000
set_option linter.unusedVariables false
/-! Z6: what loops walk. -/
namespace Z
open PySem PySem.Spec PyProof.Rows L2
section
variable {X : Cx} {tg e : Expr}
theorem PI.weak {t t' : TI} (h : PI X tg e t) (i : ∀ sg H R, t' sg H R → t sg H R) : PI X tg e t' := ⟨fun pins s sg H R I q => h.run pins s sg H R I (i _ _ _ q)⟩
theorem PI.or {t t' : TI} (h : PI X tg e t) (h' : PI X tg e t') : PI X tg e (fun sg H R => t sg H R ∨ t' sg H R) := ⟨fun pins s sg H R I q => q.elim (h.run pins s sg H R I) (h'.run pins s sg H R I)⟩
end
def signs (x : Str) : List Val := x.cps.toList.map fun c => .str ⟨#[c]⟩
def itmV (w : Val) : M (Itm × Nat) := fun h => match w with
  | .tup xs => .ok (.st xs, xs.length) h
  | .lst xs => .ok (.st xs, xs.length) h
  | .scr ns => .ok (.st (ns.map Val.int), ns.length) h
  | .str x => if x.length ≤ sizeLine then .ok (.st (signs x), x.length) h else .bad
  | .ref n => match h[n]? with
    | some (.lst xs) => .ok (.dyn n, xs.length) h
    | _ => .bad
  | _ => .bad
def iVal (m : SE) : SI := fun ro => bind (m ro) itmV
section
variable {K : PySem.W.Frag} {al B : List Addr} {H : Hp}
theorem itR_seq {J : It} {xs : List Val} {vs : List V} (r : Reps K al B H xs vs)
    (hJ : ∀ al' H', StpB B al H al' H' → (∀ i, vs.length ≤ i → J.stop i H') ∧ ∀ i v, vs[i]? = some v → J.go i H' ∧ ∀ y H'', J.yld i H' y H'' → H'' = H' ∧ y = v) : ItR K B J (.st xs) al H := by
  intro al' B' H' h' st hB hr i
  obtain ⟨j1, j2⟩ := hJ al' H' st
  refine ⟨fun e => j1 i ?_, fun w e => ?_⟩
  · rw [← r.length]
    have e : some xs[i]? = some none := e
    exact List.getElem?_eq_none_iff.mp (Option.some.inj e)
  · have e : some xs[i]? = some (some w) := e
    obtain ⟨v, e1, rv⟩ := r.get (Option.some.inj e)
    obtain ⟨g1, g2⟩ := j2 i v e1
    refine ⟨g1, fun y H'' yy => ?_⟩
    obtain ⟨rfl, rfl⟩ := g2 y H'' yy
    exact ⟨Stp.refl _ _, hr, rv.stepB st hB⟩
theorem sqL_one {K : PySem.W.Frag} {H : Hp} {a : Addr} {o : Obj} {xs ys : List V} (h1 : H a = some (.lst xs)) (h2 : SqL K H a ys) : True := trivial
theorem itR_lst {a : Addr} {xs : List Val} {vs : List V} (h : ∀ al' H', StpB B al H al' H' → SqL K H' a vs ∧ ∀ ys, SqL K H' a ys → ys = vs) (r : Reps K al B H xs vs) : ItR K B (Itl K a) (.st xs) al H := by
  refine itR_seq r fun al' H' st => ?_
  obtain ⟨q, u⟩ := h al' H' st
  exact ⟨fun i l => ⟨vs, q, l⟩, fun i v e => ⟨⟨vs, v, q, e⟩, fun y H'' ⟨e1, e2⟩ => ⟨e1, by have := e2 vs q; rw [e] at this; exact (Option.some.inj this).symm⟩⟩⟩
theorem itR_tup {a : Addr} {xs : List Val} {vs : List V} (h : ∀ al' H', StpB B al H al' H' → SqT K H' a vs) (r : Reps K al B H xs vs) : ItR K B (Itt K a) (.st xs) al H := by
  refine itR_seq r fun al' H' st => ?_
  have q := h al' H' st
  exact ⟨fun i l => ⟨vs, q, l⟩, fun i v e => ⟨⟨vs, v, q, e⟩, fun y H'' ⟨e1, e2⟩ => ⟨e1, by have := e2 vs q; rw [e] at this; exact (Option.some.inj this).symm⟩⟩⟩
theorem itR_lst' {a : Addr} {xs : List Val} {vs : List V} (h : ∀ al' H', StpB B al H al' H' → SqL K H' a vs) (r : Reps K al B H xs vs) : ItR K B (Itl K a) (.st xs) al H := by
  refine itR_seq r fun al' H' st => ?_
  have q := h al' H' st
  exact ⟨fun i l => ⟨vs, q, l⟩, fun i v e => ⟨⟨vs, v, q, e⟩, fun y H'' ⟨e1, e2⟩ => ⟨e1, by have := e2 vs q; rw [e] at this; exact (Option.some.inj this).symm⟩⟩⟩
theorem Reps.signs : ∀ cs : List Nat, Reps K al B H (cs.map fun c => Val.str ⟨#[c]⟩) (cs.map fun c => V.str ⟨#[c]⟩)
  | [] => .nil
  | c :: cs => .cons (.str _) (Reps.signs cs)
theorem itR_str {x : Str} : ItR K B (Its x) (.st (signs x)) al H := by
  refine itR_seq (Reps.signs x.cps.toList) fun al' H' st => ⟨fun i l => ?_, fun i v e => ?_⟩
  · show x.cps.size ≤ i
    rw [List.length_map, Array.length_toList] at l
    exact l
  · rw [List.getElem?_map] at e
    obtain ⟨c, hc, rfl⟩ := Option.map_eq_some_iff.mp e
    rw [Array.getElem?_toList] at hc
    refine ⟨?_, fun y H'' ⟨e1, d, hd, e2⟩ => ⟨e1, ?_⟩⟩
    · show i < x.cps.size
      exact (Array.getElem?_eq_some_iff.mp hc).1
    · rw [hc] at hd
      cases hd
      exact e2
theorem itR_dyn {n : Nat} {a : Addr} (e : al[n]? = some a) : ItR K B (Itl K a) (.dyn n) al H := by
  intro al' B' H' h' st hB hr i
  have e' := st.get e
  unfold nxt
  dsimp only
  cases e2 : h'[n]? with
  | none => exact ⟨fun z => by simp at z, fun w z => by simp at z⟩
  | some o =>
    cases o with
    | lst xs =>
      cases hr.ob _ _ _ e' e2 with
      | @lst _ _ vs q _ s =>
      refine ⟨fun z => ⟨vs, SqL.of q, ?_⟩, fun w z => ?_⟩
      · rw [← s.length]
        exact List.getElem?_eq_none_iff.mp (Option.some.inj z)
      · obtain ⟨v, e1, rv⟩ := s.get (Option.some.inj z)
        refine ⟨⟨vs, v, SqL.of q, e1⟩, fun y H'' ⟨z1, z2⟩ => ?_⟩
        subst z1
        have := z2 vs (SqL.of q)
        rw [e1] at this
        cases this
        exact ⟨Stp.refl _ _, hr, rv⟩
    | dic _ => exact ⟨fun z => by simp at z, fun w z => by simp at z⟩
    | ins _ _ => exact ⟨fun z => by simp at z, fun w z => by simp at z⟩
def nums (lo : Int) (n : Nat) : List Val := (List.range n).map fun (k : Nat) => .int (lo + k)
def numsDn (lo : Int) (n : Nat) : List Val := (List.range n).map fun (k : Nat) => .int (lo + (k : Nat) * (-1))
theorem Reps.map {γ : Type} {f : γ → Val} {g : γ → V} (h : ∀ c, Rep K al B H (f c) (g c)) : ∀ cs : List γ, Reps K al B H (cs.map f) (cs.map g)
  | [] => .nil
  | c :: cs => .cons (h c) (Reps.map h cs)
theorem itR_rng {lo : Int} {n : Nat} : ItR K B (Itr lo n) (.st (nums lo n)) al H := by
  refine itR_seq (Reps.map (g := fun (k : Nat) => V.int (lo + k)) (fun c => .int _) (List.range n)) fun al' H' st => ⟨fun i l => ?_, fun i v e => ?_⟩
  · show n ≤ i
    simpa using l
  · rw [List.getElem?_map] at e
    obtain ⟨c, hc, rfl⟩ := Option.map_eq_some_iff.mp e
    obtain ⟨l, rfl⟩ := List.getElem?_eq_some_iff.mp hc
    simp at l
    refine ⟨l, fun y H'' ⟨e1, e2⟩ => ⟨e1, ?_⟩⟩
    rw [e2]; simp
theorem itR_dn {lo : Int} {n : Nat} : ItR K B (Itc lo (-1) n) (.st (numsDn lo n)) al H := by
  refine itR_seq (Reps.map (g := fun (k : Nat) => V.int (lo + (k : Nat) * (-1))) (fun c => .int _) (List.range n)) fun al' H' st => ⟨fun i l => ?_, fun i v e => ?_⟩
  · show n ≤ i
    simpa using l
  · rw [List.getElem?_map] at e
    obtain ⟨c, hc, rfl⟩ := Option.map_eq_some_iff.mp e
    obtain ⟨l, rfl⟩ := List.getElem?_eq_some_iff.mp hc
    simp at l
    refine ⟨l, fun y H'' ⟨e1, e2⟩ => ⟨e1, ?_⟩⟩
    rw [e2]; simp
end
section
variable {X : Cx} {W : WX} {tg e : Expr} {m : SE}
theorem oi_val (he : PE X e (tE X.K W m)) : PI X tg e (tI X.K W (iVal m)) := by
  refine PI.weak (PI.or (pi_list he) (PI.or (pi_tup he) (pi_str he))) ?_
  rintro sg H R ⟨al, B, ro, h, S, p⟩
  unfold iVal at p
  change Po _ _ _ _ _ _ (obind (m ro h) itmV) _ _ at p
  cases e1 : m ro h with
  | bad => rw [e1] at p; exact p.elim
  | ex ee h1 => rw [e1] at p; exact .inl ⟨al, B, ro, h, S, by rw [e1]; exact p⟩
  | ok w h1 =>
    rw [e1, obind_ok] at p
    cases w with
    | tup xs =>
      refine .inr (.inl ⟨al, B, ro, h, S, ?_⟩)
      rw [e1]
      intro al' H' v st hr r
      cases r with
      | @tup a _ vs at' l s => exact ⟨a, rfl, ⟨vs, sqT_of at'⟩, p al' H' _ st hr ⟨itR_tup (fun al2 H2 st2 => sqT_of (B := B) (at'.imp (AtT.stepB st2 fun _ hb => .inl hb) id)) s, l⟩⟩
    | lst xs =>
      refine .inl ⟨al, B, ro, h, S, ?_⟩
      rw [e1]
      intro al' H' v st hr r
      cases r with
      | @lst a _ vs at' l s => exact ⟨a, rfl, ⟨vs, SqL.of at'.1⟩, p al' H' _ st hr ⟨itR_lst' (fun al2 H2 st2 => SqL.of (at'.stepW st2).1) s, l⟩⟩
    | exn => exact p.elim
    | scr ns =>
      refine .inl ⟨al, B, ro, h, S, ?_⟩
      rw [e1]
      intro al' H' v st hr r
      cases r with
      | @scr a _ at' l => exact ⟨a, rfl, ⟨_, sqL_of at'⟩, p al' H' _ st hr ⟨itR_lst' (fun al2 H2 st2 => sqL_of (B := B) (at'.imp (At.stepB st2 fun _ hb => .inl hb) id)) (Reps.ints ns), l⟩⟩
    | str x =>
      refine .inr (.inr ⟨al, B, ro, h, S, ?_⟩)
      rw [e1]
      intro al' H' v st hr r
      cases r
      unfold itmV at p
      dsimp only at p
      split at p
      · rename_i l
        exact ⟨x, rfl, p al' H' _ st hr ⟨itR_str, l⟩⟩
      · exact p.elim
    | ref n =>
      refine .inl ⟨al, B, ro, h, S, ?_⟩
      rw [e1]
      intro al' H' v st hr r
      cases r with
      | @ref _ a q =>
        unfold itmV at p
        dsimp only at p
        split at p
        · rename_i xs e2
          cases hr.ob _ _ _ q e2 with
          | lst q2 l s => exact ⟨a, rfl, ⟨_, SqL.of q2⟩, p al' H' _ st hr ⟨itR_dyn q, l⟩⟩
        · exact p.elim
    | non => exact p.elim
    | bl => exact p.elim
    | int => exact p.elim
    | glo => exact p.elim
    | ty => exact p.elim
/-! ### range -/
def okR (i : Int) : Bool := decide (-(2 ^ 62) ≤ i ∧ i < 2 ^ 62)
def fRg (ws : List Val) : M (Itm × Nat) := fun h => match ws with
  | [.int j] => if okR j = true ∧ j.toNat ≤ sizeLine then .ok (.st (nums 0 j.toNat), j.toNat) h else .bad
  | [.int i, .int j] => if okR i = true ∧ okR j = true ∧ (j - i).toNat ≤ sizeLine then .ok (.st (nums i (j - i).toNat), (j - i).toNat) h else .bad
  | [.int i, .int j, .int c] => if okR i = true ∧ okR j = true ∧ c = -1 ∧ (i - j).toNat ≤ sizeLine then .ok (.st (numsDn i (i - j).toNat), (i - j).toNat) h else .bad
  | _ => .bad
def iRg (r : En → M (List Val)) : SI := fun ro => bind (r ro) fRg
theorem Reps.one {K : PySem.W.Frag} {al B : List Addr} {H : Hp} {w : Val} {vs : List V} (r : Reps K al B H [w] vs) : ∃ v, vs = [v] ∧ Rep K al B H w v := by
  cases r with
  | cons a r => cases r; exact ⟨_, rfl, a⟩
theorem Reps.two {K : PySem.W.Frag} {al B : List Addr} {H : Hp} {w w2 : Val} {vs : List V} (r : Reps K al B H [w, w2] vs) : ∃ v v2, vs = [v, v2] ∧ Rep K al B H w v ∧ Rep K al B H w2 v2 := by
  cases r with
  | cons a r => obtain ⟨v, rfl, q⟩ := r.one; exact ⟨_, _, rfl, a, q⟩
theorem Reps.three {K : PySem.W.Frag} {al B : List Addr} {H : Hp} {w w2 w3 : Val} {vs : List V} (r : Reps K al B H [w, w2, w3] vs) : ∃ v v2 v3, vs = [v, v2, v3] ∧ Rep K al B H w v ∧ Rep K al B H w2 v2 ∧ Rep K al B H w3 v3 := by
  cases r with
  | cons a r => obtain ⟨v, v2, rfl, q⟩ := r.two; exact ⟨_, _, _, rfl, a, q⟩
theorem okR_of {i : Int} (h : okR i = true) : -(2 ^ 62) ≤ i ∧ i < 2 ^ 62 := by
  unfold okR at h
  exact of_decide_eq_true h
/-- one value of what is walked, told from the arguments -/
theorem tI_args {sg : L2.St} {H : Hp} {R : It → Hp → Prop} {r : En → M (List Val)} {f : List Val → M (Itm × Nat)} {t : List V → Hp → (It → Hp → Prop) → Prop} (p : tI X.K W (fun ro => bind (r ro) f) sg H R)
    (lk : ∀ al B H h ws vs, HR X.K al B H h → Reps X.K al B H ws vs → Po X.K B (fun al H (x : Itm × Nat) J => ItR X.K B J x.1 al H ∧ x.2 ≤ sizeLine) sg al H (f ws h) W R → t vs H R) : tA X.K W r sg H (fun vs H1 => t vs H1 R) := by
  obtain ⟨al, B, ro, h, S, p⟩ := p
  exact ⟨al, B, ro, h, S, Po.mono (Po.bind p) fun v1 H1 ⟨al1, h1, w1, st1, hr1, r1, p1⟩ => lk al1 B H1 h1 w1 v1 hr1 r1 p1⟩
theorem lk_rg1 {sg : L2.St} {R : It → Hp → Prop} : ∀ al B H h ws vs, HR X.K al B H h → Reps X.K al B H ws vs → ws.length = 1 → Po X.K B (fun al H (x : Itm × Nat) J => ItR X.K B J x.1 al H ∧ x.2 ≤ sizeLine) sg al H (fRg ws h) W R →
    ∃ j : Int, vs = [.int j] ∧ -(2 ^ 62) ≤ j ∧ j < 2 ^ 62 ∧ R (Itr 0 j.toNat) H := by
  intro al B H h ws vs hr r l p
  unfold fRg at p
  split at p
  · obtain ⟨v, rfl, q⟩ := r.one
    cases q
    split at p
    · rename_i c
      exact ⟨_, rfl, (okR_of c.1).1, (okR_of c.1).2, Po.now p hr ⟨itR_rng, c.2⟩⟩
    · exact p.elim
  · simp at l
  · simp at l
  · exact p.elim
theorem lk_rg2 {sg : L2.St} {R : It → Hp → Prop} : ∀ al B H h ws vs, HR X.K al B H h → Reps X.K al B H ws vs → ws.length = 2 → Po X.K B (fun al H (x : Itm × Nat) J => ItR X.K B J x.1 al H ∧ x.2 ≤ sizeLine) sg al H (fRg ws h) W R →
    ∃ i j : Int, vs = [.int i, .int j] ∧ (-(2 ^ 62) ≤ i ∧ i < 2 ^ 62 ∧ -(2 ^ 62) ≤ j ∧ j < 2 ^ 62) ∧ R (Itr i (j - i).toNat) H := by
  intro al B H h ws vs hr r l p
  unfold fRg at p
  split at p
  · simp at l
  · obtain ⟨v, v2, rfl, q, q2⟩ := r.two
    cases q; cases q2
    split at p
    · rename_i c
      exact ⟨_, _, rfl, ⟨(okR_of c.1).1, (okR_of c.1).2, okR_of c.2.1⟩, Po.now p hr ⟨itR_rng, c.2.2⟩⟩
    · exact p.elim
  · simp at l
  · exact p.elim
theorem lk_rg3 {sg : L2.St} {R : It → Hp → Prop} : ∀ al B H h ws vs, HR X.K al B H h → Reps X.K al B H ws vs → ws.length = 3 → Po X.K B (fun al H (x : Itm × Nat) J => ItR X.K B J x.1 al H ∧ x.2 ≤ sizeLine) sg al H (fRg ws h) W R →
    ∃ (i j c : Int) (n : Nat), vs = [.int i, .int j, .int c] ∧ RgC i j c n ∧ R (Itc i c n) H := by
  intro al B H h ws vs hr r l p
  unfold fRg at p
  split at p
  · simp at l
  · simp at l
  · obtain ⟨v, v2, v3, rfl, q, q2, q3⟩ := r.three
    cases q; cases q2; cases q3
    split at p
    · rename_i c
      obtain ⟨c1, c2, rfl, c3⟩ := c
      exact ⟨_, _, _, _, rfl, RgC.neg (okR_of c1).1 (okR_of c1).2 (okR_of c2).1 (okR_of c2).2, Po.now p hr ⟨itR_dn, c3⟩⟩
    · exact p.elim
  · exact p.elim
/-- the arguments' number -/
def aLen (n : Nat) (r : En → M (List Val)) : En → M (List Val) := fun ro => bind (r ro) fun ws => if ws.length = n then ret ws else fail
def iRgN (n : Nat) (r : En → M (List Val)) : SI := fun ro => bind (r ro) fun ws => if ws.length = n then fRg ws else fail
theorem oi_rg1 {a : Expr} {r : En → M (List Val)} {p pos : Pos} (hg : Gl X "range") (hm : X.mg "range" = none) (ha : PA X [a] (tA X.K W r)) (hs : starEach [a] X.env = [(false, eval a X.env)] := by rfl) : PI X tg (.Call (.Name "range" p) [a] [] pos) (tI X.K W (iRgN 1 r)) := by
  refine PI.weak (pi_range1 hg hm ha hs) fun sg H R p => ?_
  refine tI_args (t := fun vs H1 R => ∃ j : Int, vs = [.int j] ∧ -(2 ^ 62) ≤ j ∧ j < 2 ^ 62 ∧ R (Itr 0 j.toNat) H1) p fun al B H h ws vs hr rr p => ?_
  by_cases c : ws.length = 1
  · rw [if_pos c] at p; exact lk_rg1 al B H h ws vs hr rr c p
  · rw [if_neg c] at p; exact p.elim
theorem oi_rg2 {a b : Expr} {r : En → M (List Val)} {p pos : Pos} (hg : Gl X "range") (hm : X.mg "range" = none) (ha : PA X [a, b] (tA X.K W r)) (hs : starEach [a, b] X.env = [(false, eval a X.env), (false, eval b X.env)] := by rfl)
    (hs2 : starEach [b] X.env = [(false, eval b X.env)] := by rfl) : PI X tg (.Call (.Name "range" p) [a, b] [] pos) (tI X.K W (iRgN 2 r)) := by
  refine PI.weak (pi_range2 hg hm ha hs hs2) fun sg H R p => ?_
  refine tI_args (t := fun vs H1 R => ∃ i j : Int, vs = [.int i, .int j] ∧ (-(2 ^ 62) ≤ i ∧ i < 2 ^ 62 ∧ -(2 ^ 62) ≤ j ∧ j < 2 ^ 62) ∧ R (Itr i (j - i).toNat) H1) p fun al B H h ws vs hr rr p => ?_
  by_cases c : ws.length = 2
  · rw [if_pos c] at p; exact lk_rg2 al B H h ws vs hr rr c p
  · rw [if_neg c] at p; exact p.elim
theorem oi_rg3 {a b c : Expr} {r : En → M (List Val)} {p pos : Pos} (hg : Gl X "range") (hm : X.mg "range" = none) (ha : PA X [a, b, c] (tA X.K W r)) (hs : starEach [a, b, c] X.env = (false, eval a X.env) :: starEach [b, c] X.env := by rfl)
    (hpl : (backTo pos (starEach [b, c] X.env)).any (·.1) = false := by rfl) : PI X tg (.Call (.Name "range" p) [a, b, c] [] pos) (tI X.K W (iRgN 3 r)) := by
  refine PI.weak (pi_range3 hg hm ha hs hpl) fun sg H R p => ?_
  refine tI_args (t := fun vs H1 R => ∃ (i j c : Int) (n : Nat), vs = [.int i, .int j, .int c] ∧ RgC i j c n ∧ R (Itc i c n) H1) p fun al B H h ws vs hr rr p => ?_
  by_cases c : ws.length = 3
  · rw [if_pos c] at p; exact lk_rg3 al B H h ws vs hr rr c p
  · rw [if_neg c] at p; exact p.elim
end
/-! ### enumerate -/
def prs : Nat → List Val → List Val
  | _, [] => []
  | i, x :: xs => .tup [.int (i : Nat), x] :: prs (i + 1) xs
theorem prs_get : ∀ (xs : List Val) (k i : Nat), (prs k xs)[i]? = (xs[i]?).map fun x => .tup [.int ((k + i : Nat) : Int), x]
  | [], k, i => by simp [prs]
  | x :: xs, k, 0 => by simp [prs]
  | x :: xs, k, i + 1 => by
    unfold prs
    rw [List.getElem?_cons_succ, List.getElem?_cons_succ, prs_get xs (k + 1) i]
    have : k + 1 + i = k + (i + 1) := by omega
    rw [this]
def fEn (ws : List Val) : M (Itm × Nat) := fun h => match ws with
  | [.tup xs] => .ok (.st (prs 0 xs), xs.length) h
  | [.lst xs] => .ok (.st (prs 0 xs), xs.length) h
  | [.scr ns] => .ok (.st (prs 0 (ns.map Val.int)), ns.length) h
  | [.ref n] => match h[n]? with
    | some (.lst xs) => .ok (.den n, xs.length) h
    | _ => .bad
  | _ => .bad
section
variable {K : PySem.W.Frag} {al B : List Addr} {H : Hp}
theorem two_le : (2 : Nat) ≤ sizeLine := by rw [sizeLine_eq]; omega
theorem itR_en {J : It} {xs : List Val} {vs : List V} (r : Reps K al B H xs vs)
    (hJ : ∀ al' H', StpB B al H al' H' → (∀ i, vs.length ≤ i → J.stop i H') ∧ ∀ i v, vs[i]? = some v → J.go i H' ∧ ∀ y H'', J.yld i H' y H'' → ∃ T u, y = .ref T ∧ H' T = none ∧ H'' = upd H' T u ∧ FT u [.int (i : Nat), v]) : ItR K B J (.st (prs 0 xs)) al H := by
  intro al' B' H' h' st hB hr i
  obtain ⟨j1, j2⟩ := hJ al' H' st
  refine ⟨fun e => j1 i ?_, fun w e => ?_⟩
  · rw [← r.length]
    have e : some (prs 0 xs)[i]? = some none := e
    rw [prs_get] at e
    exact List.getElem?_eq_none_iff.mp (Option.map_eq_none_iff.mp (Option.some.inj e))
  · have e : some (prs 0 xs)[i]? = some (some w) := e
    rw [prs_get] at e
    obtain ⟨x, ex, rfl⟩ := Option.map_eq_some_iff.mp (Option.some.inj e)
    obtain ⟨v, e1, rv⟩ := r.get ex
    obtain ⟨g1, g2⟩ := j2 i v e1
    refine ⟨g1, fun y H'' yy => ?_⟩
    obtain ⟨T, u, rfl, hT, rfl, hu⟩ := g2 y H'' yy
    rw [Nat.zero_add]
    exact ⟨Stp.lay hT, hr.lay hT, .tup (.inl (AtT.lay hr hT hu)) two_le (.cons (.int _) (.cons ((rv.stepB st hB).step (Stp.lay hT)) .nil))⟩
theorem itR_enL {a : Addr} {xs : List Val} {vs : List V} (h : ∀ al' H', StpB B al H al' H' → SqL K H' a vs) (r : Reps K al B H xs vs) : ItR K B (IteL K a) (.st (prs 0 xs)) al H := by
  refine itR_en r fun al' H' st => ?_
  have q := h al' H' st
  exact ⟨fun i l => ⟨vs, q, l⟩, fun i v e => ⟨⟨vs, v, q, e⟩, fun y H'' ⟨T, u, x, e1, e2, e3, e5, e4⟩ => ⟨T, u, e1, e2, e3, by have := e4 vs q; rw [e] at this; cases this; exact e5⟩⟩⟩
theorem itR_enT {a : Addr} {xs : List Val} {vs : List V} (h : ∀ al' H', StpB B al H al' H' → SqT K H' a vs) (r : Reps K al B H xs vs) : ItR K B (IteT K a) (.st (prs 0 xs)) al H := by
  refine itR_en r fun al' H' st => ?_
  have q := h al' H' st
  exact ⟨fun i l => ⟨vs, q, l⟩, fun i v e => ⟨⟨vs, v, q, e⟩, fun y H'' ⟨T, u, x, e1, e2, e3, e5, e4⟩ => ⟨T, u, e1, e2, e3, by have := e4 vs q; rw [e] at this; cases this; exact e5⟩⟩⟩
theorem itR_den {n : Nat} {a : Addr} (e : al[n]? = some a) : ItR K B (IteL K a) (.den n) al H := by
  intro al' B' H' h' st hB hr i
  have e' := st.get e
  unfold nxt
  dsimp only
  cases e2 : h'[n]? with
  | none => exact ⟨fun z => by simp at z, fun w z => by simp at z⟩
  | some o =>
    cases o with
    | lst xs =>
      cases hr.ob _ _ _ e' e2 with
      | @lst _ _ vs q _ s =>
      refine ⟨fun z => ⟨vs, SqL.of q, ?_⟩, fun w z => ?_⟩
      · rw [← s.length]
        exact List.getElem?_eq_none_iff.mp (Option.map_eq_none_iff.mp (Option.some.inj z))
      · obtain ⟨x, ex, rfl⟩ := Option.map_eq_some_iff.mp (Option.some.inj z)
        obtain ⟨v, e1, rv⟩ := s.get ex
        refine ⟨⟨vs, v, SqL.of q, e1⟩, fun y H'' ⟨T, u, x2, z0, z1, z2, hu, z3⟩ => ?_⟩
        subst z0 z2
        have := z3 vs (SqL.of q)
        rw [e1] at this
        cases this
        exact ⟨Stp.lay z1, hr.lay z1, .tup (.inl (AtT.lay hr z1 hu)) two_le (.cons (.int _) (.cons (rv.step (Stp.lay z1)) .nil))⟩
    | dic _ => exact ⟨fun z => by simp at z, fun w z => by simp at z⟩
    | ins _ _ => exact ⟨fun z => by simp at z, fun w z => by simp at z⟩
end
def iEn (r : En → M (List Val)) : SI := fun ro => bind (r ro) fEn
theorem oi_en {X : Cx} {W : WX} {e : Expr} {r : En → M (List Val)} {p pos tpos : Pos} {elts : List Expr} {kk : Nat} (hg : Gl X "enumerate") (hm : X.mg "enumerate" = none) (ha : PA X [e] (tA X.K W r)) (hs : starEach [e] X.env = [(false, eval e X.env)] := by rfl) :
    PI X (.Tuple elts kk tpos) (.Call (.Name "enumerate" p) [e] [] pos) (tI X.K W (iEn r)) := by
  refine PI.weak (PI.or (pi_enumL hg hm ha hs) (pi_enumT hg hm ha hs)) ?_
  rintro sg H R ⟨al, B, ro, h, S, p⟩
  unfold iEn at p
  change Po _ _ _ _ _ _ (obind (r ro h) fEn) _ _ at p
  cases e1 : r ro h with
  | bad => rw [e1] at p; exact p.elim
  | ex ee h1 => rw [e1] at p; exact .inl ⟨al, B, ro, h, S, by rw [e1]; exact p⟩
  | ok ws h1 =>
    rw [e1, obind_ok] at p
    unfold fEn at p
    split at p
    · refine .inr ⟨al, B, ro, h, S, ?_⟩
      rw [e1]
      intro al' H' vs st hr rr
      obtain ⟨v, rfl, q⟩ := rr.one
      cases q with
      | @tup a _ us at' l s => exact ⟨a, us, rfl, sqT_of at', p al' H' _ st hr ⟨itR_enT (fun al2 H2 st2 => sqT_of (B := B) (at'.imp (AtT.stepB st2 fun _ hb => .inl hb) id)) s, l⟩⟩
    · refine .inl ⟨al, B, ro, h, S, ?_⟩
      rw [e1]
      intro al' H' vs st hr rr
      obtain ⟨v, rfl, q⟩ := rr.one
      cases q with
      | @lst a _ us at' l s => exact ⟨a, us, rfl, SqL.of at'.1, p al' H' _ st hr ⟨itR_enL (fun al2 H2 st2 => SqL.of (at'.stepW st2).1) s, l⟩⟩
    · refine .inl ⟨al, B, ro, h, S, ?_⟩
      rw [e1]
      intro al' H' vs st hr rr
      obtain ⟨v, rfl, q⟩ := rr.one
      cases q with
      | @scr a _ at' l => exact ⟨a, _, rfl, sqL_of at', p al' H' _ st hr ⟨itR_enL (fun al2 H2 st2 => sqL_of (B := B) (at'.imp (At.stepB st2 fun _ hb => .inl hb) id)) (Reps.ints _), l⟩⟩
    · refine .inl ⟨al, B, ro, h, S, ?_⟩
      rw [e1]
      intro al' H' vs st hr rr
      obtain ⟨v, rfl, q⟩ := rr.one
      cases q with
      | @ref _ a q =>
        split at p
        · rename_i xs e2
          cases hr.ob _ _ _ q e2 with
          | lst q2 l s => exact ⟨a, _, rfl, SqL.of q2, p al' H' _ st hr ⟨itR_den q, l⟩⟩
        · exact p.elim
    · exact p.elim
end Z
set_option Elab.async false
set_option maxRecDepth 100000
set_option linter.unusedVariables false
/-! ZS: len(set(t)) of a tuple of any number of texts. -/
namespace ZS
open PySem PySem.Spec PyProof.Rows
/-- how many different ones -/
def dcR : List Str → Nat
  | [] => 0
  | x :: r => if x ∈ r then dcR r else dcR r + 1
theorem dcR_le : ∀ r : List Str, dcR r ≤ r.length
  | [] => Nat.le_refl _
  | x :: r => by
    unfold dcR
    have := dcR_le r
    rw [List.length_cons]
    split <;> omega
theorem dcR_eq : ∀ r : List Str, dcR r = r.length ↔ r.Nodup
  | [] => by simp [dcR]
  | x :: r => by
    unfold dcR
    have := dcR_le r
    rw [List.length_cons, List.nodup_cons]
    split
    · rename_i h
      constructor
      · intro e; omega
      · intro e; exact absurd h e.1
    · rename_i h
      rw [← dcR_eq r]
      constructor
      · intro e; exact ⟨h, by omega⟩
      · intro e; omega
def dcnt (xs : List Str) : Nat := dcR xs.reverse
theorem dcnt_eq (xs : List Str) : dcnt xs = xs.length ↔ xs.Nodup := by
  unfold dcnt
  have h := dcR_eq xs.reverse
  rw [List.length_reverse] at h
  rw [h]
  exact ⟨fun h => (List.pairwise_reverse.mp h).imp fun h => Ne.symm h, fun h => List.pairwise_reverse.mpr (h.imp fun h => Ne.symm h)⟩
theorem dcnt_le (xs : List Str) : dcnt xs ≤ xs.length := by
  have h := dcR_le xs.reverse
  rw [List.length_reverse] at h
  exact h
section
variable {P : Program} {w : World} {A : Around} {R : Result → Shared → Prop} {I : Addr} {fp wr : List Addr} {G : Array GenState → Array GenState → Prop} {n : Nat} {Pv : Nat → Value → Prop} {St : Nat → Shared → Prop}
theorem many (W : WalksS P w A.in1 I fp wr G n Pv St) (S : Addr) (hSf : S ∉ fp) (xs : List Str) (hn : n = xs.length) (hb : xs.length + 1 < scanBound) (hval : ∀ i v, Pv i v → ∃ x t, xs[i]? = some x ∧ v = .str x t) :
    ∀ (k i : Nat) (s : Shared), n - i = k → i ≤ n → St i s → s.heap.SetOf (strKind P w) S (fun j => decide (j ∈ xs.take i)) (dcnt (xs.take i)) →
      (∀ s', Moved (S :: wr) G s s' → s'.heap.SetOf (strKind P w) S (fun j => decide (j ∈ xs)) (dcnt xs) → R (.ok (.ret .none)) s') →
      codeAny (model P w) A (.builtin "set.update.loop" ⟨[.ref S, .ref I], []⟩) R s := by
  have out : S ∉ wr := fun h => hSf (W.sub _ h)
  have up : ∀ b ∈ wr, b ∈ S :: wr := fun b hb => List.mem_cons_of_mem _ hb
  intro k
  induction k with
  | zero =>
    intro i s _ hi st hS hR
    obtain rfl : i = n := by omega
    refine codeAny_builtin PyProof.Rows.F.entry_set_update_loop ?_
    rw [Around.under_plainId PyProof.Rows.F.plain_set_update_loop _]
    refine wpAny_bind (m := pyNext (.ref I)) (W.done s _ _ st fun s' hm => ?_)
    have e : xs.take i = xs := List.take_of_length_le (by omega)
    rw [e] at hS
    refine wpAny_pure (a := PySem.Fin.done (.ret Value.none)) (hR s' (hm.mono up) ?_)
    obtain ⟨o, es, ep, t, ho, rest⟩ := hS
    exact ⟨o, es, ep, t, hm.heap S _ out ho, rest⟩
  | succ k ih =>
    intro i s hk hi st hS hR
    have lt : i < n := by omega
    refine codeAny_builtin PyProof.Rows.F.entry_set_update_loop ?_
    rw [Around.under_plainId PyProof.Rows.F.plain_set_update_loop _]
    refine wpAny_bind (m := pyNext (.ref I)) (W.item i s _ _ lt st fun v s1 hP st1 hm => ?_)
    obtain ⟨x, t, hx, rfl⟩ := hval i v hP
    have hS1 : s1.heap.SetOf (strKind P w) S (fun j => decide (j ∈ xs.take i)) (dcnt (xs.take i)) := by
      obtain ⟨o, es, ep, tb, ho, rest⟩ := hS
      exact ⟨o, es, ep, tb, hm.heap S _ out ho, rest⟩
    have room : dcnt (xs.take i) + 1 < scanBound := by
      have := dcnt_le (xs.take i)
      have : (xs.take i).length ≤ xs.length := by rw [List.length_take]; omega
      omega
    refine wpAny_bind (m := holding [Value.str x t] (setAdd S (.str x t))) (wpAny_holding ?_)
    unfold setAdd
    refine wpAny_holding (wpAny_bind ((strKind P w).pyHash (k := x) (strKind_is _ _ _ _) ?_))
    refine wpAny_setAddHashed_of (knd := strKind P w) (s := { s1 with toks := s1.toks + 1 }) (strKind_is _ _ _ _) rfl hS1 room fun h2 sb hS2 => ?_
    have hS3 : h2.SetOf (strKind P w) S (fun j => decide (j ∈ xs.take (i + 1))) (dcnt (xs.take (i + 1))) := by
      refine SetOf_congr hS2 (fun j => ?_) ?_
      · rw [List.take_add_one, hx]; simp [List.mem_append]
      · rw [List.take_add_one, hx]
        show _ = dcR ((xs.take i) ++ [x]).reverse
        rw [List.reverse_append]
        show _ = dcR (x :: (xs.take i).reverse)
        unfold dcR
        simp only [List.mem_reverse, decide_eq_true_eq]
        rfl
    refine wpAny_pure ⟨plainId_quiet PyProof.Rows.F.plain_set_update_loop _, ih (i + 1) _ (by omega) lt (W.frame _ s1 _ _ st1 (Nat.le_succ _) fun b hb o e => ?_) hS3 fun s3 hm3 hS4 => ?_⟩
    · rw [sb.2 b (fun h : b = S => hSf (by rw [← h]; exact hb))]; exact e
    · refine hR s3 (Moved.trans W.gtrans ((hm.mono up).then_heap (Nat.le_succ _) fun b o hb e => ?_) hm3) hS4
      rw [sb.2 b (fun h : b = S => hb (by rw [h]; exact List.mem_cons_self))]; exact e
end
section
variable {P : Program} {w : World} {A : Around} {E : Value → Shared → Prop} {s : Shared}
set_option maxHeartbeats 3200000 in
theorem set_tup {l : Addr} {items : Array Value} {xs : List Str} {Q : Value → Shared → Prop} (hh : A.handled = none) (hl : s.heap.IsTuple l items) (hi : StrsAre items.toList xs) (hb : xs.length + 1 < scanBound)
    (h : ∀ (h' : Heap) (tk : Nat), h'.SetOf (strKind P w) s.heap.objs.size (fun j => decide (j ∈ xs)) (dcnt xs) → (∀ b o, b < s.heap.objs.size → s.heap.get? b = some o → h'.get? b = some o) → Q (.ref s.heap.objs.size) { s with heap := h', toks := tk }) :
    wpAny (model P w) A (call (.type "set") [.ref l]) Q E s := by
  obtain ⟨c, tl, hmro⟩ := PySem.F.called_set.mro
  have f1 := PySem.F.called_set.made
  have f2 := PySem.F.called_set.sub
  have f3 := PySem.F.called_set.notType
  have f4 := PySem.F.called_set.canCreate
  have f5 := PySem.F.typeCall_set_1 (.ref l)
  have hsz : items.size = xs.length := by rw [← StrsAre.len_eq hi, Array.length_toList]
  have hval : ∀ (i : Nat) (v : Value), items[i]? = some v → ∃ x t, xs[i]? = some x ∧ v = .str x t := fun i v hv => by
    obtain ⟨t, e⟩ := SS.strs_at hi i v (by rw [Array.getElem?_toList]; exact hv)
    have lt : i < xs.length := by rw [← hsz]; exact (Array.getElem?_eq_some_iff.mp hv).1
    refine ⟨xs[i], t, List.getElem?_eq_getElem lt, ?_⟩
    rw [e, List.getD_eq_getElem?_getD, List.getElem?_eq_getElem lt] <;> rfl
  refine wpAny_call (codeAny_of_tree ?_)
  refine wpAny_pure (a := _) ⟨Code.quiet_builtin _ (by decide +kernel), codeAny_builtin PySem.F.entry_type_call ?_⟩
  rw [Around.under_plain (weight_type_call_type "set" [.ref l] []) rfl]
  repeat (any_goals (first | assumption | wp_step))
  refine codeAny_mono (code_set_new_1 (.ref l) (E := E) (Q₁ := fun v s₁ => ∃ led : Bool, v = .ref s.heap.objs.size ∧ s₁ = { s with heap := s.heap.push { cls := .type "set", dict := none, data := .set #[] 0 (.fresh 0 0 led) } }) fun led => ⟨led, rfl, rfl⟩) fun r s₁ hr => ?_
  match r, hr with
  | .error e, hr => exact hr
  | .ok .next, hr => exact hr.elim
  | .ok .brk, hr => exact hr.elim
  | .ok .cont, hr => exact hr.elim
  | .ok (.ret v), hr =>
  obtain ⟨led, rfl, rfl⟩ := hr
  have hS : (s.heap.push { cls := .type "set", dict := none, data := .set #[] 0 (.fresh 0 0 led) }).get? s.heap.objs.size = some { cls := .type "set", dict := none, data := .set #[] 0 (.fresh 0 0 led) } := Heap.get?_push_size _ rfl
  have hT : Shared.TypeIs { s with heap := s.heap.push { cls := .type "set", dict := none, data := .set #[] 0 (.fresh 0 0 led) } } (.ref s.heap.objs.size) "set" := ⟨_, hS, rfl⟩
  have f6 := PySem.F.called_set.init.lookup
  have f7 := PySem.F.called_set.init.bind (.ref s.heap.objs.size)
  repeat (any_goals (first | assumption | wp_step))
  refine codeAny_mono (codeAny_call_builtin (R := wants (fun r s₂ => r = .none ∧ ∃ h' tk, s₂ = { s with heap := h', toks := tk } ∧ h'.SetOf (strKind P w) s.heap.objs.size (fun j => decide (j ∈ xs)) (dcnt xs) ∧
    (∀ b o, b < s.heap.objs.size → s.heap.get? b = some o → h'.get? b = some o)) E) PySem.F.called_set.init.plain PySem.F.entry_set_init (check_set_init_1 hT ?_)) fun r₂ s₂ hr₂ => ?_
  · have hl1 : (s.heap.push { cls := .type "set", dict := none, data := .set #[] 0 (.fresh 0 0 led) }).IsTuple l items := hl.push _
    obtain ⟨⟨oc, od, dt, sl⟩, ho, h1, nl, h2⟩ := id hl1
    have hlS : l < s.heap.objs.size := by obtain ⟨_, e, _⟩ := hl; exact Heap.lt_size e
    simp only at h1 h2
    subst h1; subst h2
    have g1 := PySem.F.sub_tuple_set
    have g2 := PySem.F.sub_tuple_frozenset
    have g3 : (Value.type "tuple" == Value.type "dict") = false := by decide
    unfold Builtin.«set.__init__» noKeywords Builtin.Frozenset.updateFrom
    generalize hPI : pyIter = PI
    wp_walk
    subst hPI
    refine wpAny_pyIter_tuple (s := { s with heap := s.heap.push { cls := .type "set", dict := none, data := .set #[] 0 (.fresh 0 0 led) } }) hl1 ?_
    refine wpAny_bind (wpAny_runValue ?_)
    have z1 : (s.heap.push { cls := .type "set", dict := none, data := .set #[] 0 (.fresh 0 0 led) }).objs.size = s.heap.objs.size + 1 := Heap.size_push ..
    have ne1 : l ≠ (s.heap.push { cls := .type "set", dict := none, data := .set #[] 0 (.fresh 0 0 led) }).objs.size := by rw [z1]; exact Nat.ne_of_lt (Nat.lt_succ_of_lt hlS)
    have ne2 : s.heap.objs.size ∉ [(s.heap.push { cls := .type "set", dict := none, data := .set #[] 0 (.fresh 0 0 led) }).objs.size, l] := by
      rw [z1]
      simp only [List.mem_cons, List.not_mem_nil, or_false, not_or]
      exact ⟨Nat.ne_of_lt (Nat.lt_succ_self _), Nat.ne_of_gt hlS⟩
    have hh3 : A.in1.in1.in1.handled = none := by simp [hh]
    refine many ((Walks.tuple hh3 _ l ne1 items).toS) s.heap.objs.size ne2 xs hsz hb hval (items.size - 0) 0 _ (by omega) (Nat.zero_le _) ⟨⟨_, Heap.get?_push_size _ rfl, rfl, rfl⟩, hl1.push _⟩ ?_ ?_
    · have hget : ((s.heap.push { cls := .type "set", dict := none, data := .set #[] 0 (.fresh 0 0 led) }).push { cls := .type "tuple_iterator", data := .fields #[.ref l, .int 0 0] }).get? s.heap.objs.size = some { cls := .type "set", dict := none, data := .set #[] 0 (.fresh 0 0 led) } := Heap.get?_push_of_some _ hS
      exact SetOf_congr ((setObjOf_fresh (knd := strKind P w) led).setOf hget (by decide)) (fun _ => by simp) rfl
    · rintro ⟨h', g', d', tk', os'⟩ hm hS'
      obtain rfl : g' = s.gens := hm.gens
      obtain rfl : d' = s.drawn := hm.drawn
      obtain rfl : os' = s.os := hm.os
      refine wpAny_pure ?_
      refine wpAny_pure ⟨rfl, h', tk', rfl, hS', fun b o hb e => ?_⟩
      refine hm.heap b o ?_ (Heap.get?_push_of_some _ (Heap.get?_push_of_some _ e))
      rw [z1]
      simp only [List.mem_cons, List.not_mem_nil, or_false, not_or]
      exact ⟨Nat.ne_of_lt hb, Nat.ne_of_lt (Nat.lt_succ_of_lt hb)⟩
  · match r₂, hr₂ with
    | .error e, hr => exact hr
    | .ok .next, hr => exact hr.elim
    | .ok .brk, hr => exact hr.elim
    | .ok .cont, hr => exact hr.elim
    | .ok (.ret v), hr =>
      obtain ⟨rfl, h', tk, rfl, hS', hk'⟩ := hr
      repeat (any_goals (first | assumption | wp_step))
      exact h _ _ hS' hk'
end
end ZS
namespace Z
open PySem PySem.Spec PyProof.Rows L2
/-- len(set(t)), t a tuple of texts -/
def tLenSets (K : PySem.W.Frag) (ta : TE) : TE := fun σ H Q => ta σ H fun x H1 => ∃ l, ∃ xs : List Str, x = .ref l ∧ SqT K H1 l (xs.map V.str) ∧ xs.length + 1 < scanBound ∧ Q (.int (ZS.dcnt xs : Nat)) H1
theorem pe_lenSets {X : Cx} {a : Expr} {ta : TE} {p p2 q pos : Pos} (hc : X.calm = true) (hg : Gl X "len") (hm : X.mg "len" = none) (hg2 : Gl X "set") (hm2 : X.mg "set" = none) (ha : PE X a ta)
    (na : starEach [a] X.env = (false, eval a X.env) :: starEach [] X.env := by rfl) : PE X (.Call (.Name "len" p) [.Call (.Name "set" p2) [a] [] q] [] pos) (tLenSets X.K ta) := by
  refine ⟨fun pins s σ H Q I h => ?_⟩
  refine Call_ (ld_blt I hg hm boot_len ?_)
  refine PyProof.Rows.callWith_builtin1 (PyProof.Rows.args_cons ?_ rfl) rfl rfl
  refine Call_ (ld_blt I hg2 hm2 boot_set ?_)
  refine PyProof.Rows.callWith_type1 (PyProof.Rows.args_cons (thn (ha.run pins s σ H _ I h) fun v s1 ⟨x, H1, I1, r1, q1⟩ => PyProof.Rows.args_nil ?_) na) na rfl
  obtain ⟨l, xs, rfl, hq, hb, q1⟩ := q1
  cases r1
  obtain ⟨its, r, pl, hz⟩ := I1.tuple hq
  refine ZS.set_tup (I1.ok.hd hc) pl (by simpa using strsAre_of r) hb fun h' tk hS hk => ?_
  refine PyProof.Rows.args_nil ?_
  obtain ⟨o, es, ep, t, ho, hex, hd, _, _, _, hf, hn⟩ := hS
  have I2 : Inv X pins σ H1 { s1 with heap := h', toks := tk } := I1.kept fun b o e => hk b o (Heap.lt_size e) e
  have hle := ZS.dcnt_le xs
  unfold scanBound at hb
  refine call_len_set ho hex hd hf (by rw [hn]; omega) ⟨.int (ZS.dcnt xs : Nat), H1, I2.tok _, ⟨_, by rw [hn]⟩, q1⟩
end Z
set_option Elab.async false
set_option maxRecDepth 100000
set_option linter.unusedVariables false
/-! Z7: built-ins, methods, stores to a[i], chains of comparisons. -/
namespace Z
open PySem PySem.Spec PyProof.Rows L2
section
variable {K : PySem.W.Frag}
/-! ### operators' rules, as they are asked for -/
def rAddZ (K : PySem.W.Frag) : R2 := fun x y H Q => rI0 (fun i j => .int (i + j)) x y H Q ∨ (∃ i j, x = .str i ∧ y = .str j ∧ i.length + j.length ≤ sizeLine ∧ Q (.str (i ++ j)) H) ∨ rCatF K x y H Q ∨ rCat x y H Q
theorem op_addZ {X : Cx} : OpR X (binaryOp .Add) (rAddZ X.K) := OpR.or4 op_add op_add_str op_catF op_cat
theorem op_mulZ {X : Cx} : OpR X (binaryOp .Mult) (fun x y H Q => rI CMul (fun i j => .int (i * j)) x y H Q ∨ rI CMulW (fun i j => .int (i * j)) x y H Q) := op_mul.or op_mulW
theorem op_divZ {X : Cx} : OpR X (binaryOp .FloorDiv) (fun x y H Q => rI CDivW (fun i j => .int (i / j)) x y H Q ∨ rI CDivN (fun i j => .int (i.fdiv j)) x y H Q) := op_fdivW.or op_fdivN
theorem op_modZ {X : Cx} : OpR X (binaryOp .Mod) (fun x y H Q => rI (fun _ j => 0 < j) (fun i j => .int (i % j)) x y H Q ∨ rI (fun _ j => j ≠ 0) (fun i j => .int (i.fmod j)) x y H Q) := op_mod.or op_modN
theorem op_eqZ {X : Cx} (hu : X.A.units + 64 < cLine) : OpR X (compareOp .Eq) (fun x y H Q => rEq x y H Q ∨ rEqM X.K false x y H Q) := op_eq.or (op_eqM hu)
theorem op_neZ {X : Cx} (hu : X.A.units + 64 < cLine) : OpR X (compareOp .NotEq) (fun x y H Q => rNe x y H Q ∨ rEqM X.K true x y H Q) := op_ne.or (op_neM hu)
/-! ### isinstance -/
def tyOf (w : Val) (h : HH) : Option String := match w with
  | .non => some "NoneType"
  | .bl _ => some "bool"
  | .int _ => some "int"
  | .str _ => some "str"
  | .tup _ => some "tuple"
  | .lst _ => some "list"
  | .scr _ => some "list"
  | .ref n => match h[n]? with
    | some (.lst _) => some "list"
    | some (.dic _) => some "dict"
    | _ => none
  | _ => none
theorem ty_rep {al B : List Addr} {H : Hp} {h : HH} {w : Val} {v : V} {T : String} (hr : HR K al B H h) (r : Rep K al B H w v) (e : tyOf w h = some T) : TyX K H v (.type T) := by
  cases r with
  | non => cases e; exact .base .non
  | bl b => cases e; exact .base (.bl b)
  | int i => cases e; exact .base (.int i)
  | str x => cases e; exact .base (.str x)
  | tup a l s =>
    cases e
    rcases a with ⟨u, ⟨q, _⟩, o, rfl, _⟩ | ⟨o, its, n, e, c, _⟩
    · exact .fTuple q
    · exact .kTuple e c
  | lst a l s => cases e; exact .base (.lst a.1)
  | scr a l =>
    cases e
    rcases a with ⟨q | ⟨o, q⟩, _⟩ | ⟨o, its, n, e, c, _⟩
    · exact .base (.lst q)
    · exact .base (.frz q)
    · exact .kList e c
  | exn => cases e
  | ref q =>
    unfold tyOf at e
    dsimp only at e
    split at e
    · rename_i e2
      cases e
      cases hr.ob _ _ _ q e2 with
      | lst q _ s => exact .base (.lst q)
    · rename_i e2
      cases e
      cases hr.ob _ _ _ q e2 with
      | dic q _ s => exact .base (.dK q)
    · cases e
  | glo => cases e
  | ty => cases e
def isA (a b : String) : Option Bool := if ["NoneType", "bool", "int", "str", "tuple", "list", "dict"].contains a = true ∧ ["bool", "int", "str", "tuple", "list", "dict"].contains b = true then some (a == b || (a == "bool" && b == "int")) else none
theorem isA_kit {a b : String} {r : Bool} (h : isA a b = some r) : kitB a b = some r := by
  unfold isA at h
  split at h
  · rename_i c
    obtain ⟨c1, c2⟩ := c
    simp only [List.contains_eq_mem, List.mem_cons, List.not_mem_nil, or_false, decide_eq_true_eq] at c1 c2
    cases h
    rcases c1 with rfl | rfl | rfl | rfl | rfl | rfl | rfl <;> rcases c2 with rfl | rfl | rfl | rfl | rfl | rfl <;> decide +kernel
  · cases h
def fIsi (ws : List Val) : M Val := fun h => match ws with
  | [w, .ty T] => match tyOf w h with
    | some S => match isA S T with
      | some b => .ok (.bl b) h
      | none => .bad
    | none => .bad
  | _ => .bad
theorem lk_isi : Lks K fIsi (rIsi K) := by
  intro W al B sg H h ws vs Q hr r p
  unfold fIsi at p
  split at p
  · obtain ⟨v, v2, rfl, r1, r2⟩ := r.two
    cases r2
    split at p
    · rename_i e
      split at p
      · rename_i e2
        exact ⟨_, _, _, _, _, rfl, .ty _, ty_rep hr r1 e, kit_ty (isA_kit e2), Po.now p hr (.bl _)⟩
      · exact p.elim
    · exact p.elim
  · exact p.elim
/-! ### len, abs, int, bool, max, min -/
def fLen (ws : List Val) : M Val := fun h => match ws with
  | [.str x] => if x.length ≤ sizeLine then .ok (.int (x.length : Nat)) h else .bad
  | [w] => match items w h with
    | some xs => .ok (.int (xs.length : Nat)) h
    | none => .bad
  | _ => .bad
theorem lk_len : Lks K fLen (fun xs H Q => ∃ x n, xs = [x] ∧ LenV K x H n ∧ Q (.int n) H) := by
  intro W al B sg H h ws vs Q hr r p
  unfold fLen at p
  split at p
  · obtain ⟨v, rfl, r1⟩ := r.one
    cases r1
    split at p
    · rename_i l
      exact ⟨_, _, rfl, ⟨l, rfl⟩, Po.now p hr (.int _)⟩
    · exact p.elim
  · obtain ⟨v, rfl, r1⟩ := r.one
    split at p
    · rename_i xs e
      obtain ⟨a, us, rfl, q, s⟩ := items_sq hr r1 e
      refine ⟨_, _, rfl, ?_, Po.now p hr (.int _)⟩
      rw [s.length]
      rcases q with q | q
      · exact .inl ⟨us, q, rfl⟩
      · exact .inr ⟨us, q, rfl⟩
    · exact p.elim
  · exact p.elim
def fAbs (ws : List Val) : M Val := fun h => match ws with
  | [.int i] => .ok (.int (if i < 0 then -i else i)) h
  | _ => .bad
theorem lk_abs : Lks K fAbs (fun xs H Q => ∃ i, xs = [.int i] ∧ Q (.int (if i < 0 then -i else i)) H) := by
  intro W al B sg H h ws vs Q hr r p
  unfold fAbs at p
  split at p
  · obtain ⟨v, rfl, r1⟩ := r.one
    cases r1
    exact ⟨_, rfl, Po.now p hr (.int _)⟩
  · exact p.elim
def fMax (ws : List Val) : M Val := fun h => match ws with
  | [.int i, .int j] => .ok (.int (if j > i then j else i)) h
  | _ => .bad
theorem lk_max : Lks K fMax (fun xs H Q => ∃ i j, xs = [.int i, .int j] ∧ Q (.int (if j > i then j else i)) H) := by
  intro W al B sg H h ws vs Q hr r p
  unfold fMax at p
  split at p
  · obtain ⟨v, v2, rfl, r1, r2⟩ := r.two
    cases r1; cases r2
    exact ⟨_, _, rfl, Po.now p hr (.int _)⟩
  · exact p.elim
def fMin (ws : List Val) : M Val := fun h => match ws with
  | [.int i, .int j] => .ok (.int (if j < i then j else i)) h
  | _ => .bad
theorem lk_min : Lks K fMin (fun xs H Q => ∃ i j, xs = [.int i, .int j] ∧ Q (.int (if j < i then j else i)) H) := by
  intro W al B sg H h ws vs Q hr r p
  unfold fMin at p
  split at p
  · obtain ⟨v, v2, rfl, r1, r2⟩ := r.two
    cases r1; cases r2
    exact ⟨_, _, rfl, Po.now p hr (.int _)⟩
  · exact p.elim
def fInt (ws : List Val) : M Val := fun h => match ws with
  | [.int i] => .ok (.int i) h
  | [.bl b] => .ok (.int (if b then 1 else 0)) h
  | _ => .bad
theorem lk_int : Lks K fInt (fun xs H Q => (∃ i, xs = [.int i] ∧ Q (.int i) H) ∨ ∃ k, xs = [.bl k] ∧ Q (.int (if k then 1 else 0)) H) := by
  intro W al B sg H h ws vs Q hr r p
  unfold fInt at p
  split at p
  · obtain ⟨v, rfl, r1⟩ := r.one
    cases r1
    exact .inl ⟨_, rfl, Po.now p hr (.int _)⟩
  · obtain ⟨v, rfl, r1⟩ := r.one
    cases r1
    exact .inr ⟨_, rfl, Po.now p hr (.int _)⟩
  · exact p.elim
/-! ### all, any of a list of truths -/
def bls : List Val → Option (List Bool)
  | [] => some []
  | .bl b :: xs => (bls xs).map (b :: ·)
  | _ :: _ => none
theorem bls_rep {al B : List Addr} {H : Hp} : ∀ {xs : List Val} {vs : List V} {bs : List Bool}, Reps K al B H xs vs → bls xs = some bs → vs = bs.map V.bl
  | _, _, _, .nil, e => by cases e; rfl
  | _, _, _, .cons a r, e => by
    cases a with
    | bl b =>
      unfold bls at e
      obtain ⟨cs, e2, rfl⟩ := Option.map_eq_some_iff.mp e
      rw [bls_rep r e2]
      rfl
    | _ => cases e
def fAll (ws : List Val) : M Val := fun h => match ws with
  | [w] => match lsts w h with
    | some xs => match bls xs with
      | some bs => .ok (.bl (bs.all id)) h
      | none => .bad
    | none => .bad
  | _ => .bad
theorem lk_all : Lks K fAll (rAll K) := by
  intro W al B sg H h ws vs Q hr r p
  unfold fAll at p
  split at p
  · obtain ⟨v, rfl, r1⟩ := r.one
    split at p
    · rename_i xs e
      obtain ⟨a, us, rfl, q, _, s⟩ := lsts_at hr r1 e
      split at p
      · rename_i bs e2
        have := bls_rep s e2
        subst this
        exact ⟨a, bs, rfl, SqL.of q, Po.now p hr (.bl _)⟩
      · exact p.elim
    · exact p.elim
  · exact p.elim
def fAny (ws : List Val) : M Val := fun h => match ws with
  | [w] => match lsts w h with
    | some xs => match bls xs with
      | some bs => .ok (.bl (bs.any id)) h
      | none => .bad
    | none => .bad
  | _ => .bad
theorem lk_any : Lks K fAny (rAny K) := by
  intro W al B sg H h ws vs Q hr r p
  unfold fAny at p
  split at p
  · obtain ⟨v, rfl, r1⟩ := r.one
    split at p
    · rename_i xs e
      obtain ⟨a, us, rfl, q, _, s⟩ := lsts_at hr r1 e
      split at p
      · rename_i bs e2
        have := bls_rep s e2
        subst this
        exact ⟨a, bs, rfl, SqL.of q, Po.now p hr (.bl _)⟩
      · exact p.elim
    · exact p.elim
  · exact p.elim
/-! ### tuple(x), list(x) -/
def fTpl (ws : List Val) : M Val := fun h => match ws with
  | [.tup xs] => .ok (.tup xs) h
  | [.lst xs] => .ok (.tup xs) h
  | [.scr ns] => .ok (.tup (ns.map Val.int)) h
  | [.ref n] => match h[n]? with
    | some (.lst xs) => .ok (.tup xs) h
    | _ => .bad
  | _ => .bad
theorem lk_tpl : Lks K fTpl (fun xs H Q => ∃ p ys, xs = [.ref p] ∧ ((SqL K H p ys ∧ ∀ l u, H l = none → FT u ys → Q (.ref l) (upd H l u)) ∨ (SqT K H p ys ∧ Q (.ref p) H))) := by
  intro W al B sg H h ws vs Q hr r p
  unfold fTpl at p
  split at p
  · obtain ⟨v, rfl, r1⟩ := r.one
    cases r1 with
    | tup a l s => exact ⟨_, _, rfl, .inr ⟨sqT_of a, Po.now p hr (.tup a l s)⟩⟩
  · obtain ⟨v, rfl, r1⟩ := r.one
    cases r1 with
    | lst a l s => exact ⟨_, _, rfl, .inl ⟨SqL.of a.1, fun q u hq hu => p _ _ _ (Stp.lay hq) (hr.lay hq) (.tup (.inl (AtT.lay hr hq hu)) l (s.step (Stp.lay hq)))⟩⟩
  · obtain ⟨v, rfl, r1⟩ := r.one
    cases r1 with
    | scr a l => exact ⟨_, _, rfl, .inl ⟨sqL_of a, fun q u hq hu => p _ _ _ (Stp.lay hq) (hr.lay hq) (.tup (.inl (AtT.lay hr hq hu)) (by rw [List.length_map]; exact l) (Reps.ints _))⟩⟩
  · obtain ⟨v, rfl, r1⟩ := r.one
    cases r1 with
    | ref q =>
      split at p
      · rename_i e2
        cases hr.ob _ _ _ q e2 with
        | lst q l s => exact ⟨_, _, rfl, .inl ⟨SqL.of q, fun q u hq hu => p _ _ _ (Stp.lay hq) (hr.lay hq) (.tup (.inl (AtT.lay hr hq hu)) l (s.step (Stp.lay hq)))⟩⟩
      · exact p.elim
  · exact p.elim
/-- list(x), that stays as it is -/
def fLof (ws : List Val) : M Val := fun h => match ws with
  | [w] => match items w h with
    | some xs => if xs.length ≤ sizeLine then .ok (.lst xs) h else .bad
    | none => .bad
  | _ => .bad
def rLof (K : PySem.W.Frag) : List V → Hp → VK → Prop := fun xs H Q => ∃ p ys, xs = [.ref p] ∧ (SqL K H p ys ∨ SqT K H p ys) ∧ ∀ l, H l = none → Q (.ref l) (upd H l (.lst ys))
theorem lk_lof : Lks K fLof (rLof K) := by
  intro W al B sg H h ws vs Q hr r p
  unfold fLof at p
  split at p
  · obtain ⟨v, rfl, r1⟩ := r.one
    split at p
    · rename_i xs e
      obtain ⟨a, us, rfl, q, s⟩ := items_sq hr r1 e
      split at p
      · rename_i l
        exact ⟨a, us, rfl, q, fun b hb => p _ _ _ (Stp.lay hb) (hr.lay hb) (.lst (At1.lay hr hb) l (s.step (Stp.lay hb)))⟩
      · exact p.elim
    · exact p.elim
  · exact p.elim
/-- list(x), a new own one -/
def fLnw (ws : List Val) : M Val := fun h => match ws with
  | [w] => match items w h with
    | some xs => if xs.length ≤ sizeLine then .ok (.ref h.length) (h ++ [.lst xs]) else .bad
    | none => .bad
  | _ => .bad
theorem lk_lnw : Lks K fLnw (rLof K) := by
  intro W al B sg H h ws vs Q hr r p
  unfold fLnw at p
  split at p
  · obtain ⟨v, rfl, r1⟩ := r.one
    split at p
    · rename_i xs e
      obtain ⟨a, us, rfl, q, s⟩ := items_sq hr r1 e
      split at p
      · rename_i l
        exact ⟨a, us, rfl, q, fun b hb => p _ _ _ (Stp.new hb) (hr.new hb (.lst upd_same l (s.step (Stp.new hb)))) (.ref (by rw [← hr.len, List.getElem?_concat_length]))⟩
      · exact p.elim
    · exact p.elim
  · exact p.elim
end
/-! ### methods of lists -/
section
variable {X : Cx} {W : WX} {o e : Expr} {es : List Expr} {mo m : SE} {ra : En → M (List Val)} {name : Str} {T id : String} {apos cpos pos : Pos}
def sMt (f : Val → List Val → M Val) (mo : SE) (ra : En → M (List Val)) : SE := fun ro => bind (mo ro) fun w => bind (ra ro) fun ws => f w ws
/-- a value is that built-in's, and its method does so -/
def LkM (K : PySem.W.Frag) (T : String) (ok : Val → HH → Prop) (f : Val → List Val → M Val) (r : V → List V → Hp → VK → Prop) : Prop :=
  (∀ al B H h w v, HR K al B H h → Rep K al B H w v → ok w h → tyV K T v H) ∧
  ∀ (W : WX) al B sg H h w v ws vs (Q : VK), HR K al B H h → Rep K al B H w v → Reps K al B H ws vs → Po K B (fun al H => Rep K al B H) sg al H (f w ws h) W Q → r v vs H Q
/-- own lists -/
def okL (w : Val) (h : HH) : Prop := ∃ n xs, w = .ref n ∧ h[n]? = some (.lst xs)
def sMtL (f : Val → List Val → M Val) (mo : SE) (ra : En → M (List Val)) : SE := fun ro => bind (mo ro) fun w h => match w with
  | .ref n => match h[n]? with
    | some (.lst _) => bind (ra ro) (fun ws => f (.ref n) ws) h
    | _ => .bad
  | _ => .bad
theorem tyV_own {K : PySem.W.Frag} {al B : List Addr} {H : Hp} {h : HH} {n : Nat} {xs : List Val} {v : V} (hr : HR K al B H h) (r : Rep K al B H (.ref n) v) (e : h[n]? = some (.lst xs)) : tyV K "list" v H := by
  cases r with
  | ref q =>
    cases hr.ob _ _ _ q e with
    | lst q _ s => exact .inl ⟨rfl, _, SqL.of q⟩
theorem oe_mtL {r : V → List V → Hp → VK → Prop} {f : Val → List Val → M Val} (slot : Slot "list" name id) (hty : typeOf (.builtin id) = pure (.type "method_descriptor")) (hm : MtR X id r)
    (lk : ∀ (W : WX) al B sg H h w v ws vs (Q : VK), HR X.K al B H h → Rep X.K al B H w v → Reps X.K al B H ws vs → Po X.K B (fun al H => Rep X.K al B H) sg al H (f w ws h) W Q → r v vs H Q)
    (ho : PE X o (tE X.K W mo)) (ha : PA X (e :: es) (tA X.K W ra))
    (hbase : attributeBase o name X.env (eval o X.env) = eval o X.env := by rfl)
    (hfew : ((backTo cpos (starEach (e :: es) X.env)).all (fun x => !x.1) && (backToKw cpos (keywordEach [] X.env)).all (fun x => x.1.isSome)
      && decide ((e :: es).length + ([] : List Keyword).length + (if ([] : List Keyword).isEmpty then 0 else 1) < 30)) = true := by rfl)
    (hline : (apos.endLine == cpos.line) = true := by rfl) (hs : starEach (e :: es) X.env = (false, eval e X.env) :: starEach es X.env := by rfl) (hplain : (backTo cpos (starEach es X.env)).any (·.1) = false := by rfl) :
    PE X (.Call (.Attribute o name apos) (e :: es) [] cpos) (tE X.K W (sMtL f mo ra)) := by
  refine PE.weak (pe_bm PySem.F.plainAttrs_list slot hty hm ho ha hbase hfew hline hs hplain) ?_
  rintro sg H Q ⟨al, B, ro, h, S, p⟩
  refine ⟨al, B, ro, h, S, Po.mono (Po.bind p) fun v H1 ⟨al1, h1, w, st, hr, r1, q⟩ => ?_⟩
  split at q
  · rename_i n
    split at q
    · rename_i xs e2
      refine ⟨tyV_own hr r1 e2, al1, B, ro, h1, S.step st hr, Po.mono (Po.bind q) fun vs H2 ⟨al2, h2, ws, st2, hr2, rs, q2⟩ => ?_⟩
      exact lk W al2 B sg H2 h2 _ v ws vs Q hr2 (r1.step st2) rs q2
    · exact q.elim
  · exact q.elim
theorem oe_mtL0 {r : V → List V → Hp → VK → Prop} {f : Val → List Val → M Val} (slot : Slot "list" name id) (hty : typeOf (.builtin id) = pure (.type "method_descriptor")) (hm : MtR X id r)
    (lk : ∀ (W : WX) al B sg H h w v ws vs (Q : VK), HR X.K al B H h → Rep X.K al B H w v → Reps X.K al B H ws vs → Po X.K B (fun al H => Rep X.K al B H) sg al H (f w ws h) W Q → r v vs H Q)
    (ho : PE X o (tE X.K W mo)) (hbase : attributeBase o name X.env (eval o X.env) = eval o X.env := by rfl) (hline : (apos.endLine == cpos.line) = true := by rfl) :
    PE X (.Call (.Attribute o name apos) [] [] cpos) (tE X.K W (sMtL f mo aNil)) := by
  refine PE.weak (pe_bm0 PySem.F.plainAttrs_list slot hty hm ho hbase hline) ?_
  rintro sg H Q ⟨al, B, ro, h, S, p⟩
  refine ⟨al, B, ro, h, S, Po.mono (Po.bind p) fun v H1 ⟨al1, h1, w, st, hr, r1, q⟩ => ?_⟩
  split at q
  · rename_i n
    split at q
    · rename_i xs e2
      exact ⟨tyV_own hr r1 e2, lk W al1 B sg H1 h1 _ v [] [] Q hr r1 .nil q⟩
    · exact q.elim
  · exact q.elim
/-- the own list at n becomes xs -/
def putL (n : Nat) (xs : List Val) (w : Val) : M Val := fun h => if xs.length ≤ sizeLine then .ok w (h.set n (.lst xs)) else .bad
theorem put_own {K : PySem.W.Frag} {al B : List Addr} {H : Hp} {h : HH} {n : Nat} {a : Addr} {xs : List Val} {vs : List V} {W : WX} {sg : L2.St} {Q : VK} {w : Val} {v : V} (hr : HR K al B H h) (e : al[n]? = some a) (r : Reps K al B H xs vs) (rw' : Rep K al B H w v)
    (p : Po K B (fun al H => Rep K al B H) sg al H (putL n xs w h) W Q) : Q v (upd H a (.lst vs)) := by
  unfold putL at p
  split at p
  · rename_i l
    have s : Stp al H al (upd H a (.lst vs)) := Stp.put (List.mem_of_getElem? e)
    exact p _ _ _ s (hr.put e (.lst upd_same l (r.step s))) (rw'.step s)
  · exact p.elim
def mApp (w : Val) (ws : List Val) : M Val := fun h => match w, ws with
  | .ref n, [y] => match h[n]? with
    | some (.lst xs) => putL n (xs ++ [y]) .non h
    | _ => .bad
  | _, _ => .bad
theorem lk_app {K : PySem.W.Frag} : ∀ (W : WX) al B sg H h w v ws vs (Q : VK), HR K al B H h → Rep K al B H w v → Reps K al B H ws vs → Po K B (fun al H => Rep K al B H) sg al H (mApp w ws h) W Q → rAppend v vs H Q := by
  intro W al B sg H h w v ws vs Q hr r rs p
  unfold mApp at p
  split at p
  · split at p
    · rename_i e
      obtain ⟨y, rfl, ry⟩ := rs.one
      cases r with
      | ref q =>
        cases hr.ob _ _ _ q e with
        | lst q2 l s =>
          refine ⟨_, _, _, rfl, rfl, q2, ?_, put_own hr q (s.append (.cons ry .nil)) .non p⟩
          unfold putL at p
          split at p
          · rename_i l2
            rw [List.length_append, List.length_singleton] at l2
            rw [← s.length]
            omega
          · exact p.elim
    · exact p.elim
  · exact p.elim
def mPop (w : Val) (ws : List Val) : M Val := fun h => match w, ws with
  | .ref n, [] => match h[n]? with
    | some (.lst xs) => match xs[xs.length - 1]? with
      | some y => putL n xs.dropLast y h
      | none => .bad
    | _ => .bad
  | _, _ => .bad
theorem Reps.dropLast {K : PySem.W.Frag} {al B : List Addr} {H : Hp} {xs : List Val} {vs : List V} (r : Reps K al B H xs vs) : Reps K al B H xs.dropLast vs.dropLast := by
  rw [List.dropLast_eq_take, List.dropLast_eq_take, ← r.length]
  exact r.take _
theorem lk_pop {K : PySem.W.Frag} : ∀ (W : WX) al B sg H h w v ws vs (Q : VK), HR K al B H h → Rep K al B H w v → Reps K al B H ws vs → Po K B (fun al H => Rep K al B H) sg al H (mPop w ws h) W Q → rPop v vs H Q := by
  intro W al B sg H h w v ws vs Q hr r rs p
  unfold mPop at p
  split at p
  · split at p
    · rename_i e
      split at p
      · rename_i e3
        cases rs
        cases r with
        | ref q =>
          cases hr.ob _ _ _ q e with
          | lst q2 l s =>
            obtain ⟨y, e4, ry⟩ := s.get e3
            rw [s.length] at e4
            exact ⟨_, _, _, rfl, rfl, q2, e4, put_own hr q s.dropLast ry p⟩
      · exact p.elim
    · exact p.elim
  · exact p.elim
def mPopAt (w : Val) (ws : List Val) : M Val := fun h => match w, ws with
  | .ref n, [.int i] => match h[n]? with
    | some (.lst xs) => if 0 ≤ i ∧ i < xs.length then match xs[i.toNat]? with
        | some y => putL n (xs.eraseIdx i.toNat) y h
        | none => .bad
      else .bad
    | _ => .bad
  | _, _ => .bad
theorem lk_popAt {K : PySem.W.Frag} : ∀ (W : WX) al B sg H h w v ws vs (Q : VK), HR K al B H h → Rep K al B H w v → Reps K al B H ws vs → Po K B (fun al H => Rep K al B H) sg al H (mPopAt w ws h) W Q → rPopAt v vs H Q := by
  intro W al B sg H h w v ws vs Q hr r rs p
  unfold mPopAt at p
  split at p
  · split at p
    · rename_i e
      split at p
      · rename_i c
        split at p
        · rename_i e3
          obtain ⟨z, rfl, rz⟩ := rs.one
          cases rz
          cases r with
          | ref q =>
            cases hr.ob _ _ _ q e with
            | lst q2 l s =>
              obtain ⟨y, e4, ry⟩ := s.get e3
              rw [s.length] at c
              have hs : sizeLine = 16777216 := sizeLine_eq
              rw [s.length] at l
              exact ⟨_, _, _, _, _, rfl, rfl, q2, by omega, by omega, seqIndex_of c.1 c.2, e4, put_own hr q (s.eraseIdx _) ry p⟩
        · exact p.elim
      · exact p.elim
    · exact p.elim
  · exact p.elim
/-! ### t.count(x) -/
def mCnt (w : Val) (ws : List Val) : M Val := fun h => match w, ws with
  | .tup xs, [y] => if flat y = true ∧ xs.all flat = true then .ok (.int ((xs.countP fun z => eqF z y : Nat) : Int)) h else .bad
  | _, _ => .bad
theorem cnt_rep {K : PySem.W.Frag} {al B : List Addr} {H : Hp} {w : Val} {v : V} (r : Rep K al B H w v) (f : flat w = true) : ∀ {xs : List Val} {vs : List V}, Reps K al B H xs vs → xs.all flat = true → (vs.countP fun z => eqV z v) = xs.countP fun z => eqF z w
  | _, _, .nil, _ => rfl
  | _, _, .cons a q, g => by
    rw [List.all_cons, Bool.and_eq_true] at g
    rw [List.countP_cons, List.countP_cons, eqF_rep a r g.1 f, cnt_rep r f q g.2]
def sMtT (f : Val → List Val → M Val) (mo : SE) (ra : En → M (List Val)) : SE := fun ro => bind (mo ro) fun w h => match w with
  | .tup xs => bind (ra ro) (fun ws => f (.tup xs) ws) h
  | _ => .bad
theorem oe_cnt (ho : PE X o (tE X.K W mo)) (ha : PA X [e] (tA X.K W ra))
    (hbase : attributeBase o "count" X.env (eval o X.env) = eval o X.env := by rfl)
    (hfew : ((backTo cpos (starEach [e] X.env)).all (fun x => !x.1) && (backToKw cpos (keywordEach [] X.env)).all (fun x => x.1.isSome)
      && decide (([e] : List Expr).length + ([] : List Keyword).length + (if ([] : List Keyword).isEmpty then 0 else 1) < 30)) = true := by rfl)
    (hline : (apos.endLine == cpos.line) = true := by rfl) (hs : starEach [e] X.env = (false, eval e X.env) :: starEach [] X.env := by rfl) (hplain : (backTo cpos (starEach [] X.env)).any (·.1) = false := by rfl) :
    PE X (.Call (.Attribute o "count" apos) [e] [] cpos) (tE X.K W (sMtT mCnt mo ra)) := by
  refine PE.weak (pe_cnt ho ha hbase hfew hline hs hplain) ?_
  rintro sg H Q ⟨al, B, ro, h, S, p⟩
  refine ⟨al, B, ro, h, S, Po.mono (Po.bind p) fun v H1 ⟨al1, h1, w, st, hr, r1, q⟩ => ?_⟩
  split at q
  · rename_i xs
    cases r1 with
    | tup a l s =>
      refine ⟨_, _, rfl, noD_of a, al1, B, ro, h1, S.step st hr, Po.mono (Po.bind q) fun vs H2 ⟨al2, h2, ws, st2, hr2, rs, q2⟩ => ?_⟩
      unfold mCnt at q2
      split at q2
      · rename_i e1
        cases e1
        obtain ⟨y, rfl, ry⟩ := rs.one
        split at q2
        · rename_i c
          refine ⟨y, rfl, sqT_of (a.imp (AtT.step st2) id), flat_rep ry c.1, flats_rep (s.step st2) c.2, ?_⟩
          rw [cnt_rep ry c.1 (s.step st2) c.2]
          exact Po.now q2 hr2 (.int _)
        · exact q2.elim
      · exact q2.elim
  · exact q.elim
/-! ### len(set(t)) -/
def txts : List Val → Option (List Str)
  | [] => some []
  | .str x :: xs => (txts xs).map (x :: ·)
  | _ :: _ => none
theorem txts_rep {K : PySem.W.Frag} {al B : List Addr} {H : Hp} : ∀ {xs : List Val} {vs : List V} {ys : List Str}, Reps K al B H xs vs → txts xs = some ys → vs = ys.map V.str
  | _, _, _, .nil, e => by cases e; rfl
  | _, _, _, .cons a r, e => by
    cases a with
    | str b =>
      unfold txts at e
      obtain ⟨cs, e2, rfl⟩ := Option.map_eq_some_iff.mp e
      rw [txts_rep r e2]
      rfl
    | _ => cases e
theorem txts_len : ∀ {xs : List Val} {ys : List Str}, txts xs = some ys → xs.length = ys.length
  | [], _, e => by cases e; rfl
  | .str x :: xs, _, e => by
    unfold txts at e
    obtain ⟨cs, e2, rfl⟩ := Option.map_eq_some_iff.mp e
    rw [List.length_cons, List.length_cons, txts_len e2]
  | .non :: _, _, e => by cases e
  | .bl _ :: _, _, e => by cases e
  | .int _ :: _, _, e => by cases e
  | .tup _ :: _, _, e => by cases e
  | .lst _ :: _, _, e => by cases e
  | .ref _ :: _, _, e => by cases e
  | .glo _ :: _, _, e => by cases e
  | .ty _ :: _, _, e => by cases e
  | .scr _ :: _, _, e => by cases e
  | .exn _ _ _ _ :: _, _, e => by cases e
def uLset (w : Val) : M Val := fun h => match w with
  | .tup xs => match txts xs with
    | some ys => if ys.length + 1 < scanBound then .ok (.int (ZS.dcnt ys : Nat)) h else .bad
    | none => .bad
  | _ => .bad
theorem oe_lset {a : Expr} {p p2 q : Pos} (hc : X.calm = true) (hg : Gl X "len") (hm : X.mg "len" = none) (hg2 : Gl X "set") (hm2 : X.mg "set" = none) (ha : PE X a (tE X.K W m))
    (na : starEach [a] X.env = (false, eval a X.env) :: starEach [] X.env := by rfl) : PE X (.Call (.Name "len" p) [.Call (.Name "set" p2) [a] [] q] [] pos) (tE X.K W (sUn uLset m)) := by
  refine PE.weak (pe_lenSets hc hg hm hg2 hm2 ha na) ?_
  rintro sg H Q ⟨al, B, ro, h, S, p⟩
  refine ⟨al, B, ro, h, S, Po.mono (Po.bind p) fun v H1 ⟨al1, h1, w, st, hr, r1, q⟩ => ?_⟩
  unfold uLset at q
  split at q
  · cases r1 with
    | tup a l s =>
      split at q
      · rename_i e
        split at q
        · rename_i c
          have := txts_rep s e
          subst this
          exact ⟨_, _, rfl, sqT_of a, c, Po.now q hr (.int _)⟩
        · exact q.elim
      · exact q.elim
  · exact q.elim
/-! ### o[i] = v, o an own list -/
def gSb (mo mi : SE) : GM := fun w ro h => match mo ro h with
  | .ok (.ref n) h1 => match mi ro h1 with
    | .ok (.int i) h2 => match h2[n]? with
      | some (.lst xs) => match ixN xs.length i with
        | some j => .go .nx ro (h2.set n (.lst (xs.set j w)))
        | none => .bad
      | _ => .bad
    | _ => .bad
  | _ => .bad
theorem og_sub {i : Expr} {mi : SE} (ho : PE X o (tE X.K W0 mo)) (hi : PE X i (tE X.K W0 mi))
    (ha : ∀ v, assign (.Subscript o i pos) X.env v = (do
      let ov ← holding [v] (eval o X.env)
      let iv ← holding [v, ov] (eval i X.env)
      standAt pos
      holding [v, ov, iv] (setItem ov iv v)
      release [v, ov, iv] []) := by intro _; rfl) : PG X (.Subscript o i pos) (tG X.K [] (gSb mo mi)) := by
  refine PG.weak (pg_sub ho hi set_list ha) ?_
  rintro v sg H Q ⟨al, B, ro, h, w, S, r, p⟩
  unfold gSb at p
  refine ⟨al, B, ro, h, S, ?_⟩
  cases e1 : mo ro h with
  | bad => rw [e1] at p; exact p.elim
  | ex _ _ => rw [e1] at p; exact p.elim
  | ok w1 h1 =>
    rw [e1] at p
    split at p
    · rename_i n _ e2
      cases e2
      intro al1 H1 v1 st1 hr1 r1
      refine ⟨al1, B, ro, h1, S.step st1 hr1, ?_⟩
      cases e3 : mi ro h1 with
      | bad => rw [e3] at p; exact p.elim
      | ex _ _ => rw [e3] at p; exact p.elim
      | ok w2 h2 =>
        rw [e3] at p
        split at p
        · rename_i i _ e4
          cases e4
          intro al2 H2 v2 st2 hr2 r2
          split at p
          · rename_i xs e5
            split at p
            · rename_i j e6
              cases r2
              have r1' := r1.step st2
              cases r1' with
              | @ref _ a q =>
                cases hr2.ob _ _ _ q e5 with
                | @lst _ _ vs q2 l s =>
                  have sp : Stp al2 H2 al2 (upd H2 a (.lst (vs.set j v))) := Stp.put (List.mem_of_getElem? q)
                  have rv := (r.step st1).step st2
                  refine ⟨a, vs, _, j, rfl, rfl, q2, by rw [← s.length]; exact e6, ?_⟩
                  have hr3 : HR X.K al2 B (upd H2 a (.lst (vs.set j v))) (h2.set n (.lst (xs.set j w))) := hr2.put q (.lst upd_same (by rw [List.length_set]; exact l) ((s.set rv j).step sp))
                  have st3 := (st1.trans st2).trans sp
                  exact p al2 sg _ st3 (S.step st3 hr3) ⟨rfl, fun _ _ => rfl⟩
            · exact p.elim
          · exact p.elim
        · exact p.elim
    · exact p.elim
/-! ### a op1 b op2 c -/
def sCh (f g : Val → Val → M Val) (m1 m2 m3 : SE) : SE := fun ro => bind (m1 ro) fun a => bind (m2 ro) fun b => bind (f a b) fun z => match z with
  | .bl true => bind (m3 ro) fun c => g b c
  | .bl false => ret (.bl false)
  | _ => fail
theorem tE_ch {K : PySem.W.Frag} {f g : Val → Val → M Val} {r r' : R2} {m1 m2 m3 : SE} (lk : Lk2 K f r) (lk' : Lk2 K g r') (sg : L2.St) (H : Hp) (Q : VK) (p : tE K W (sCh f g m1 m2 m3) sg H Q) : tChain r r' (tE K W m1) (tE K W m2) (tE K W m3) sg H Q := by
  obtain ⟨al, B, ro, h, S, p⟩ := p
  refine ⟨al, B, ro, h, S, Po.mono (Po.bind p) fun v1 H1 ⟨al1, h1, w1, st1, hr1, r1, p1⟩ => ?_⟩
  refine ⟨al1, B, ro, h1, S.step st1 hr1, Po.mono (Po.bind p1) fun v2 H2 ⟨al2, h2, w2, st2, hr2, r2, p2⟩ => ?_⟩
  refine lk W al2 B sg H2 h2 w1 w2 v1 v2 _ hr2 (r1.step st2) r2 (Po.mono (Po.bind p2) fun v3 H3 ⟨al3, h3, w3, st3, hr3, r3, p3⟩ => ?_)
  split at p3
  · cases r3
    refine ⟨true, rfl, ?_⟩
    rw [if_pos rfl]
    refine ⟨al3, B, ro, h3, ((S.step st1 hr1).step st2 hr2).step st3 hr3, Po.mono (Po.bind p3) fun v4 H4 ⟨al4, h4, w4, st4, hr4, r4, p4⟩ => ?_⟩
    exact lk' W al4 B sg H4 h4 w2 w4 v2 v4 Q hr4 ((r2.step st3).step st4) r4 p4
  · cases r3
    refine ⟨false, rfl, ?_⟩
    rw [if_neg Bool.false_ne_true]
    exact Po.now p3 hr3 (.bl _)
  · exact p3.elim
theorem oe_ch {a b c : Expr} {m1 m2 m3 : SE} {op op' : CmpOp} {f g : Val → Val → M Val} {r r' : R2} (ho : OpR X (compareOp op) r) (lk : Lk2 X.K f r) (ho' : OpR X (compareOp op') r') (lk' : Lk2 X.K g r') (ha : PE X a (tE X.K W m1)) (hb : PE X b (tE X.K W m2)) (hc : PE X c (tE X.K W m3))
    (hm : lastMarks [op, op'] [b, c] = false) : PE X (.Compare a [op, op'] [b, c] pos) (tE X.K W (sCh f g m1 m2 m3)) := PE.weak (pe_chain ho ho' ha hb hc hm) (tE_ch lk lk')
def asT (m : SE) : En → M Bool := fun ro => bind (m ro) fun w => match w with
  | .bl b => ret b
  | _ => fail
theorem tT_as {K : PySem.W.Frag} {t : TE} {m : SE} (h : ∀ sg H Q, tE K W m sg H Q → t sg H Q) (sg : L2.St) (H : Hp) (Q : Bool → Hp → Prop) (p : tT K W (asT m) sg H Q) : tTest t sg H Q := by
  obtain ⟨al, B, ro, h', S, p⟩ := p
  refine h sg H _ ⟨al, B, ro, h', S, Po.mono (Po.bind p) fun v1 H1 ⟨al1, h1, w1, st1, hr1, r1, p1⟩ => ?_⟩
  cases r1 <;> first | exact p1.elim | exact ⟨_, rfl, Po.now p1 hr1 rfl⟩
theorem ot_ch {a b c : Expr} {m1 m2 m3 : SE} {op op' : CmpOp} {f g : Val → Val → M Val} {r r' : R2} (ho : OpR X (compareOp op) r) (lk : Lk2 X.K f r) (ho' : OpR X (compareOp op') r') (lk' : Lk2 X.K g r') (ha : PE X a (tE X.K W m1)) (hb : PE X b (tE X.K W m2)) (hc : PE X c (tE X.K W m3))
    (hm : lastMarks [op, op'] [b, c] = false) : PT X (.Compare a [op, op'] [b, c] pos) (tT X.K W (asT (sCh f g m1 m2 m3))) := PT.weak (pt_chain ho ho' ha hb hc hm) (tT_as (tE_ch lk lk'))
end
end Z
set_option Elab.async false
set_option maxRecDepth 100000
set_option linter.unusedVariables false
/-! Z8: raise, try, comprehensions with two sources, own defs. -/
namespace Z
open PySem PySem.Spec PyProof.Rows L2
/-! ### raise, try -/
def nRaise (e : Ex) : SS := fun ro h => .go (.ex e) ro h
def nTry (mb : SS) (tb : Value → Option Bool) (ms : SS) : SS := fun ro h => match mb ro h with
  | .go (.ex e) ro1 h1 => match tb e.cls with
    | some true => match ms ro1 h1 with
      | .go (.ex _) _ _ => .bad
      | o => o
    | some false => .go (.ex e) ro1 h1
    | none => .bad
  | o => o
section
variable {X : Cx} {W : WX} {pos : Pos}
theorem os_raise {ex : Expr} {C : Addr} (hc : X.calm = true) (tk : Takes X W) (mk : PMk X ex (fun _ H Q => Q (.ref C) none H)) : PS X (.Raise (some ex) none pos) (tS X.K W (nRaise ⟨.ref C, []⟩)) := by
  refine PS.weak (ps_raise hc tk mk) ?_
  rintro D sg H ⟨al, B, ro, h, S, p⟩
  exact p al sg H (Stp.refl _ _) S _ _ ⟨rfl, fun _ => rfl, fun z => absurd rfl z⟩
theorem os_try {x : Str} {c : Value} {body suite : List Stmt} {b₀ : Stmt} {np pos' : Pos} {mb ms : SS} {tb : Value → Option Bool} (hs : X.stack = X.env :: X.outer) (hf : X.env.frame = some X.env.locals) (hc : Names X x c) (tk : Takes X W)
    (hb : ∀ (W : WX) (pn : List (Addr × Obj)) (xe : Value → Shared → Prop), Takes (X.tr pn xe) W → PassesOwn (model X.prog X.w) X.A X.env xe → PSs (X.tr pn xe) body (tS X.K W mb))
    (hsu : ∀ (a : Addr) (oe : Obj) (cls : Value) (d : Option Addr) (pn : List (Addr × Obj)), Zc cls d oe → (∃ vs, oe.data = .fields vs) → PSs (X.suite a ((a, oe) :: pn)) (b₀ :: suite) (tS X.K W0 ms))
    (ht : ∀ v b, tb v = some b → PySem.W.exmOne X.K v c = some b) :
    PS X (.Try body [.ExceptHandler (some (.Name x np)) none (b₀ :: suite) pos'] [] [] pos) (tS X.K W (nTry mb tb ms)) := by
  refine PS.weak (ps_try_only hs hf hc tk hb hsu) ?_
  rintro D sg H ⟨al, B, ro, h, S, p⟩
  refine ⟨al, B, ro, h, S, ?_⟩
  unfold nTry at p
  cases e1 : mb ro h with
  | bad => rw [e1] at p; exact p.elim
  | go f ro1 h1 =>
    rw [e1] at p
    intro al' sg' H' st S'
    cases f with
    | nx => exact p al' sg' H' st S'
    | brk => exact p al' sg' H' st S'
    | ct => exact p al' sg' H' st S'
    | ret w => exact p al' sg' H' st S'
    | ex e =>
      intro cls d er
      dsimp only at p
      cases e2 : tb e.cls with
      | none => rw [e2] at p; exact p.elim
      | some b =>
        rw [e2] at p
        have hcls : cls = e.cls := er.1
        refine ⟨b, ht _ _ (by rw [hcls]; exact e2), fun q a ha => ?_, fun q => ?_⟩
        · subst q
          refine ⟨al', B, ro1, h1, S', ?_⟩
          dsimp only at p
          cases e3 : ms ro1 h1 with
          | bad => rw [e3] at p; exact p.elim
          | go f3 ro3 h3 =>
            rw [e3] at p
            cases f3 with
            | ex _ => exact p.elim
            | nx => exact Ps.step (o := .go .nx ro3 h3) p st
            | brk => exact Ps.step (o := .go .brk ro3 h3) p st
            | ct => exact Ps.step (o := .go .ct ro3 h3) p st
            | ret w => exact Ps.step (o := .go (.ret w) ro3 h3) p st
        · subst q
          exact p al' sg' H' st S' cls d er
end
/-! ### [e for a in s if t for b in s2 if t2] -/
def lc2 (g : GM) (t : En → M Bool) (mi : SI) (g1 : GM) (t1 : En → M Bool) (m : SE) (vs1 : List Nat) (ro : En) (x : Itm) : Nat → Nat → List Val → M (List Val)
  | 0, i, acc, h => match nxt x i h with
    | some none => .ok acc h
    | _ => .bad
  | k + 1, i, acc, h => match nxt x i h with
    | none => .bad
    | some none => .ok acc h
    | some (some w) => match g w ro h with
      | .go .nx ro1 h1 => match t ro1 h1 with
        | .ok b h2 => if b = true then match mi ro1 h2 with
            | .ok p h3 => if acc.length + p.2 ≤ sizeLine then match lcTurns g1 t1 m (wipeN ro1 vs1) p.1 p.2 0 acc h3 with
                | .ok acc' h4 => lc2 g t mi g1 t1 m vs1 ro x k (i + 1) acc' h4
                | _ => .bad
              else .bad
            | _ => .bad
          else lc2 g t mi g1 t1 m vs1 ro x k (i + 1) acc h2
        | _ => .bad
      | _ => .bad
def sLc2 (mi : SI) (g : GM) (t : En → M Bool) (mi1 : SI) (g1 : GM) (t1 : En → M Bool) (m : SE) (own vs1 : List Nat) : SE := fun ro => bind (mi ro) fun x => bind (lc2 g t mi1 g1 t1 m vs1 (wipeN ro own) x.1 x.2 0 []) fun ys => ret (.lst ys)
theorem tE_lc2 {K : PySem.W.Frag} {W : WX} {mi mi1 : SI} {g g1 : GM} {sl sl1 : List Nat} {t t1 : En → M Bool} {m : SE} {own vs1 : List Nat} (hsl : ∀ i ∈ sl, i ∈ own) (hsl1 : ∀ i ∈ sl1, i ∈ vs1) (sg : L2.St) (H : Hp) (Q : VK) (p : tE K W (sLc2 mi g t mi1 g1 t1 m own vs1) sg H Q) :
    tLc2 (tI K W mi) (tG K sl g) (tT K W0 t) (tI K W0 mi1) (tG K sl1 g1) (tT K W0 t1) (tE K W0 m) own vs1 sg H Q := by
  obtain ⟨al, B, ro, h, S, p⟩ := p
  refine ⟨al, B, ro, h, S, Po.mono (Po.bind p) fun J H1 ⟨al1, h1, ⟨x, n⟩, st, hr, ⟨it, hlen⟩, q⟩ => ?_⟩
  dsimp only at it q hlen
  intro D hD
  have S1 := (S.step st hr).wiped own
  have hDB : ∀ b ∈ D :: B, b ∈ B ∨ H1 b = none := fun b hb => by
    rcases List.mem_cons.mp hb with e | e
    · exact .inr (e ▸ hD)
    · exact .inl e
  have key : ∀ acc accV al2 H2 h2, Po K B (fun al H => Rep K al B H) sg al1 H1 (obind (.ok acc h2) fun ys => ret (.lst ys)) W Q → acc.length ≤ sizeLine → Stp al1 H1 al2 H2 → HR K al2 (D :: B) H2 h2 → H2 D = some (.lst accV) → Reps K al2 (D :: B) H2 acc accV → Q (.ref D) H2 := by
    intro acc accV al2 H2 h2 q l s2 hr2 d2 r2
    refine q al2 H2 (.ref D) s2 hr2.less (.lst ⟨d2, fun z => hr2.apart D (List.mem_cons_self) z, fun z => ?_⟩ l r2.less)
    exact (hr.fresh hD).2 z
  refine ⟨fun i k H2 => ∃ al2 h2 acc accV, Stp al1 H1 al2 H2 ∧ HR K al2 (D :: B) H2 h2 ∧ H2 D = some (.lst accV) ∧ Reps K al2 (D :: B) H2 acc accV ∧ acc.length ≤ sizeLine ∧
    Po K B (fun al H => Rep K al B H) sg al1 H1 (obind (lc2 g t mi1 g1 t1 m vs1 (wipeN ro own) x k i acc h2) fun ys => ret (.lst ys)) W Q, ⟨n, al1, h1, [], [], Stp.lay hD, hr.grow hD, upd_same, .nil, Nat.zero_le _, q⟩, ?_⟩
  rintro i k H2 ⟨al2, h2, acc, accV, st2, hr2, d2, r2, hl, q2⟩
  obtain ⟨i1, i2⟩ := it al2 (D :: B) H2 h2 st2.toB hDB hr2 i
  cases e0 : nxt x i h2 with
  | none => cases k <;> (unfold lc2 at q2; rw [e0] at q2; exact q2.elim)
  | some o =>
  cases o with
  | none =>
    refine .inl ⟨i1 e0, ?_⟩
    cases k with
    | zero => unfold lc2 at q2; rw [e0] at q2; exact key acc accV al2 H2 h2 q2 hl st2 hr2 d2 r2
    | succ k => unfold lc2 at q2; rw [e0] at q2; exact key acc accV al2 H2 h2 q2 hl st2 hr2 d2 r2
  | some w =>
    obtain ⟨g1', g2⟩ := i2 w e0
    cases k with
    | zero => unfold lc2 at q2; rw [e0] at q2; exact q2.elim
    | succ k =>
    unfold lc2 at q2
    rw [e0] at q2
    refine .inr ⟨g1', fun H3 => ∃ al3 h3 acc accV, Stp al1 H1 al3 H3 ∧ HR K al3 (D :: B) H3 h3 ∧ H3 D = some (.lst accV) ∧ Reps K al3 (D :: B) H3 acc accV ∧ acc.length ≤ sizeLine ∧
      Po K B (fun al H => Rep K al B H) sg al1 H1 (obind (lc2 g t mi1 g1 t1 m vs1 (wipeN ro own) x k (i + 1) acc h3) fun ys => ret (.lst ys)) W Q, fun H3 ⟨al3, h3, acc, accV, a, b, c, d, e, f⟩ => ⟨k, by omega, al3, h3, acc, accV, a, b, c, d, e, f⟩, fun y H3 yy => ?_⟩
    obtain ⟨s3, hr3, r3⟩ := g2 y H3 yy
    have st3 := st2.trans s3
    have d3 : H3 D = some (.lst accV) := s3.keep _ _ d2 (hr2.apart D List.mem_cons_self)
    refine ⟨al2, D :: B, wipeN ro own, h2, w, S1.stepB st3.toB hDB hr3, r3, ?_⟩
    dsimp only at q2
    cases e : g w (wipeN ro own) h2 with
    | bad => rw [e] at q2; exact q2.elim
    | go f ro4 h4 =>
      rw [e] at q2
      cases f with
      | nx =>
        intro al4 sg4 H4 st4 S4 ⟨hl4, f4⟩
        have d4 : H4 D = some (.lst accV) := st4.keep _ _ d3 (hr3.apart D List.mem_cons_self)
        refine ⟨(wipe_same hl4 fun i hi => f4 i fun z => hi (hsl i z)).trans wipe_wipe, ?_⟩
        refine ⟨al4, D :: B, ro4, h4, S4, ?_⟩
        dsimp only at q2
        cases e2 : t ro4 h4 with
        | bad => rw [e2] at q2; exact q2.elim
        | ex _ _ => rw [e2] at q2; exact q2.elim
        | ok b h5 =>
          rw [e2] at q2
          intro al5 H5 v5 st5 hr5 eb
          subst eb
          have d5 : H5 D = some (.lst accV) := st5.keep _ _ d4 (S4.hr.apart D List.mem_cons_self)
          have st15 := (st3.trans st4).trans st5
          have r5 := r2.step ((s3.trans st4).trans st5)
          cases b with
          | false => exact ⟨al5, h5, acc, accV, st15, hr5, d5, r5, hl, q2⟩
          | true =>
            rw [if_pos rfl]
            have S5 := S4.step st5 hr5
            refine ⟨al5, D :: B, ro4, h5, S5, ?_⟩
            dsimp only at q2
            rw [if_pos rfl] at q2
            cases e3 : mi1 ro4 h5 with
            | bad => rw [e3] at q2; exact q2.elim
            | ex _ _ => rw [e3] at q2; exact q2.elim
            | ok pr h6 =>
            obtain ⟨x1, n1⟩ := pr
            rw [e3] at q2
            intro al6 H6 J1 st6 hr6 ⟨it1, hlen1⟩
            dsimp only at it1 hlen1 q2
            split at q2
            case isFalse => exact q2.elim
            rename_i hl6
            have d6 : H6 D = some (.lst accV) := st6.keep _ _ d5 (hr5.apart D List.mem_cons_self)
            have st16 := st15.trans st6
            have r6 := r5.step st6
            have S6 := (S5.step st6 hr6).wiped vs1
            -- the inner loop
            refine ⟨fun j k1 H7 => ∃ al7 h7 acc7 accV7, Stp al1 H1 al7 H7 ∧ StpB (D :: B) al6 H6 al7 H7 ∧ HR K al7 (D :: B) H7 h7 ∧ H7 D = some (.lst accV7) ∧ Reps K al7 (D :: B) H7 acc7 accV7 ∧ acc7.length + k1 ≤ sizeLine ∧
              Po K B (fun al H => Rep K al B H) sg al1 H1 (obind (match lcTurns g1 t1 m (wipeN ro4 vs1) x1 k1 j acc7 h7 with
                | .ok acc' h4 => lc2 g t mi1 g1 t1 m vs1 (wipeN ro own) x k (i + 1) acc' h4
                | _ => .bad) fun ys => ret (.lst ys)) W Q, ⟨n1, al6, h6, acc, accV, st16, (Stp.refl _ _).toB, hr6, d6, r6, hl6, q2⟩, ?_⟩
            rintro j k1 H7 ⟨al7, h7, acc7, accV7, st7, sb7, hr7, d7, r7, hl7, q7⟩
            obtain ⟨j1, j2⟩ := it1 al7 (D :: B) H7 h7 sb7 (fun b hb => .inl hb) hr7 j
            cases e7 : nxt x1 j h7 with
            | none => cases k1 <;> (unfold lcTurns at q7; rw [e7] at q7; exact q7.elim)
            | some o7 =>
            cases o7 with
            | none =>
              refine .inl ⟨j1 e7, al7, h7, acc7, accV7, st7, hr7, d7, r7, by omega, ?_⟩
              cases k1 <;> (unfold lcTurns at q7; rw [e7] at q7; exact q7)
            | some w7 =>
              obtain ⟨go7, y7⟩ := j2 w7 e7
              cases k1 with
              | zero => unfold lcTurns at q7; rw [e7] at q7; exact q7.elim
              | succ k1 =>
              unfold lcTurns at q7
              rw [e7] at q7
              refine .inr ⟨go7, fun H8 => ∃ al7 h7 acc7 accV7, Stp al1 H1 al7 H8 ∧ StpB (D :: B) al6 H6 al7 H8 ∧ HR K al7 (D :: B) H8 h7 ∧ H8 D = some (.lst accV7) ∧ Reps K al7 (D :: B) H8 acc7 accV7 ∧ acc7.length + k1 ≤ sizeLine ∧
                Po K B (fun al H => Rep K al B H) sg al1 H1 (obind (match lcTurns g1 t1 m (wipeN ro4 vs1) x1 k1 (j + 1) acc7 h7 with
                  | .ok acc' h4 => lc2 g t mi1 g1 t1 m vs1 (wipeN ro own) x k (i + 1) acc' h4
                  | _ => .bad) fun ys => ret (.lst ys)) W Q, fun H8 ⟨al8, h8, acc8, accV8, a, b, c, d, e, f, g⟩ => ⟨k1, by omega, al8, h8, acc8, accV8, a, b, c, d, e, f, g⟩, fun y8 H8 yy8 => ?_⟩
              obtain ⟨s8, hr8, r8⟩ := y7 y8 H8 yy8
              have st8 := st7.trans s8
              have sb8 := sb7.trans s8.toB
              have d8 : H8 D = some (.lst accV7) := s8.keep _ _ d7 (hr7.apart D List.mem_cons_self)
              refine ⟨al7, D :: B, wipeN ro4 vs1, h7, w7, S6.stepB sb8 (fun b hb => .inl hb) hr8, r8, ?_⟩
              dsimp only at q7
              cases e9 : g1 w7 (wipeN ro4 vs1) h7 with
              | bad => rw [e9] at q7; exact q7.elim
              | go f9 ro9 h9 =>
                rw [e9] at q7
                cases f9 with
                | nx =>
                  intro al9 sg9 H9 st9 S9 ⟨hl9, f9⟩
                  have d9 : H9 D = some (.lst accV7) := st9.keep _ _ d8 (hr8.apart D List.mem_cons_self)
                  refine ⟨(wipe_same hl9 fun i hi => f9 i fun z => hi (hsl1 i z)).trans wipe_wipe, ?_⟩
                  refine ⟨al9, D :: B, ro9, h9, S9, ?_⟩
                  dsimp only at q7
                  cases e10 : t1 ro9 h9 with
                  | bad => rw [e10] at q7; exact q7.elim
                  | ex _ _ => rw [e10] at q7; exact q7.elim
                  | ok b10 h10 =>
                    rw [e10] at q7
                    intro al10 H10 v10 st10 hr10 eb
                    subst eb
                    have d10 : H10 D = some (.lst accV7) := st10.keep _ _ d9 (S9.hr.apart D List.mem_cons_self)
                    have s810 := (s8.trans st9).trans st10
                    have r10 := r7.step s810
                    have st110 := st7.trans s810
                    have sb610 := sb7.trans s810.toB
                    cases b10 with
                    | false => exact ⟨al10, h10, acc7, accV7, st110, sb610, hr10, d10, r10, by omega, q7⟩
                    | true =>
                      rw [if_pos rfl]
                      refine ⟨al10, D :: B, ro9, h10, S9.step st10 hr10, ?_⟩
                      dsimp only at q7
                      rw [if_pos rfl] at q7
                      cases e11 : m ro9 h10 with
                      | bad => rw [e11] at q7; exact q7.elim
                      | ex _ _ => rw [e11] at q7; exact q7.elim
                      | ok y11 h11 =>
                        rw [e11] at q7
                        intro al11 H11 v11 st11 hr11 r11
                        have d11 : H11 D = some (.lst accV7) := st11.keep _ _ d10 (hr10.apart D List.mem_cons_self)
                        exact ⟨accV7, d11, by rw [← r7.length]; omega, al11, h11, acc7 ++ [y11], accV7 ++ [v11], (st110.trans st11).turn hD (by rw [d11]; simp), (sb610.trans st11.toB).turn List.mem_cons_self, hr11.turn List.mem_cons_self, upd_same, ((r10.step st11).turn List.mem_cons_self).append (.cons (r11.turn List.mem_cons_self) .nil), by simp; omega, q7⟩
                | _ => exact q7.elim
      | _ => exact q2.elim
end Z
set_option Elab.async false
set_option maxRecDepth 100000
set_option linter.unusedVariables false
/-! Z9: own defs, their calls, the end. -/
namespace Z
open PySem PySem.Spec PyProof.Rows L2
/-- a def's body, run -/
def outOf : SO → Out Val
  | .go .nx _ h => .ok .non h
  | .go (.ret w) _ h => .ok w h
  | .go (.ex e) _ h => .ex e h
  | _ => .bad
def runB (n : Nat) (m : SS) (ws : List Val) : M Val := fun h => outOf (m (ws.map some ++ List.replicate (n - ws.length) none) h)
theorem sim_start {K : PySem.W.Frag} {al B : List Addr} {H : Hp} {h : HH} {ws : List Val} {vs : List V} {N : List Str} (hr : HR K al B H h) (r : Reps K al B H ws vs) : Sim K al B (ws.map some ++ List.replicate (N.length - ws.length) none) h (L2.start N vs) H := by
  refine ⟨hr, by simp [L2.start, r.length], fun i w e => ?_⟩
  by_cases l : i < ws.length
  · rw [List.getElem?_append_left (by simpa using l), List.getElem?_map] at e
    obtain ⟨w', e1, e2⟩ := Option.map_eq_some_iff.mp e
    cases e2
    obtain ⟨v, e3, rv⟩ := r.get e1
    refine ⟨v, ?_, rv⟩
    show (vs.map some ++ _)[i]? = _
    rw [List.getElem?_append_left (by rw [List.length_map, ← r.length]; exact l), List.getElem?_map, e3]
    rfl
  · rw [List.getElem?_append_right (by simpa using l)] at e
    obtain ⟨_, e2⟩ := List.mem_replicate.mp (List.mem_of_getElem? e)
    cases e2
theorem ps_run {K : PySem.W.Frag} {B al : List Addr} {H : Hp} {o : SO} {W : WX} {Q : VK} {sg : L2.St} (p : Po K B (fun al H => Rep K al B H) sg al H (outOf o) W Q) (hW : ∀ cls d s s' H, W cls d s H → W cls d s' H) : Ps K B al H o W { nx := fun _ H' => Q .non H', rt := Q } := by
  cases o with
  | bad => exact p
  | go f ro h =>
    cases f with
    | nx => exact fun a b c d S => p a c _ d S.hr .non
    | ret w => exact fun a b c d S v r => p a c v d S.hr r
    | ex e => exact fun a b c d S cls dd er => hW _ _ _ _ _ (p a c cls dd d S.hr er)
    | brk => exact p.elim
    | ct => exact p.elim
section
variable {P : Program} {w : World} {K : PySem.W.Frag} {mg : Str → Option Value} {base : Heap}
theorem fn_ok {x qual : Str} {st : Stmt} {f : Addr} {fd : FuncData} {N ps : List Str} {k n : Nat} {m : SS} (F : Fun K x qual st f fd) (S : FnScope N ps (defScope st)) (hn : N.length = n)
    (hb : ∀ (cdv : Value) (A : Around) (outer : List Env) (s : Shared) (H : Hp) (E : XK), RmG k (A.deeper (envOfC qual (defScope st) s.heap.objs.size f cdv)) →
      PSs (cxOf (L2.CX P w) P w K mg base N qual (defScope st) f cdv A outer s H E) (defBody st) (tS K (fun cls d _ H => E cls d H) m)) : FnG P w K mg base (L2.CX P w) (k + 1) f fd ps (spF K ps.length (runB n m)) := by
  subst hn
  refine funG F S (fun vs H Q E ⟨al, B, h, ws, hr, r, l, p⟩ => r.length.symm.trans l) fun cdv A outer s H vs Q E hr h => ⟨_, hb cdv A outer s H E hr, ?_⟩
  obtain ⟨al, B, hh, ws, hr2, r, l, p⟩ := h
  exact ⟨al, B, _, hh, sim_start hr2 r, ps_run p fun _ _ _ _ _ z => z⟩
theorem fn_okD {x qual : Str} {params : Arguments} {body : List Stmt} {scope : Scope} {dvs : List V} {kws : List (Str × V)} {f : Addr} {fd : FuncData} {N ps : List Str} {k n : Nat} {m : SS} (F : FunD K x qual params body scope dvs kws f fd) (S : FnScope N ps scope) (hn : N.length = n)
    (hb : ∀ (cdv : Value) (A : Around) (outer : List Env) (s : Shared) (H : Hp) (E : XK), RmG k (A.deeper (envOfC qual scope s.heap.objs.size f cdv)) →
      PSs (cxOf (L2.CX P w) P w K mg base N qual scope f cdv A outer s H E) body (tS K (fun cls d _ H => E cls d H) m)) : FnG P w K mg base (L2.CX P w) (k + 1) f fd ps (spF K ps.length (runB n m)) := by
  subst hn
  refine funDG F S (fun vs H Q E ⟨al, B, h, ws, hr, r, l, p⟩ => r.length.symm.trans l) fun cdv A outer s H vs Q E hr h => ⟨_, hb cdv A outer s H E hr, ?_⟩
  obtain ⟨al, B, hh, ws, hr2, r, l, p⟩ := h
  exact ⟨al, B, _, hh, sim_start hr2 r, ps_run p fun _ _ _ _ _ z => z⟩
/-- law itself -/
def spLaw (K : PySem.W.Frag) : Sp := fun vs H Q _ => ∃ (a : Addr) (ns : List Int), vs = [.ref a] ∧ SqL K H a (ns.map V.int) ∧ ns.length ≤ 63 ∧ (∀ z ∈ ns, Builtin.Int.intBits z ≤ 1048576) ∧ ∀ H', Q (.bl true) H'
theorem law_ok {x qual : Str} {st : Stmt} {f : Addr} {fd : FuncData} {N : List Str} {y : Str} {k n : Nat} {m : SS} (F : Fun K x qual st f fd) (S : FnScope N [y] (defScope st)) (hn : N.length = n)
    (hb : ∀ (cdv : Value) (A : Around) (outer : List Env) (s : Shared) (H : Hp) (E : XK), RmG k (A.deeper (envOfC qual (defScope st) s.heap.objs.size f cdv)) →
      PSs (cxOf CX0 P w K mg base N qual (defScope st) f cdv A outer s H E).nox (defBody st) (tS K W0 m))
    (hl : ∀ ns : List Int, ns.length ≤ 63 → (∀ z ∈ ns, Builtin.Int.intBits z ≤ 1048576) → ∃ h, runB n m [.scr ns] [] = .ok (.bl true) h) : FnG P w K mg base CX0 (k + 1) f fd [y] (spLaw K) := by
  subst hn
  refine funG0 F S (fun vs H Q E ⟨a, ns, e, _⟩ => by rw [e]; rfl) fun cdv A outer s H vs Q E hr h => ⟨_, hb cdv A outer s H E hr, ?_⟩
  obtain ⟨a, ns, rfl, sq, l, hbits, q⟩ := h
  have hr0 : HR K [] [] H [] := ⟨.nil, rfl, fun n a o e => by simp at e, fun a e => by simp at e, fun a e => by simp at e⟩
  have r0 : Rep K [] [] H (.scr ns) (.ref a) := by
    refine .scr ?_ (Nat.le_trans l (by decide))
    rcases sq with sq | sq
    · exact .inl ⟨sq, by simp, by simp⟩
    · exact .inr sq
  have S0 := sim_start (N := N) hr0 (.cons r0 .nil)
  refine ⟨[], [], _, [], S0, ps_run (sg := []) (Q := Q) ?_ fun _ _ _ _ _ z => z⟩
  obtain ⟨h', e⟩ := hl ns l hbits
  have e' : outOf (m ([Val.scr ns].map some ++ List.replicate (N.length - [Val.scr ns].length) none) []) = .ok (.bl true) h' := e
  rw [e']
  intro al' H' v _ _ rv
  cases rv
  exact q H'
theorem walk {l : PySem.W.OpenLaw} {q : Program} {loose : List Str} {XP : (Str → Option Value) → Heap → Prop} {YP : World → Heap → Prop} {d : DefRec} {K : Params → PySem.W.Frag} {x : Str} {k : Nat} (hn : l.most = some 63) (hdf : d.params.defaults = []) (hr : RmG k callerA)
    (hY : ∀ (w : World) (h : Heap), YP w h → (K w.params).In h)
    (F : ∀ (w : World) (mg : Str → Option Value) (fa : Addr) (h : Heap), (K w.params).In h → h.Ns mainGlobals mg → mg d.name = some (.ref fa) →
      ∃ fd : FuncData, (∀ (s : Shared) (u : Value), BindsTo s fd ⟨[u], []⟩ [(x, u)]) ∧ ∀ base : Heap, (K w.params).In base → base.Ns mainGlobals mg → FnG l.prog w (K w.params) mg base CX0 k fa fd [x] (spLaw (K w.params))) :
    PySem.W.WalkO q loose XP YP l.row.toRowW d [] (fun f vs => PySem.call f vs) :=
  walk_ofG (n := 63) (k := k) (x := x) (CX := fun _ => CX0) (sp := fun w => spLaw (K w.params)) hn (by decide) hdf hr hY F (fun _ _ a ns hl hb hS => ⟨a, ns, rfl, hS, hl, hb, fun _ => rfl⟩) fun _ _ _ _ _ z => z
end
/-! ### how arguments come -/
section
variable {K : PySem.W.Frag} {x qual : Str} {params : Arguments} {body : List Stmt} {scope : Scope} {kws : List (Str × V)} {f : Addr} {fd : FuncData} {ps : List Str}
theorem kbz_pos (b : Binds K fd ps []) : KBz K fd ps ps.length [] (fun ws _ => ws) := by
  refine ⟨fun us _ => us, fun vs _ => vs, ⟨fun s us ws X l1 l2 => ?_, fun r _ => r⟩, fun _ _ _ _ _ _ _ r _ => r⟩
  have q := b s us X (by rw [List.append_nil]; exact l1)
  rw [List.append_nil] at q
  exact q
/-- keyword-only parameters: ms lack, the others are written -/
theorem kbz_kw (F : FunD K x qual params body scope [] kws f fd) (n : Nat) (ks : List Str) (ms : List (Str × V)) (mw : List Val) (g : {α : Type} → List α → List α → List α → List α) (hk : kws ≠ []) (hms : ∀ q ∈ ms, q ∈ kws)
    (hrep : ∀ al B H, Reps K al B H mw (ms.map (·.2)))
    (hrel : ∀ {vs mz zs : List V} {us mv ws : List Value}, Vals vs us → Vals mz mv → Vals zs ws → Vals (g vs mz zs) (g us mv ws))
    (hrel2 : ∀ {al B : List Addr} {H : Hp} {vs mz zs : List V} {us mv ws : List Val}, Reps K al B H us vs → Reps K al B H mv mz → Reps K al B H ws zs → Reps K al B H (g us mv ws) (g vs mz zs))
    (h : ∀ (D : Addr) (doc pm : Value) (an : Option Addr) (cdv ct : Value) (us mv ws : List Value), us.length = n → mv.length = ms.length → ws.length = ks.length →
      KwChain D ((ms.map (·.1)).zip mv) (bindArgs (PySem.W.fnOf x qual params body scope .none (.ref D) doc pm an cdv ct) ⟨us, ks.zip ws⟩) (ps.zip (g us mv ws))) : KBz K fd ps n ks (fun us ws => g us mw ws) := by
  obtain ⟨oc, od, dV, kV, doc, pm, an, cdv, ct, osl, rfl, lk, hcd, hD, hK⟩ := F.ex
  rcases hD with ⟨_, rfl⟩ | ⟨e, _⟩
  · rcases hK with e | ⟨D, rfl, hq⟩
    · exact absurd e hk
    · obtain ⟨mv, hl, rk, hks⟩ := kwd_vals (ms := ms) fun q hm => hq q (hms q hm)
      refine ⟨fun us ws => g us mv ws, fun vs zs => g vs (ms.map (·.2)) zs, ⟨fun s us ws X l1 l2 => ?_, fun r1 r2 => hrel r1 rk r2⟩, fun al B H ws vs zs us r1 r2 => hrel2 r1 (hrep al B H) r2⟩
      exact BindsTo.of_looks fun M => KwChain.looks X hks (h D doc pm an cdv ct us mv ws l1 hl l2)
  · exact absurd rfl e
end
/-! ### in short -/
section
variable {X : Cx} {W : WX}
theorem ov (i : Nat) {x : Str} {pos : Pos} (hN : X.N[i]? = some x := by rfl) (hv : Vis X.env.scope x := by first | exact Or.inl rfl | exact Or.inr (Or.inl rfl) | exact Or.inr (Or.inr rfl)) (hd : (x == ("__debug__" : Str)) = false := by decide)
    (hcd : (x == ("__classdict__" : Str)) = false := by decide) : PE X (.Name x pos) (tE X.K W (sVar i)) := oe_var hN hv hd hcd
/-- a built-in class as a value -/
theorem oe_ty {x : Str} {n : String} {pos : Pos} (hg : Gl X x) (hm : X.mg x = none) (hv : bootBuiltins x = some (.type n)) (hn : x ≠ "__name__" := by decide) (hd : (x == ("__debug__" : Str)) = false := by decide) : PE X (.Name x pos) (tE X.K W (sC (.ty n))) :=
  oe_c (pe_bltn hg hm hv (v := .ty n) rfl hn hd) fun _ _ _ => .ty n
end
section
variable {K : PySem.W.Frag} {al B : List Addr} {H : Hp}
/-- a tuple of texts that stands in the written part -/
theorem rep_texts {T : Addr} {o : Obj} {its : Array Value} {n : Nat} {xs : List Str} (l : K.lookup T = some o) (c : o.cls = .type "tuple") (d : o.dict = none) (e : o.data = .seq its n) (r : Vals (xs.map V.str) its.toList) (z : xs.length ≤ sizeLine) : Rep K al B H (.tup (xs.map Val.str)) (.ref T) := by
  refine .tup (.inr ⟨o, its, n, l, c, d, e, ?_, r⟩) (by rw [List.length_map]; exact z) (Reps.map (fun x => .str x) xs)
  have q := r.length
  rw [List.length_map] at q
  have q2 : its.toList.length = its.size := Array.length_toList
  exact (q2.symm.trans q.symm) ▸ z
theorem rep_ints {T : Addr} {o : Obj} {its : Array Value} {n : Nat} {xs : List Int} (l : K.lookup T = some o) (c : o.cls = .type "tuple") (d : o.dict = none) (e : o.data = .seq its n) (r : Vals (xs.map V.int) its.toList) (z : xs.length ≤ sizeLine) : Rep K al B H (.tup (xs.map Val.int)) (.ref T) := by
  refine .tup (.inr ⟨o, its, n, l, c, d, e, ?_, r⟩) (by rw [List.length_map]; exact z) (Reps.map (fun x => .int x) xs)
  have q := r.length
  rw [List.length_map] at q
  have q2 : its.toList.length = its.size := Array.length_toList
  exact (q2.symm.trans q.symm) ▸ z
end
end Z
set_option Elab.async false
set_option maxRecDepth 100000
set_option linter.unusedVariables false
/-! ZC: chains of comparisons of any length; tests of comprehensions. -/
namespace Z
open PySem PySem.Spec PyProof.Rows L2
structure CH (X : Cx) (ops : List CmpOp) (es : List Expr) (t : V → TE) : Prop where
  run : ∀ (pos : Pos) (pins : List (Addr × Obj)) (s : Shared) (σ : L2.St) (H : Hp) (x : V) (u : Value) (Q : VK), Inv X pins σ H s → RelV x u → t x σ H Q → wpAny (model X.prog X.w) X.A (compareChain pos u ops (evalEach es X.env)) (EP X pins σ Q) X.xe s
  tst : ∀ (pos : Pos) (pins : List (Addr × Obj)) (s : Shared) (σ : L2.St) (H : Hp) (x : V) (u : Value) (Q : Bool → Hp → Prop), Inv X pins σ H s → RelV x u → t x σ H (fun z H' => ∃ k, z = .bl k ∧ Q k H') → wpAny (model X.prog X.w) X.A (testChain pos u ops (evalEach es X.env)) (TP X pins σ Q) X.xe s
section
variable {X : Cx} {a e e' : Expr} {es : List Expr} {op op' : CmpOp} {ops : List CmpOp} {r : R2} {ta te : TE} {t : V → TE} {pos : Pos}
theorem ch_last (ho : OpR X (compareOp op) r) (he : PE X e te) : CH X [op] [e] (fun x σ H Q => te σ H fun y H1 => r x y H1 Q) := by
  refine ⟨fun pos pins s σ H x u Q I rx h => ?_, fun pos pins s σ H x u Q I rx h => ?_⟩
  · exact chain_last (thn (he.run pins s σ H _ I h) fun v s1 ⟨y, H1, I1, r1, q1⟩ => ho pins s1 σ H1 x y u v Q I1 rx r1 q1)
  · refine test_last (thn (he.run pins s σ H _ I h) fun v s1 ⟨y, H1, I1, r1, q1⟩ => thn (ho pins s1 σ H1 x y u v _ I1 rx r1 q1) fun d s2 ⟨z, H2, I2, r2, k, ek, q2⟩ => ?_)
    subst ek
    cases r2
    exact wpAny_truthy_bool ⟨H2, I2, q2⟩
theorem ch_link (ho : OpR X (compareOp op) r) (he : PE X e te) (hr : CH X (op' :: ops) (e' :: es) t) :
    CH X (op :: op' :: ops) (e :: e' :: es) (fun x σ H Q => te σ H fun y H1 => r x y H1 fun z H2 => ∃ k, z = .bl k ∧ if k = true then t y σ H2 Q else Q (.bl false) H2) := by
  refine ⟨fun pos pins s σ H x u Q I rx h => ?_, fun pos pins s σ H x u Q I rx h => ?_⟩
  · refine chain_link (thn (he.run pins s σ H _ I h) fun v s1 ⟨y, H1, I1, r1, q1⟩ => thn (ho pins s1 σ H1 x y u v _ I1 rx r1 q1) fun d s2 ⟨z, H2, I2, r2, k, ek, q2⟩ => ?_)
    subst ek
    cases r2
    refine wpAny_truthy_bool ?_
    cases k with
    | false => exact ite_ff ⟨.bl false, H2, I2, rfl, q2⟩
    | true => exact ite_tt (hr.run pos pins s2 σ H2 y v Q I2 r1 q2)
  · refine test_link (thn (he.run pins s σ H _ I h) fun v s1 ⟨y, H1, I1, r1, q1⟩ => thn (ho pins s1 σ H1 x y u v _ I1 rx r1 q1) fun d s2 ⟨z, H2, I2, r2, k, ek, q2⟩ => ?_)
    subst ek
    cases r2
    refine wpAny_truthy_bool ?_
    cases k with
    | false =>
      obtain ⟨k', e', q'⟩ := q2
      cases e'
      exact ite_ff ⟨H2, I2, q'⟩
    | true => exact ite_tt (hr.tst pos pins s2 σ H2 y v Q I2 r1 q2)
theorem pe_ch {e1 e2 : Expr} (ha : PE X a ta) (hc : CH X (op :: op' :: ops) (e1 :: e2 :: es) t) (hm : lastMarks (op :: op' :: ops) (e1 :: e2 :: es) = false) : PE X (.Compare a (op :: op' :: ops) (e1 :: e2 :: es) pos) (fun σ H Q => ta σ H fun x H1 => t x σ H1 Q) :=
  ⟨fun pins s σ H Q I h => Compare_chain (thn (ha.run pins s σ H _ I h) fun v s1 ⟨x, H1, I1, r1, q1⟩ => hc.run _ pins s1 σ H1 x v Q I1 r1 q1) hm⟩
theorem pt_ch {e1 e2 : Expr} (ha : PE X a ta) (hc : CH X (op :: op' :: ops) (e1 :: e2 :: es) t) (hm : lastMarks (op :: op' :: ops) (e1 :: e2 :: es) = false) : PT X (.Compare a (op :: op' :: ops) (e1 :: e2 :: es) pos) (tTest fun σ H Q => ta σ H fun x H1 => t x σ H1 Q) :=
  ⟨fun pins s σ H Q I h => isTrue_chain (thn (ha.run pins s σ H _ I h) fun v s1 ⟨x, H1, I1, r1, q1⟩ => hc.tst _ pins s1 σ H1 x v Q I1 r1 q1) hm⟩
end
/-! own readings -/
abbrev SK := Val → SE
def kLast (f : Val → Val → M Val) (m : SE) : SK := fun a ro => bind (m ro) fun b => f a b
def kLink (f : Val → Val → M Val) (m : SE) (k : SK) : SK := fun a ro => bind (m ro) fun b => bind (f a b) fun z => match z with
  | .bl true => k b ro
  | .bl false => ret (.bl false)
  | _ => fail
def sChn (m : SE) (k : SK) : SE := fun ro => bind (m ro) fun a => k a ro
def tCK (K : PySem.W.Frag) (W : WX) (k : SK) : V → TE := fun v sg H Q => ∃ al B ro h w, Sim K al B ro h sg H ∧ Rep K al B H w v ∧ Po K B (fun al H => Rep K al B H) sg al H (k w ro h) W Q
section
variable {X : Cx} {W : WX} {a e e' : Expr} {es : List Expr} {op op' : CmpOp} {ops : List CmpOp} {r : R2} {m : SE} {f : Val → Val → M Val} {k : SK} {pos : Pos}
theorem CH.weak {t t' : V → TE} (h : CH X ops es t) (i : ∀ x sg H Q, t' x sg H Q → t x sg H Q) : CH X ops es t' :=
  ⟨fun pos pins s σ H x u Q I rx q => h.run pos pins s σ H x u Q I rx (i _ _ _ _ q), fun pos pins s σ H x u Q I rx q => h.tst pos pins s σ H x u Q I rx (i _ _ _ _ q)⟩
theorem ok_last (ho : OpR X (compareOp op) r) (lk : Lk2 X.K f r) (he : PE X e (tE X.K W m)) : CH X [op] [e] (tCK X.K W (kLast f m)) := by
  refine CH.weak (ch_last ho he) ?_
  rintro v sg H Q ⟨al, B, ro, h, w, S, r1, p⟩
  refine ⟨al, B, ro, h, S, Po.mono (Po.bind p) fun v2 H2 ⟨al2, h2, w2, st2, hr2, r2, p2⟩ => ?_⟩
  exact lk W al2 B sg H2 h2 w w2 v v2 Q hr2 (r1.step st2) r2 p2
theorem ok_link (ho : OpR X (compareOp op) r) (lk : Lk2 X.K f r) (he : PE X e (tE X.K W m)) (hr : CH X (op' :: ops) (e' :: es) (tCK X.K W k)) : CH X (op :: op' :: ops) (e :: e' :: es) (tCK X.K W (kLink f m k)) := by
  refine CH.weak (ch_link ho he hr) ?_
  rintro v sg H Q ⟨al, B, ro, h, w, S, r1, p⟩
  refine ⟨al, B, ro, h, S, Po.mono (Po.bind p) fun v2 H2 ⟨al2, h2, w2, st2, hr2, r2, p2⟩ => ?_⟩
  refine lk W al2 B sg H2 h2 w w2 v v2 _ hr2 (r1.step st2) r2 (Po.mono (Po.bind p2) fun v3 H3 ⟨al3, h3, w3, st3, hr3, r3, p3⟩ => ?_)
  split at p3
  · cases r3
    refine ⟨true, rfl, ?_⟩
    rw [if_pos rfl]
    exact ⟨al3, B, ro, h3, w2, (S.step st2 hr2).step st3 hr3, r2.step st3, p3⟩
  · cases r3
    refine ⟨false, rfl, ?_⟩
    rw [if_neg Bool.false_ne_true]
    exact Po.now p3 hr3 (.bl _)
  · exact p3.elim
theorem tE_chn {K : PySem.W.Frag} (sg : L2.St) (H : Hp) (Q : VK) (p : tE K W (sChn m k) sg H Q) : tE K W m sg H (fun x H1 => tCK K W k x sg H1 Q) := by
  obtain ⟨al, B, ro, h, S, p⟩ := p
  exact ⟨al, B, ro, h, S, Po.mono (Po.bind p) fun v1 H1 ⟨al1, h1, w1, st1, hr1, r1, p1⟩ => ⟨al1, B, ro, h1, w1, S.step st1 hr1, r1, p1⟩⟩
theorem oe_chn {e1 e2 : Expr} (ha : PE X a (tE X.K W m)) (hc : CH X (op :: op' :: ops) (e1 :: e2 :: es) (tCK X.K W k)) (hm : lastMarks (op :: op' :: ops) (e1 :: e2 :: es) = false := by rfl) : PE X (.Compare a (op :: op' :: ops) (e1 :: e2 :: es) pos) (tE X.K W (sChn m k)) :=
  PE.weak (pe_ch ha hc hm) tE_chn
theorem ot_chn {e1 e2 : Expr} (ha : PE X a (tE X.K W m)) (hc : CH X (op :: op' :: ops) (e1 :: e2 :: es) (tCK X.K W k)) (hm : lastMarks (op :: op' :: ops) (e1 :: e2 :: es) = false := by rfl) : PT X (.Compare a (op :: op' :: ops) (e1 :: e2 :: es) pos) (tT X.K W (asT (sChn m k))) :=
  PT.weak (pt_ch ha hc hm) (tT_as tE_chn)
def tYesZ : En → M Bool := fun _ => ret true
theorem PTs.weak {ifs : List Expr} {t t' : TT} (h : PTs X ifs t) (i : ∀ sg H Q, t' sg H Q → t sg H Q) : PTs X ifs t' := ⟨fun pins s sg H Q I q => h.run pins s sg H Q I (i _ _ _ q)⟩
theorem ots_nil : PTs X [] (tT X.K W tYesZ) := by
  refine PTs.weak pts_nil ?_
  rintro sg H Q ⟨al, B, ro, h, S, p⟩
  exact Po.now p S.hr rfl
theorem ots_one {c : Expr} {t : En → M Bool} (h : PT X c (tT X.K W t)) : PTs X [c] (tT X.K W t) := pts_one h
/-- [e for a in s if t for b in s2 if t2] -/
theorem oe_lc2 {elt tg iter tg1 iter1 : Expr} {ifs ifs1 : List Expr} {scope : Scope} {own : List (Str × Nat)} {vs1 : List Nat} {mi mi1 : SI} {g g1 : GM} {sl sl1 : List Nat} {t t1 : En → M Bool} (hc : X.calm = true) (hN : X.N.Nodup) (hi : PI X tg iter (tI X.K W mi)) (ok : BlkOk X.N X.env.scope scope own) (hv : ∀ i ∈ vs1, i ∈ own.map (·.2)) (hsl : ∀ i ∈ sl, i ∈ own.map (·.2)) (hsl1 : ∀ i ∈ sl1, i ∈ vs1)
    (hg : ∀ (s : Shared) (H : Hp) (C : Addr) (cl : List (Str × Addr)) (fp : List Addr), PG (X.blk s H scope (compEnvC scope cl C X.env) fp) tg (tG X.K sl g))
    (ht : ∀ (s : Shared) (H : Hp) (C : Addr) (cl : List (Str × Addr)) (fp : List Addr), PTs (X.blk s H scope (compEnvC scope cl C X.env) fp) ifs (tT X.K W0 t))
    (hi1 : ∀ (s : Shared) (H : Hp) (C : Addr) (cl : List (Str × Addr)) (fp : List Addr), PI (X.blk s H scope (compEnvC scope cl C X.env) fp) tg1 iter1 (tI X.K W0 mi1))
    (hg1 : ∀ (s : Shared) (H : Hp) (C : Addr) (cl : List (Str × Addr)) (fp : List Addr), PG (X.blk s H scope (compEnvC scope cl C X.env) fp) tg1 (tG X.K sl1 g1))
    (ht1 : ∀ (s : Shared) (H : Hp) (C : Addr) (cl : List (Str × Addr)) (fp : List Addr), PTs (X.blk s H scope (compEnvC scope cl C X.env) fp) ifs1 (tT X.K W0 t1))
    (he : ∀ (s : Shared) (H : Hp) (C : Addr) (cl : List (Str × Addr)) (fp : List Addr), PE (X.blk s H scope (compEnvC scope cl C X.env) fp) elt (tE X.K W0 m)) (hs : ∀ x, foldedSetIterable iter X.env x = pure x) (hs1 : ∀ env x, foldedSetIterable iter1 env x = pure x) :
    PE X (.ListComp elt [⟨tg, iter, ifs, 0⟩, ⟨tg1, iter1, ifs1, 0⟩] scope pos) (tE X.K W (sLc2 mi g t mi1 g1 t1 m (own.map (·.2)) vs1)) := PE.weak (pe_lc2 hc hN hi ok hv hg ht hi1 hg1 ht1 he hs hs1) (tE_lc2 hsl hsl1)
end
end Z
set_option Elab.async false
set_option maxRecDepth 100000
set_option linter.unusedVariables false
/-! ZG: what the printed texts lean on. -/
namespace Z
open PySem PySem.Spec PyProof.Rows L2
theorem zb_len : bootBuiltins "len" = some (.builtin "len") := by decide +kernel
theorem zb_abs : bootBuiltins "abs" = some (.builtin "abs") := by decide +kernel
theorem zb_max : bootBuiltins "max" = some (.builtin "max") := by decide +kernel
theorem zb_min : bootBuiltins "min" = some (.builtin "min") := by decide +kernel
theorem zb_all : bootBuiltins "all" = some (.builtin "all") := by decide +kernel
theorem zb_any : bootBuiltins "any" = some (.builtin "any") := by decide +kernel
theorem zb_isinstance : bootBuiltins "isinstance" = some (.builtin "isinstance") := by decide +kernel
theorem zb_int : bootBuiltins "int" = some (.type "int") := by decide +kernel
theorem zb_bool : bootBuiltins "bool" = some (.type "bool") := by decide +kernel
theorem zb_str : bootBuiltins "str" = some (.type "str") := by decide +kernel
theorem zb_list : bootBuiltins "list" = some (.type "list") := by decide +kernel
theorem zb_tuple : bootBuiltins "tuple" = some (.type "tuple") := by decide +kernel
theorem zb_dict : bootBuiltins "dict" = some (.type "dict") := by decide +kernel
theorem takesW {X : Cx} : Takes X W0 := fun _ _ ⟨_, _, _, _, _, _, _, _, _, _, _, _, _, _, _, _, z⟩ => z.elim
/-- a constant of the top -/
def Cst (K : PySem.W.Frag) (mg : Str → Option Value) (x : Str) (w : Val) : Prop := ∃ u v, mg x = some u ∧ RelV v u ∧ ∀ al B H, Rep K al B H w v
section
variable {X : Cx} {W : WX}
theorem oe_gl {x : Str} {w : Val} {pos : Pos} (hg : Gl X x) (c : Cst X.K X.mg x w) (hd : (x == ("__debug__" : Str)) = false := by decide) : PE X (.Name x pos) (tE X.K W (sC w)) := by
  obtain ⟨u, v, e, r, q⟩ := c
  exact oe_glob hg e r q hd
end
theorem cst_int {K : PySem.W.Frag} {mg : Str → Option Value} {x : Str} {i : Int} {t : Tok} (e : mg x = some (.int i t)) : Cst K mg x (.int i) := ⟨_, .int i, e, ⟨_, rfl⟩, fun _ _ _ => .int i⟩
theorem cst_str {K : PySem.W.Frag} {mg : Str → Option Value} {x : Str} {i : Str} {t : Tok} (e : mg x = some (.str i t)) : Cst K mg x (.str i) := ⟨_, .str i, e, ⟨_, rfl⟩, fun _ _ _ => .str i⟩
theorem vals_texts : ∀ {us : List Value} {xs : List Str}, (us.map fun u => match u with | .str y _ => some y | _ => none) = xs.map some → Vals (xs.map V.str) us
  | [], [], _ => .nil
  | [], _ :: _, h => by cases h
  | _ :: _, [], h => by cases h
  | u :: us, x :: xs, h => by
    rw [List.map_cons, List.map_cons] at h
    injection h with h1 h2
    refine .cons ?_ (vals_texts h2)
    cases u <;> first | (cases h1; done) | (cases h1; exact ⟨_, rfl⟩)
theorem cst_texts {K : PySem.W.Frag} {mg : Str → Option Value} {x : Str} {T : Addr} {o : Obj} {its : Array Value} {n : Nat} {xs : List Str} (e : mg x = some (.ref T)) (l : K.lookup T = some o) (c : o.cls = .type "tuple") (d : o.dict = none) (q : o.data = .seq its n)
    (r : (its.toList.map fun u => match u with | .str y _ => some y | _ => none) = xs.map some) (z : xs.length ≤ sizeLine) : Cst K mg x (.tup (xs.map Val.str)) :=
  ⟨_, .ref T, e, rfl, fun _ _ _ => rep_texts l c d q (vals_texts r) z⟩
/-- an exception's own class -/
structure ExcT (K : PySem.W.Frag) (mg : Str → Option Value) (x : Str) (C : Addr) (bm : List Value) (new : String) : Prop where
  g : mg x = some (.ref C)
  xP : PySem.W.excIn K C bm new = true
  kP : PySem.W.keepIn K (.ref C) = true
  bP : PySem.W.subIn K (.ref C) (.type "BaseException") = some true
  tP : PySem.W.typeIn K (.ref C) = some (.type "type")
  iP : PySem.W.isClsIn K C = true
  sP : PySem.W.subIn K (.ref C) (.ref C) = some true
theorem ExcT.self {K : PySem.W.Frag} {mg : Str → Option Value} {x : Str} {C : Addr} {bm : List Value} {new : String} (T : ExcT K mg x C bm new) : PySem.W.exmOne K (.ref C) (.ref C) = some true := by
  have e1 : (PySem.W.subIn K (.ref C) (.type "BaseException") == some true) = true := by rw [T.bP]; rfl
  have e2 : ((PySem.W.clsIn K C).isSome && PySem.W.typeIn K (.ref C) == some (.type "type")) = true := by
    have h2' : (PySem.W.clsIn K C).isSome = true := T.iP
    rw [h2', T.tP]; rfl
  show (if (PySem.W.subIn K (.ref C) (.type "BaseException") == some true) = true then (if ((PySem.W.clsIn K C).isSome && PySem.W.typeIn K (.ref C) == some (.type "type")) = true then PySem.W.subIn K (.ref C) (.ref C) else none) else none) = some true
  rw [if_pos e1, if_pos e2]
  exact T.sP
/-- except X, X the one class that may come -/
def only (C : Addr) : Value → Option Bool := fun v => match v with
  | .ref a => if a = C then some true else none
  | _ => none
theorem only_ok {K : PySem.W.Frag} {mg : Str → Option Value} {x : Str} {C : Addr} {bm : List Value} {new : String} (T : ExcT K mg x C bm new) (v : Value) (b : Bool) (h : only C v = some b) : PySem.W.exmOne K v (.ref C) = some b := by
  unfold only at h
  split at h
  · split at h
    · rename_i e
      cases h
      rw [e]
      exact T.self
    · cases h
  · cases h
end Z
set_option Elab.async false
set_option maxRecDepth 100000
set_option linter.unusedVariables false
/-! ZL: how the own evaluators go, step by step. -/
namespace Z
open PySem PySem.Spec PyProof.Rows L2
section
variable {β γ : Type} {ro : En} {h : HH}
@[simp] theorem outOf_nx : outOf (.go .nx ro h) = .ok .non h := rfl
@[simp] theorem outOf_ret {w : Val} : outOf (.go (.ret w) ro h) = .ok w h := rfl
@[simp] theorem outOf_ex {e : Ex} : outOf (.go (.ex e) ro h) = .ex e h := rfl
def sq (o : SO) (m : SS) : SO := match o with
  | .go .nx ro1 h1 => m ro1 h1
  | o => o
@[simp] theorem sq_nx {m : SS} : sq (.go .nx ro h) m = m ro h := rfl
@[simp] theorem sq_ret {m : SS} {w : Val} : sq (.go (.ret w) ro h) m = .go (.ret w) ro h := rfl
@[simp] theorem sq_ex {m : SS} {e : Ex} : sq (.go (.ex e) ro h) m = .go (.ex e) ro h := rfl
@[simp] theorem sq_brk {m : SS} : sq (.go .brk ro h) m = .go .brk ro h := rfl
@[simp] theorem sq_ct {m : SS} : sq (.go .ct ro h) m = .go .ct ro h := rfl
@[simp] theorem nSeq_e {a b : SS} : nSeq a b ro h = sq (a ro h) b := rfl
theorem sq_ite {p : Prop} [Decidable p] {x y : SO} {m : SS} : sq (if p then x else y) m = if p then sq x m else sq y m := by split <;> rfl
theorem outOf_ite {p : Prop} [Decidable p] {x y : SO} : outOf (if p then x else y) = if p then outOf x else outOf y := by split <;> rfl
@[simp] theorem nNext_e : nNext ro h = .go .nx ro h := rfl
@[simp] theorem nBrk_e : nBrk ro h = .go .brk ro h := rfl
@[simp] theorem nCt_e : nCt ro h = .go .ct ro h := rfl
@[simp] theorem nRetN_e : nRetN ro h = .go (.ret .non) ro h := rfl
@[simp] theorem sb_ok {a : β} {k : β → HH → SO} : sbind (.ok a h) ro k = k a h := rfl
@[simp] theorem sb_ex {e : Ex} {k : β → HH → SO} : sbind (.ex e h) ro k = .go (.ex e) ro h := rfl
@[simp] theorem nRet_e {m : SE} : nRet m ro h = sbind (m ro h) ro fun w h1 => .go (.ret w) ro h1 := rfl
@[simp] theorem nExpr_e {m : SE} : nExpr m ro h = sbind (m ro h) ro fun _ h1 => .go .nx ro h1 := rfl
@[simp] theorem nSet_e {i : Nat} {m : SE} : nSet i m ro h = sbind (m ro h) ro fun w h1 => .go .nx (ro.set i (some w)) h1 := rfl
@[simp] theorem nIf_e {c : En → M Bool} {a b : SS} : nIf c a b ro h = sbind (c ro h) ro fun k h1 => if k = true then a ro h1 else b ro h1 := rfl
@[simp] theorem nRaise_e {e : Ex} : nRaise e ro h = .go (.ex e) ro h := rfl
@[simp] theorem ob_ok {a : β} {f : β → M γ} : obind (.ok a h) f = f a h := rfl
@[simp] theorem ob_ex {e : Ex} {f : β → M γ} : obind (.ex e h : Out β) f = .ex e h := rfl
theorem ob_ite {p : Prop} [Decidable p] {x y : Out β} {f : β → M γ} : obind (if p then x else y) f = if p then obind x f else obind y f := by split <;> rfl
theorem sb_ite {p : Prop} [Decidable p] {x y : Out β} {k : β → HH → SO} : sbind (if p then x else y) ro k = if p then sbind x ro k else sbind y ro k := by split <;> rfl
@[simp] theorem ret_e {a : β} : (ret a : M β) h = .ok a h := rfl
@[simp] theorem bind_e {m : M β} {f : β → M γ} : bind m f h = obind (m h) f := rfl
@[simp] theorem sC_e {w : Val} : sC w ro h = .ok w h := rfl
@[simp] theorem sVar_e {i : Nat} {w : Val} (e : ro[i]? = some (some w)) : sVar i ro h = .ok w h := by unfold sVar; rw [e]
@[simp] theorem sVar_0 {w : Val} {r : En} : sVar 0 (some w :: r) h = .ok w h := rfl
@[simp] theorem sVar_1 {w : Val} {a : Option Val} {r : En} : sVar 1 (a :: some w :: r) h = .ok w h := rfl
@[simp] theorem sVar_2 {w : Val} {a b : Option Val} {r : En} : sVar 2 (a :: b :: some w :: r) h = .ok w h := rfl
@[simp] theorem sVar_s {i : Nat} {a : Option Val} {r : En} : sVar (i + 1) (a :: r) h = sVar i r h := rfl
@[simp] theorem sBin_e {f : Val → Val → M Val} {a b : SE} : sBin f a b ro h = obind (a ro h) fun x h1 => obind (b ro h1) fun y h2 => f x y h2 := rfl
@[simp] theorem sUn_e {f : Val → M Val} {a : SE} : sUn f a ro h = obind (a ro h) fun x h1 => f x h1 := rfl
@[simp] theorem aNil_e : aNil ro h = .ok [] h := rfl
@[simp] theorem aCons_e {m : SE} {r : En → M (List Val)} : aCons m r ro h = obind (m ro h) fun x h1 => obind (r ro h1) fun xs h2 => .ok (x :: xs) h2 := rfl
@[simp] theorem sArgs_e {f : List Val → M Val} {r : En → M (List Val)} : sArgs f r ro h = obind (r ro h) fun xs h1 => f xs h1 := rfl
@[simp] theorem sAnd_e {a b : SE} : sAnd a b ro h = obind (a ro h) fun w h1 => obind (truthy w h1) fun k h2 => if k = true then b ro h2 else .ok w h2 := by
  unfold sAnd
  show obind (a ro h) _ = obind (a ro h) _
  congr; funext w h1
  show obind (truthy w h1) _ = obind (truthy w h1) _
  congr; funext k h2
  cases k <;> rfl
@[simp] theorem sOr_e {a b : SE} : sOr a b ro h = obind (a ro h) fun w h1 => obind (truthy w h1) fun k h2 => if k = true then .ok w h2 else b ro h2 := by
  unfold sOr
  show obind (a ro h) _ = obind (a ro h) _
  congr; funext w h1
  show obind (truthy w h1) _ = obind (truthy w h1) _
  congr; funext k h2
  cases k <;> rfl
@[simp] theorem sNot_e {a : SE} : sNot a ro h = obind (a ro h) fun w h1 => obind (truthy w h1) fun k h2 => .ok (.bl (!k)) h2 := rfl
@[simp] theorem sIf_e {c : En → M Bool} {a b : SE} : sIf c a b ro h = obind (c ro h) fun k h1 => if k = true then a ro h1 else b ro h1 := by
  unfold sIf
  show obind (c ro h) _ = obind (c ro h) _
  congr; funext k h1
  cases k <;> rfl
@[simp] theorem tr_bl {b : Bool} : truthy (.bl b) h = .ok b h := rfl
@[simp] theorem tr_non : truthy .non h = .ok false h := rfl
@[simp] theorem cV_e {a : SE} : cV a ro h = obind (a ro h) fun w h1 => truthy w h1 := rfl
@[simp] theorem cAnd_e {a b : En → M Bool} : cAnd a b ro h = obind (a ro h) fun k h1 => if k = true then b ro h1 else .ok false h1 := by
  unfold cAnd
  show obind (a ro h) _ = obind (a ro h) _
  congr; funext k h1
  cases k <;> rfl
@[simp] theorem cOr_e {a b : En → M Bool} : cOr a b ro h = obind (a ro h) fun k h1 => if k = true then .ok true h1 else b ro h1 := by
  unfold cOr
  show obind (a ro h) _ = obind (a ro h) _
  congr; funext k h1
  cases k <;> rfl
@[simp] theorem cNot_e {a : En → M Bool} : cNot a ro h = obind (a ro h) fun k h1 => .ok (!k) h1 := rfl
def unB (w : Val) : M Bool := match w with
  | .bl b => ret b
  | _ => fail
@[simp] theorem unB_bl {b : Bool} : unB (.bl b) h = .ok b h := rfl
@[simp] theorem cBin_e {f : Val → Val → M Val} {a b : SE} : cBin f a b ro h = obind (a ro h) fun x h1 => obind (b ro h1) fun y h2 => obind (f x y h2) unB := by
  show obind (obind (a ro h) _) _ = _
  cases a ro h with
  | bad => rfl
  | ex _ _ => rfl
  | ok x h1 =>
    show obind (obind (b ro h1) _) _ = obind (b ro h1) _
    cases b ro h1 <;> rfl
@[simp] theorem asT_e {a : SE} : asT a ro h = obind (a ro h) unB := rfl
@[simp] theorem sChn_e {m : SE} {k : SK} : sChn m k ro h = obind (m ro h) fun a h1 => k a ro h1 := rfl
@[simp] theorem kLast_e {f : Val → Val → M Val} {m : SE} {a : Val} : kLast f m a ro h = obind (m ro h) fun b h1 => f a b h1 := rfl
def kIf (w : Val) (k : M Val) : M Val := match w with
  | .bl true => k
  | .bl false => ret (.bl false)
  | _ => fail
@[simp] theorem kIf_bl {b : Bool} {k : M Val} : kIf (.bl b) k h = if b = true then k h else .ok (.bl false) h := by cases b <;> rfl
@[simp] theorem kLink_e {f : Val → Val → M Val} {m : SE} {k : SK} {a : Val} : kLink f m k a ro h = obind (m ro h) fun b h1 => obind (f a b h1) fun z h2 => kIf z (k b ro) h2 := by
  show obind (m ro h) _ = obind (m ro h) _
  congr
@[simp] theorem sCall_e {F : List Val → M Val} {n m np : Nat} {gW : List Val → List Val → List Val} {ra rk : En → M (List Val)} : sCall F n m np gW ra rk ro h = obind (ra ro h) fun ws h1 => obind (rk ro h1) fun zs h2 => if ws.length = n ∧ zs.length = m ∧ (gW ws zs).length = np then F (gW ws zs) h2 else .bad := by
  show obind (ra ro h) _ = obind (ra ro h) _
  congr; funext ws h1
  show obind (rk ro h1) _ = obind (rk ro h1) _
  congr; funext zs h2
  by_cases c : ws.length = n ∧ zs.length = m ∧ (gW ws zs).length = np
  · rw [if_pos c, if_pos c]
  · rw [if_neg c, if_neg c]; rfl
@[simp] theorem oNone_e : oNone ro h = .ok none h := rfl
def unI (w : Val) : M (Option Int) := match w with
  | .int i => ret (some i)
  | _ => fail
@[simp] theorem unI_i {i : Int} : unI (.int i) h = .ok (some i) h := rfl
@[simp] theorem oSome_e {m : SE} : oSome m ro h = obind (m ro h) unI := rfl
@[simp] theorem sSl_e {m : SE} {lo hi : SO'} : sSl m lo hi ro h = obind (m ro h) fun w h1 => obind (lo ro h1) fun l h2 => obind (hi ro h2) fun u h3 => bSl w l u h3 := rfl
@[simp] theorem gNm_e {i : Nat} {w : Val} : gNm i w ro h = .go .nx (ro.set i (some w)) h := rfl
@[simp] theorem gsNil_e : gsNil [] ro h = .go .nx ro h := rfl
@[simp] theorem gsCons_nm {i : Nat} {r : List Val → En → HH → SO} {w : Val} {ws : List Val} : gsCons (gNm i) r (w :: ws) ro h = r ws (ro.set i (some w)) h := rfl
@[simp] theorem gTp_t {n : Nat} {g : List Val → En → HH → SO} {xs : List Val} : gTp n g (.tup xs) ro h = if xs.length = n then g xs ro h else .bad := rfl
@[simp] theorem tYesZ_e : tYesZ ro h = .ok true h := rfl
def asg (o : SO) : SO := match o with
  | .go .nx ro2 h2 => .go .nx ro2 h2
  | _ => .bad
@[simp] theorem asg_nx : asg (.go .nx ro h) = .go .nx ro h := rfl
@[simp] theorem nAsg_e {m : SE} {g : GM} : nAsg m g ro h = sbind (m ro h) ro fun w h1 => asg (g w ro h1) := rfl
@[simp] theorem iVal_e {m : SE} : iVal m ro h = obind (m ro h) fun w h1 => itmV w h1 := rfl
@[simp] theorem itmV_tup {xs : List Val} : itmV (.tup xs) h = .ok (.st xs, xs.length) h := rfl
@[simp] theorem itmV_lst {xs : List Val} : itmV (.lst xs) h = .ok (.st xs, xs.length) h := rfl
@[simp] theorem iEn_e {r : En → M (List Val)} : iEn r ro h = obind (r ro h) fun ws h1 => fEn ws h1 := rfl
@[simp] theorem fEn_tup {xs : List Val} : fEn [.tup xs] h = .ok (.st (prs 0 xs), xs.length) h := rfl
@[simp] theorem nFor_e {mi : SI} {g : GM} {b : SS} : nFor mi g b ro h = sbind (mi ro h) ro fun x h1 => turns g b x.1 x.2 0 ro h1 := rfl
@[simp] theorem iRgN_e {n : Nat} {r : En → M (List Val)} : iRgN n r ro h = obind (r ro h) fun ws h1 => if ws.length = n then fRg ws h1 else .bad := by
  show obind (r ro h) _ = obind (r ro h) _
  congr; funext ws h1
  split <;> rfl
end
/-! ### comprehensions over fixed items -/
theorem lc_list {g : GM} {t : En → M Bool} {m : SE} {ro : En} {h : HH} (f : Val → List Val) : ∀ (xs ys : List Val) (k i : Nat) (acc : List Val), ys.drop i = xs → k = xs.length →
    (∀ w ∈ xs, ∃ ro1, g w ro h = .go .nx ro1 h ∧ ((t ro1 h = .ok true h ∧ ∃ y, m ro1 h = .ok y h ∧ f w = [y]) ∨ (t ro1 h = .ok false h ∧ f w = []))) →
    lcTurns g t m ro (.st ys) k i acc h = .ok (acc ++ xs.flatMap f) h
  | [], ys, k, i, acc, e, hk, _ => by
    have en : ys[i]? = none := List.getElem?_eq_none (by have := congrArg List.length e; rw [List.length_drop] at this; simp at this; omega)
    subst hk
    unfold lcTurns
    show (match nxt (.st ys) i h with | some none => Out.ok acc h | _ => .bad) = _
    have : nxt (.st ys) i h = some none := by show some ys[i]? = _; rw [en]
    rw [this]; simp
  | x :: xs, ys, k, i, acc, e, hk, hf => by
    have es : ys[i]? = some x := by
      have := congrArg (fun l => l[0]?) e
      simpa using this
    have ed : ys.drop (i + 1) = xs := by
      have := congrArg List.tail e
      simpa using this
    have hk : k = xs.length + 1 := hk
    subst hk
    unfold lcTurns
    have : nxt (.st ys) i h = some (some x) := by show some ys[i]? = _; rw [es]
    rw [this]
    obtain ⟨ro1, e1, c⟩ := hf x List.mem_cons_self
    have ih := fun acc => lc_list f xs ys xs.length (i + 1) acc ed rfl fun w hw => hf w (List.mem_cons_of_mem _ hw)
    show (match g x ro h with | .go .nx ro1 h1 => _ | _ => Out.bad) = _
    rw [e1]
    rcases c with ⟨c1, y, c2, c3⟩ | ⟨c1, c3⟩
    · simp only [c1, c2, if_true]
      rw [ih, List.flatMap_cons, c3, List.append_assoc]
    · simp only [c1, Bool.false_eq_true, if_false]
      rw [ih, List.flatMap_cons, c3, List.nil_append]
/-- [e for x in xs] that changes nothing -/
theorem sLc_map {mi : SI} {i : Nat} {m : SE} {own : List Nat} {ro : En} {h : HH} {xs : List Val} {f : Val → Val} (e : mi ro h = .ok (.st xs, xs.length) h) (hf : ∀ w ∈ xs, m ((wipeN ro own).set i (some w)) h = .ok (f w) h) :
    sLc mi (gNm i) tYesZ m own ro h = .ok (.lst (xs.map f)) h := by
  show obind (mi ro h) _ = _
  rw [e]
  show obind (lcTurns (gNm i) tYesZ m (wipeN ro own) (.st xs) xs.length 0 [] h) _ = _
  have q := lc_list (g := gNm i) (t := tYesZ) (m := m) (ro := wipeN ro own) (h := h) (fun w => [f w]) xs xs xs.length 0 [] (by simp) rfl fun w hw => ⟨_, rfl, .inl ⟨rfl, _, hf w hw, rfl⟩⟩
  rw [q]
  simp only [List.nil_append, ← List.map_eq_flatMap, ob_ok, ret_e]
theorem sLc_filter {mi : SI} {i : Nat} {t : En → M Bool} {m : SE} {own : List Nat} {ro : En} {h : HH} {xs : List Val} {f : Val → Val} {q : Val → Bool} (e : mi ro h = .ok (.st xs, xs.length) h) (ht : ∀ w ∈ xs, t ((wipeN ro own).set i (some w)) h = .ok (q w) h) (hf : ∀ w ∈ xs, q w = true → m ((wipeN ro own).set i (some w)) h = .ok (f w) h) :
    sLc mi (gNm i) t m own ro h = .ok (.lst ((xs.filter q).map f)) h := by
  show obind (mi ro h) _ = _
  rw [e]
  show obind (lcTurns (gNm i) t m (wipeN ro own) (.st xs) xs.length 0 [] h) _ = _
  have z := lc_list (g := gNm i) (t := t) (m := m) (ro := wipeN ro own) (h := h) (fun w => if q w = true then [f w] else []) xs xs xs.length 0 [] (by simp) rfl fun w hw => ⟨_, rfl, ?_⟩
  · rw [z]
    have : ∀ xs : List Val, xs.flatMap (fun w => if q w = true then [f w] else []) = (xs.filter q).map f := by
      intro xs
      induction xs with
      | nil => rfl
      | cons x xs ih =>
        rw [List.flatMap_cons, ih, List.filter_cons]
        split <;> simp
    simp only [List.nil_append, this, ob_ok, ret_e]
  · cases c : q w with
    | true => exact .inl ⟨by rw [← c]; exact ht w hw, f w, hf w hw c, by simp⟩
    | false => exact .inr ⟨by rw [← c]; exact ht w hw, by simp⟩
theorem bls_map {β : Type} (f : β → Bool) : ∀ xs : List β, bls (xs.map fun w => Val.bl (f w)) = some (xs.map f)
  | [] => rfl
  | x :: xs => by
    show (bls (xs.map fun w => Val.bl (f w))).map _ = _
    rw [bls_map f xs]; rfl
theorem fAll_map {β : Type} (f : β → Bool) (xs : List β) (h : HH) : fAll [.lst (xs.map fun w => Val.bl (f w))] h = .ok (.bl (xs.all f)) h := by
  show (match bls (xs.map fun w => Val.bl (f w)) with | some bs => Out.ok (Val.bl (bs.all id)) h | none => .bad) = _
  rw [bls_map]
  simp [List.all_map, Function.comp_def]
theorem fAny_map {β : Type} (f : β → Bool) (xs : List β) (h : HH) : fAny [.lst (xs.map fun w => Val.bl (f w))] h = .ok (.bl (xs.any f)) h := by
  show (match bls (xs.map fun w => Val.bl (f w)) with | some bs => Out.ok (Val.bl (bs.any id)) h | none => .bad) = _
  rw [bls_map]
  simp [List.any_map, Function.comp_def]
/-! ### plain values -/
mutual
def pl : Val → Bool
  | .non => true
  | .bl _ => true
  | .int _ => true
  | .str x => PyData.strOk x && decide (x.length ≤ 10000)
  | .tup xs => decide (xs.length ≤ 10000) && pls xs
  | .lst xs => decide (xs.length ≤ 10000) && pls xs
  | _ => false
def pls : List Val → Bool
  | [] => true
  | x :: xs => pl x && pls xs
end
mutual
theorem pl_ok : ∀ w : Val, pl w = true → okV w = true
  | .non, _ => rfl
  | .bl _, _ => rfl
  | .int _, _ => rfl
  | .str x, e => by unfold pl at e; unfold okV; rw [Bool.and_eq_true] at e; exact e.1
  | .tup xs, e => by unfold pl at e; rw [Bool.and_eq_true] at e; unfold okV; exact pls_ok xs e.2
  | .lst xs, e => by unfold pl at e; rw [Bool.and_eq_true] at e; unfold okV; exact pls_ok xs e.2
  | .ref _, e => by cases e
  | .glo _, e => by cases e
  | .ty _, e => by cases e
  | .scr _, e => by cases e
  | .exn _ _ _ _, e => by cases e
theorem pls_ok : ∀ w : List Val, pls w = true → okVs w = true
  | [], _ => rfl
  | x :: xs, e => by
    unfold pls at e; unfold okVs
    rw [Bool.and_eq_true] at e ⊢
    exact ⟨pl_ok x e.1, pls_ok xs e.2⟩
end
theorem pls_mem : ∀ {xs : List Val}, pls xs = true → ∀ w ∈ xs, pl w = true
  | x :: xs, e, w, hw => by
    unfold pls at e
    rw [Bool.and_eq_true] at e
    rcases List.mem_cons.mp hw with rfl | hw
    · exact e.1
    · exact pls_mem e.2 w hw
theorem pls_append : ∀ {xs ys : List Val}, pls xs = true → pls ys = true → pls (xs ++ ys) = true
  | [], _, _, h => h
  | x :: xs, ys, e, h => by
    unfold pls at e
    rw [Bool.and_eq_true] at e
    show (pl x && pls (xs ++ ys)) = true
    rw [e.1, pls_append e.2 h]; rfl
theorem pls_of : ∀ {xs : List Val}, (∀ w ∈ xs, pl w = true) → pls xs = true
  | [], _ => rfl
  | x :: xs, h => by
    show (pl x && pls xs) = true
    rw [h x List.mem_cons_self, pls_of fun w hw => h w (List.mem_cons_of_mem _ hw)]; rfl
theorem pl_mem {xs : List Val} (e : pl (.tup xs) = true) : ∀ w ∈ xs, pl w = true := by
  unfold pl at e
  rw [Bool.and_eq_true] at e
  exact pls_mem e.2
theorem pl_len {xs : List Val} (e : pl (.tup xs) = true) : xs.length ≤ 10000 := by
  unfold pl at e
  rw [Bool.and_eq_true, decide_eq_true_eq] at e
  exact e.1
theorem pl_tup {xs : List Val} (l : xs.length ≤ 10000) (h : ∀ w ∈ xs, pl w = true) : pl (.tup xs) = true := by
  unfold pl
  rw [pls_of h, Bool.and_true, decide_eq_true_eq]
  exact l
theorem pl_memL {xs : List Val} (e : pl (.lst xs) = true) : ∀ w ∈ xs, pl w = true := by
  unfold pl at e
  rw [Bool.and_eq_true] at e
  exact pls_mem e.2
theorem pl_lst {xs : List Val} (l : xs.length ≤ 10000) (h : ∀ w ∈ xs, pl w = true) : pl (.lst xs) = true := by
  unfold pl
  rw [pls_of h, Bool.and_true, decide_eq_true_eq]
  exact l
def isInt : Val → Bool | .int _ => true | .bl _ => true | _ => false
def isBl : Val → Bool | .bl _ => true | _ => false
def isStr : Val → Bool | .str _ => true | _ => false
def isTup : Val → Bool | .tup _ => true | _ => false
def isLst : Val → Bool | .lst _ => true | _ => false
section
variable {w : Val} {h : HH}
theorem isi_int (e : pl w = true) : fIsi [w, .ty "int"] h = .ok (.bl (isInt w)) h := by cases w <;> first | rfl | cases e
theorem isi_bool (e : pl w = true) : fIsi [w, .ty "bool"] h = .ok (.bl (isBl w)) h := by cases w <;> first | rfl | cases e
theorem isi_str (e : pl w = true) : fIsi [w, .ty "str"] h = .ok (.bl (isStr w)) h := by cases w <;> first | rfl | cases e
theorem isi_tuple (e : pl w = true) : fIsi [w, .ty "tuple"] h = .ok (.bl (isTup w)) h := by cases w <;> first | rfl | cases e
theorem isi_list (e : pl w = true) : fIsi [w, .ty "list"] h = .ok (.bl (isLst w)) h := by cases w <;> first | rfl | cases e
@[simp] theorem bOrd_e {f : Int → Int → Bool} {i j : Int} : bOrd f (.int i) (.int j) h = .ok (.bl (f i j)) h := rfl
@[simp] theorem len_tup {xs : List Val} : fLen [.tup xs] h = .ok (.int (xs.length : Nat)) h := rfl
@[simp] theorem len_lst {xs : List Val} : fLen [.lst xs] h = .ok (.int (xs.length : Nat)) h := rfl
theorem len_str {x : Str} (l : x.length ≤ sizeLine) : fLen [.str x] h = .ok (.int (x.length : Nat)) h := by
  show (if x.length ≤ sizeLine then _ else _) = _
  rw [if_pos l]
theorem itmV_str {x : Str} (l : x.length ≤ sizeLine) : itmV (.str x) h = .ok (.st (signs x), (signs x).length) h := by
  show (if x.length ≤ sizeLine then _ else _) = _
  rw [if_pos l]
  have : (signs x).length = x.length := by unfold signs; rw [List.length_map]; rfl
  rw [this]
theorem pl_str {x : Str} (e : pl (.str x) = true) : x.length ≤ sizeLine := by
  unfold pl at e
  rw [Bool.and_eq_true, decide_eq_true_eq] at e
  have := sizeLine_eq
  omega
theorem bEq_q {a b : Val} {k : Bool} (n1 : ∀ n, a ≠ .ref n) (n2 : ∀ n, b ≠ .ref n) (e : quick a b = some k) : bEq a b h = .ok (.bl k) h := by
  unfold bEq
  have r1 : rd a h = some a := by cases a <;> first | rfl | exact absurd rfl (n1 _)
  have r2 : rd b h = some b := by cases b <;> first | rfl | exact absurd rfl (n2 _)
  rw [r1, r2]
  show (match veq a b with | some k => Out.ok (Val.bl k) h | none => .bad) = _
  unfold veq
  rw [e]
theorem bNe_q {a b : Val} {k : Bool} (n1 : ∀ n, a ≠ .ref n) (n2 : ∀ n, b ≠ .ref n) (e : quick a b = some k) : bNe a b h = .ok (.bl (!k)) h := by
  unfold bNe
  have r1 : rd a h = some a := by cases a <;> first | rfl | exact absurd rfl (n1 _)
  have r2 : rd b h = some b := by cases b <;> first | rfl | exact absurd rfl (n2 _)
  rw [r1, r2]
  show (match veq a b with | some k => Out.ok (Val.bl (!k)) h | none => .bad) = _
  unfold veq
  rw [e]
@[simp] theorem eq_ii {i j : Int} : bEq (.int i) (.int j) h = .ok (.bl (decide (i = j))) h := rfl
@[simp] theorem ne_ii {i j : Int} : bNe (.int i) (.int j) h = .ok (.bl (!decide (i = j))) h := rfl
@[simp] theorem eq_ss {i j : Str} : bEq (.str i) (.str j) h = .ok (.bl (decide (i = j))) h := rfl
@[simp] theorem ne_ss {i j : Str} : bNe (.str i) (.str j) h = .ok (.bl (!decide (i = j))) h := rfl
@[simp] theorem eq_bb {i j : Bool} : bEq (.bl i) (.bl j) h = .ok (.bl (decide (i = j))) h := rfl
@[simp] theorem ne_bb {i j : Bool} : bNe (.bl i) (.bl j) h = .ok (.bl (!decide (i = j))) h := rfl
@[simp] theorem is_non {w : Val} : bIs false w .non h = .ok (.bl (match w with | .non => true | _ => false)) h := by cases w <;> rfl
@[simp] theorem isnot_non {w : Val} : bIs true w .non h = .ok (.bl (match w with | .non => false | _ => true)) h := by cases w <;> rfl
@[simp] theorem add_ii {i j : Int} : bAdd (.int i) (.int j) h = .ok (.int (i + j)) h := rfl
@[simp] theorem sub_ii {i j : Int} : bSub (.int i) (.int j) h = .ok (.int (i - j)) h := rfl
@[simp] theorem neg_i {i : Int} : uNeg (.int i) h = .ok (.int (-i)) h := rfl
theorem mod_ii {i j : Int} (l : 0 < j) : bMod (.int i) (.int j) h = .ok (.int (i % j)) h := by
  show (if 0 < j then _ else _) = _
  rw [if_pos l]
theorem ix_t {xs : List Val} {i : Nat} {w : Val} (e : xs[i]? = some w) : bIx (.tup xs) (.int (i : Nat)) h = .ok w h := by
  have l : i < xs.length := (List.getElem?_eq_some_iff.mp e).1
  show (match L2.atI xs (i : Nat) with | some w => Out.ok w h | none => .bad) = _
  have : L2.atI xs (i : Nat) = some w := atI_nat e
  rw [this]
theorem ix_l {xs : List Val} {i : Nat} {w : Val} (e : xs[i]? = some w) : bIx (.lst xs) (.int (i : Nat)) h = .ok w h := by
  have l : i < xs.length := (List.getElem?_eq_some_iff.mp e).1
  show (match L2.atI xs (i : Nat) with | some w => Out.ok w h | none => .bad) = _
  have : L2.atI xs (i : Nat) = some w := atI_nat e
  rw [this]
@[simp] theorem ix_t0 {a : Val} {xs : List Val} : bIx (.tup (a :: xs)) (.int 0) h = .ok a h := ix_t (i := 0) rfl
@[simp] theorem ix_t1 {a b : Val} {xs : List Val} : bIx (.tup (a :: b :: xs)) (.int 1) h = .ok b h := ix_t (i := 1) rfl
@[simp] theorem ix_t2 {a b c : Val} {xs : List Val} : bIx (.tup (a :: b :: c :: xs)) (.int 2) h = .ok c h := ix_t (i := 2) rfl
theorem ix_r {n i : Nat} {xs : List Val} {w : Val} (e : h[n]? = some (.lst xs)) (e2 : xs[i]? = some w) : bIx (.ref n) (.int (i : Nat)) h = .ok w h := by
  have : items (.ref n) h = some xs := by unfold items; dsimp only; rw [e]
  show (match items (.ref n) h with | some xs => (match L2.atI xs (i : Nat) with | some w => Out.ok w h | none => .bad) | none => .bad) = _
  rw [this]
  dsimp only
  have : L2.atI xs (i : Nat) = some w := atI_nat e2
  rw [this]
end
end Z
namespace Z
open PySem PySem.Spec PyProof.Rows L2
/-! ### == () -/
def isUnit : Val → Bool
  | .tup [] => true
  | _ => false
theorem depth_nil : (toD (.tup [])).depth ≤ 64 := by decide
theorem eqv_nil {w : Val} (e : pl w = true) : PyData.eqv (toD w) (toD (.tup [])) = (isUnit w) := by
  cases w with
  | tup xs =>
    cases xs with
    | nil => rfl
    | cons x xs => rfl
  | _ => first | rfl | cases e
theorem bEq_unit {w : Val} {h : HH} (e : pl w = true) : bEq w (.tup []) h = .ok (.bl (isUnit w)) h := by
  have o := pl_ok w e
  have r1 : rd w h = some w := by cases w <;> first | rfl | cases e
  unfold bEq
  rw [r1]
  show (match veq w (.tup []) with | some k => Out.ok (Val.bl k) h | none => .bad) = _
  have : veq w (.tup []) = some (isUnit w) := by
    unfold veq
    have q : quick w (.tup []) = none := by cases w <;> rfl
    rw [q]
    dsimp only
    rw [if_pos ⟨o, rfl, Nat.le_trans (Nat.min_le_right _ _) depth_nil⟩, eqv_nil e]
  rw [this]
theorem bNe_unit {w : Val} {h : HH} (e : pl w = true) : bNe w (.tup []) h = .ok (.bl (!isUnit w)) h := by
  have o := pl_ok w e
  have r1 : rd w h = some w := by cases w <;> first | rfl | cases e
  unfold bNe
  rw [r1]
  show (match veq w (.tup []) with | some k => Out.ok (Val.bl (!k)) h | none => .bad) = _
  have : veq w (.tup []) = some (isUnit w) := by
    unfold veq
    have q : quick w (.tup []) = none := by cases w <;> rfl
    rw [q]
    dsimp only
    rw [if_pos ⟨o, rfl, Nat.le_trans (Nat.min_le_right _ _) depth_nil⟩, eqv_nil e]
  rw [this]
@[simp] theorem fTup_nil {h : HH} : fTup [] h = .ok (.tup []) h := rfl
theorem fTup_ok {xs : List Val} {h : HH} (l : xs.length ≤ 100000) : fTup xs h = .ok (.tup xs) h := by
  show (if xs.length ≤ sizeLine then _ else _) = _
  rw [if_pos (by have := sizeLine_eq; omega)]
theorem fLst_ok {xs : List Val} {h : HH} (l : xs.length ≤ 100000) : fLst xs h = .ok (.lst xs) h := by
  show (if xs.length ≤ sizeLine then _ else _) = _
  rw [if_pos (by have := sizeLine_eq; omega)]
theorem fNew_ok {xs : List Val} {h : HH} (l : xs.length ≤ 100000) : fNew xs h = .ok (.ref h.length) (h ++ [.lst xs]) := by
  show (if xs.length ≤ sizeLine then _ else _) = _
  rw [if_pos (by have := sizeLine_eq; omega)]
@[simp] theorem fTpl_l {xs : List Val} {h : HH} : fTpl [.lst xs] h = .ok (.tup xs) h := rfl
@[simp] theorem fTpl_t {xs : List Val} {h : HH} : fTpl [.tup xs] h = .ok (.tup xs) h := rfl
/-- in a list or a tuple of flat things -/
theorem in_l {w : Val} {xs : List Val} {h : HH} (f : flat w = true) (g : xs.all flat = true) : bIn false w (.lst xs) h = .ok (.bl (xs.any fun y => eqF y w)) h := by
  have : bIn false w (.lst xs) h = if flat w = true ∧ xs.all flat = true then .ok (.bl (xs.any fun y => eqF y w)) h else .bad := by cases w <;> rfl
  rw [this, if_pos ⟨f, g⟩]
theorem notin_l {w : Val} {xs : List Val} {h : HH} (f : flat w = true) (g : xs.all flat = true) : bIn true w (.lst xs) h = .ok (.bl (!xs.any fun y => eqF y w)) h := by
  have : bIn true w (.lst xs) h = if flat w = true ∧ xs.all flat = true then .ok (.bl (!xs.any fun y => eqF y w)) h else .bad := by cases w <;> rfl
  rw [this, if_pos ⟨f, g⟩]
theorem in_t {w : Val} {xs : List Val} {h : HH} (f : flat w = true) (g : xs.all flat = true) : bIn false w (.tup xs) h = .ok (.bl (xs.any fun y => eqF y w)) h := by
  have : bIn false w (.tup xs) h = if flat w = true ∧ xs.all flat = true then .ok (.bl (xs.any fun y => eqF y w)) h else .bad := by cases w <;> rfl
  rw [this, if_pos ⟨f, g⟩]
theorem notin_t {w : Val} {xs : List Val} {h : HH} (f : flat w = true) (g : xs.all flat = true) : bIn true w (.tup xs) h = .ok (.bl (!xs.any fun y => eqF y w)) h := by
  have : bIn true w (.tup xs) h = if flat w = true ∧ xs.all flat = true then .ok (.bl (!xs.any fun y => eqF y w)) h else .bad := by cases w <;> rfl
  rw [this, if_pos ⟨f, g⟩]
theorem cnt_t {w : Val} {xs : List Val} {h : HH} (f : flat w = true) (g : xs.all flat = true) : mCnt (.tup xs) [w] h = .ok (.int ((xs.countP fun z => eqF z w : Nat) : Int)) h := by
  show (if flat w = true ∧ xs.all flat = true then _ else _) = _
  rw [if_pos ⟨f, g⟩]
/-- [e for a in xs for b in ys(a)], each e true -/
theorem lc_true {g : GM} {m : SE} {ro : En} {h : HH} : ∀ (xs ys : List Val) (k i : Nat) (acc : List Val), ys.drop i = xs → k = xs.length →
    (∀ w ∈ xs, ∃ ro1, g w ro h = .go .nx ro1 h ∧ m ro1 h = .ok (.bl true) h) → lcTurns g tYesZ m ro (.st ys) k i acc h = .ok (acc ++ List.replicate xs.length (.bl true)) h := by
  intro xs ys k i acc e hk hf
  rw [lc_list (fun _ => [.bl true]) xs ys k i acc e hk fun w hw => by
    obtain ⟨ro1, e1, e2⟩ := hf w hw
    exact ⟨ro1, e1, .inl ⟨rfl, _, e2, rfl⟩⟩]
  have : ∀ xs : List Val, xs.flatMap (fun _ => [Val.bl true]) = List.replicate xs.length (.bl true) := by
    intro xs
    induction xs with
    | nil => rfl
    | cons x xs ih => rw [List.flatMap_cons, ih, List.length_cons, List.replicate_succ]; rfl
  rw [this]
theorem lc2_true {g : GM} {mi : SI} {g1 : GM} {m : SE} {vs1 : List Nat} {ro : En} {h : HH} : ∀ (xs ys : List Val) (k i n : Nat), ys.drop i = xs → k = xs.length → n + 100 * xs.length ≤ 100000 →
    (∀ w ∈ xs, ∃ ro1 zs, g w ro h = .go .nx ro1 h ∧ mi ro1 h = .ok (.st zs, zs.length) h ∧ zs.length ≤ 100 ∧ ∀ z ∈ zs, ∃ ro2, g1 z (wipeN ro1 vs1) h = .go .nx ro2 h ∧ m ro2 h = .ok (.bl true) h) →
    ∃ n', lc2 g tYesZ mi g1 tYesZ m vs1 ro (.st ys) k i (List.replicate n (.bl true)) h = .ok (List.replicate n' (.bl true)) h
  | [], ys, k, i, n, e, hk, _, _ => by
    have en : ys[i]? = none := List.getElem?_eq_none (by have := congrArg List.length e; rw [List.length_drop] at this; simp at this; omega)
    have hk : k = 0 := hk
    subst hk
    refine ⟨n, ?_⟩
    unfold lc2
    have : nxt (.st ys) i h = some none := by show some ys[i]? = _; rw [en]
    rw [this]
  | x :: xs, ys, k, i, n, e, hk, hn, hf => by
    have es : ys[i]? = some x := by
      have := congrArg (fun l => l[0]?) e
      simpa using this
    have ed : ys.drop (i + 1) = xs := by
      have := congrArg List.tail e
      simpa using this
    have hk : k = xs.length + 1 := hk
    subst hk
    unfold lc2
    have : nxt (.st ys) i h = some (some x) := by show some ys[i]? = _; rw [es]
    rw [this]
    obtain ⟨ro1, zs, e1, e2, hz, c⟩ := hf x List.mem_cons_self
    rw [List.length_cons] at hn
    obtain ⟨n', ih⟩ := lc2_true xs ys xs.length (i + 1) (n + zs.length) ed rfl (by omega) fun w hw => hf w (List.mem_cons_of_mem _ hw)
    refine ⟨n', ?_⟩
    have q := lc_true (g := g1) (m := m) (ro := wipeN ro1 vs1) (h := h) zs zs zs.length 0 (List.replicate n (.bl true)) (by simp) rfl c
    rw [List.replicate_append_replicate] at q
    simp only [e1, e2, tYesZ_e, if_true, List.length_replicate, q]
    rw [if_pos (by have := sizeLine_eq; omega)]
    exact ih
theorem sLc2_true {mi mi1 : SI} {g g1 : GM} {m : SE} {own vs1 : List Nat} {ro : En} {h : HH} {xs : List Val} (e : mi ro h = .ok (.st xs, xs.length) h) (l : xs.length ≤ 900)
    (hf : ∀ w ∈ xs, ∃ ro1 zs, g w (wipeN ro own) h = .go .nx ro1 h ∧ mi1 ro1 h = .ok (.st zs, zs.length) h ∧ zs.length ≤ 100 ∧ ∀ z ∈ zs, ∃ ro2, g1 z (wipeN ro1 vs1) h = .go .nx ro2 h ∧ m ro2 h = .ok (.bl true) h) :
    ∃ n, sLc2 mi g tYesZ mi1 g1 tYesZ m own vs1 ro h = .ok (.lst (List.replicate n (.bl true))) h := by
  obtain ⟨n, q⟩ := lc2_true (g := g) (mi := mi1) (g1 := g1) (m := m) (vs1 := vs1) (ro := wipeN ro own) (h := h) xs xs xs.length 0 0 (by simp) rfl (by omega) hf
  refine ⟨n, ?_⟩
  show obind (mi ro h) _ = _
  rw [e]
  show obind (lc2 g tYesZ mi1 g1 tYesZ m vs1 (wipeN ro own) (.st xs) xs.length 0 [] h) _ = _
  have z : lc2 g tYesZ mi1 g1 tYesZ m vs1 (wipeN ro own) (.st xs) xs.length 0 [] h = .ok (List.replicate n (.bl true)) h := q
  rw [z]
  rfl
theorem fAll_true (n : Nat) (h : HH) : fAll [.lst (List.replicate n (.bl true))] h = .ok (.bl true) h := by
  have e : List.replicate n (Val.bl true) = (List.replicate n ()).map fun _ => Val.bl true := by simp
  rw [e, fAll_map (fun _ => true)]
  simp
end Z
namespace Z
open PySem PySem.Spec PyProof.Rows L2
def mtT (f : Val → List Val → M Val) (ra : En → M (List Val)) (ro : En) (w : Val) : M Val := fun h => match w with
  | .tup xs => obind (ra ro h) fun ws => f (.tup xs) ws
  | _ => .bad
@[simp] theorem sMtT_e {f : Val → List Val → M Val} {mo : SE} {ra : En → M (List Val)} {ro : En} {h : HH} : sMtT f mo ra ro h = obind (mo ro h) fun w h1 => mtT f ra ro w h1 := rfl
@[simp] theorem mtT_t {f : Val → List Val → M Val} {ra : En → M (List Val)} {ro : En} {h : HH} {xs : List Val} : mtT f ra ro (.tup xs) h = obind (ra ro h) fun ws h1 => f (.tup xs) ws h1 := rfl
def mtL (f : Val → List Val → M Val) (ra : En → M (List Val)) (ro : En) (w : Val) : M Val := fun h => match w with
  | .ref n => match h[n]? with
    | some (.lst _) => obind (ra ro h) fun ws => f (.ref n) ws
    | _ => .bad
  | _ => .bad
@[simp] theorem sMtL_e {f : Val → List Val → M Val} {mo : SE} {ra : En → M (List Val)} {ro : En} {h : HH} : sMtL f mo ra ro h = obind (mo ro h) fun w h1 => mtL f ra ro w h1 := rfl
theorem mtL_r {f : Val → List Val → M Val} {ra : En → M (List Val)} {ro : En} {h : HH} {n : Nat} {xs : List Val} (e : h[n]? = some (.lst xs)) : mtL f ra ro (.ref n) h = obind (ra ro h) fun ws h1 => f (.ref n) ws h1 := by
  unfold mtL
  dsimp only
  rw [e]
end Z
namespace Z
open PySem PySem.Spec PyProof.Rows L2
theorem gSb_e {mo mi : SE} {w : Val} {ro : En} {h h1 h2 : HH} {n j : Nat} {i : Int} {xs : List Val} (e1 : mo ro h = .ok (.ref n) h1) (e2 : mi ro h1 = .ok (.int i) h2) (e3 : h2[n]? = some (.lst xs)) (e4 : ixN xs.length i = some j) :
    gSb mo mi w ro h = .go .nx ro (h2.set n (.lst (xs.set j w))) := by
  unfold gSb
  rw [e1]
  dsimp only
  rw [e2]
  dsimp only
  rw [e3]
  dsimp only
  rw [e4]
theorem div_ii {i j : Int} {h : HH} (l : 0 < j) (u : j < 2 ^ 60) : bDiv (.int i) (.int j) h = .ok (.int (i / j)) h := by
  have c : CDivW i j := by
    refine ⟨l, ?_⟩
    have : j.natAbs < 2 ^ 60 := by omega
    have q : j.natAbs.log2 < 60 := (Nat.log2_lt (by omega)).mpr this
    omega
  show (if CDivW i j then _ else _) = _
  rw [if_pos c]
theorem mul_ii {i j : Int} {h : HH} (c : CMul i j) : bMul (.int i) (.int j) h = .ok (.int (i * j)) h := by
  show (if CMul i j then _ else _) = _
  rw [if_pos c]
theorem mul_iw {i j : Int} {h : HH} (c : CMul i j ∨ CMulW i j) : bMul (.int i) (.int j) h = .ok (.int (i * j)) h := by
  show (if CMul i j then _ else if CMulW i j then _ else _) = _
  by_cases d : CMul i j
  · rw [if_pos d]
  · rw [if_neg d, if_pos (c.resolve_left d)]
theorem bits_le {i : Int} {n : Nat} (u : i.natAbs < 2 ^ n) : Builtin.Int.intBits i ≤ n := by
  have b : ∀ x : Int, x.natAbs ≠ 0 → Builtin.Int.intBits x ≤ x.natAbs.log2 + 1 := fun x _ => by
    unfold Builtin.Int.intBits
    first
      | omega
      | (split <;> omega)
  by_cases z : i.natAbs = 0
  · have : i = 0 := by omega
    subst this
    exact Nat.zero_le _
  · have q : i.natAbs.log2 < n := (Nat.log2_lt z).mpr u
    have := b i z
    omega
theorem pow_ii {i : Int} {j n : Nat} {h : HH} (u : i.natAbs < 2 ^ n) (l : n * j ≤ 100000) : bPow (.int i) (.int (j : Nat)) h = .ok (.int (i ^ j)) h := by
  have c : CPowW i (j : Nat) := by
    refine ⟨by omega, ?_⟩
    have q := bits_le u
    have : Builtin.Int.intBits i * j ≤ n * j := Nat.mul_le_mul_right j q
    have e : ((Builtin.Int.intBits i : Nat) : Int) * (j : Nat) = ((Builtin.Int.intBits i * j : Nat) : Int) := by push_cast; rfl
    rw [e]
    omega
  show (if CPowW i (j : Nat) then _ else _) = _
  rw [if_pos c]
  rfl
/-- a bag of draws: the number's rest, the mix, the steps done -/
def Bag (b c : Nat) (h : HH) : Prop := ∃ f l s : Int, h[b]? = some (.lst [.int f, .int l, .int s]) ∧ 0 ≤ f ∧ 0 ≤ l ∧ l ≤ 2 ^ 40 ∧ 0 ≤ s ∧ s ≤ (c : Nat)
theorem Bag.mono {b c c' : Nat} {h : HH} (B : Bag b c h) (l : c ≤ c') : Bag b c' h := by
  obtain ⟨f, m, s, e, a1, a2, a3, a4, a5⟩ := B
  exact ⟨f, m, s, e, a1, a2, a3, a4, by omega⟩
theorem set_get {h : HH} {b : Nat} {x y : Ob} (e : h[b]? = some x) : (h.set b y)[b]? = some y := by
  rw [List.getElem?_set_self (List.getElem?_eq_some_iff.mp e).1]
end Z
namespace Z
open PySem PySem.Spec PyProof.Rows L2
theorem ix_any {xs : List Val} {v : Int} {h : HH} (h0 : 0 ≤ v) (h1 : v < (xs.length : Nat)) : ∃ w ∈ xs, bIx (.lst xs) (.int v) h = .ok w h := by
  obtain ⟨n, rfl⟩ := Int.eq_ofNat_of_zero_le h0
  have l : n < xs.length := by omega
  exact ⟨xs[n], List.getElem_mem l, ix_l (List.getElem?_eq_getElem l)⟩
theorem ix_anyT {xs : List Val} {v : Int} {h : HH} (h0 : 0 ≤ v) (h1 : v < (xs.length : Nat)) : ∃ w ∈ xs, bIx (.tup xs) (.int v) h = .ok w h := by
  obtain ⟨n, rfl⟩ := Int.eq_ofNat_of_zero_le h0
  have l : n < xs.length := by omega
  exact ⟨xs[n], List.getElem_mem l, ix_t (List.getElem?_eq_getElem l)⟩
/-- a loop that goes through to its end -/
theorem turns_inv {g : GM} {body : SS} {x : Itm} {n : Nat} (I : Nat → En → HH → Prop)
    (hn : ∀ i ro h, I i ro h → i < n → ∃ w ro1 h1 ro2 h2, nxt x i h = some (some w) ∧ g w ro h = .go .nx ro1 h1 ∧ body ro1 h1 = .go .nx ro2 h2 ∧ I (i + 1) ro2 h2)
    (he : ∀ ro h, I n ro h → nxt x n h = some none) : ∀ k i ro h, k + i = n → I i ro h → ∃ ro' h', turns g body x k i ro h = .go .nx ro' h' ∧ I n ro' h'
  | 0, i, ro, h, e, q => by
    have : i = n := by omega
    subst this
    refine ⟨ro, h, ?_, q⟩
    unfold turns
    rw [he ro h q]
  | k + 1, i, ro, h, e, q => by
    obtain ⟨w, ro1, h1, ro2, h2, e1, e2, e3, q2⟩ := hn i ro h q (by omega)
    obtain ⟨ro', h', e4, q3⟩ := turns_inv I hn he k (i + 1) ro2 h2 (by omega) q2
    refine ⟨ro', h', ?_, q3⟩
    unfold turns
    rw [e1]
    simp only [e2, e3]
    exact e4
theorem nums_get {n i : Nat} {lo : Int} (l : i < n) : (nums lo n)[i]? = some (.int (lo + (i : Nat))) := by
  unfold nums
  rw [List.getElem?_map, List.getElem?_range l]
  rfl
theorem nums_end {n : Nat} {lo : Int} : (nums lo n)[n]? = none := by
  unfold nums
  rw [List.getElem?_eq_none]
  simp
theorem fRg1 {n : Nat} {h : HH} (l : n ≤ 1000) : fRg [.int (n : Nat)] h = .ok (.st (nums 0 n), n) h := by
  have c : okR (n : Nat) = true ∧ (n : Int).toNat ≤ sizeLine := by
    refine ⟨?_, ?_⟩
    · unfold okR
      rw [decide_eq_true_eq]
      omega
    · have := sizeLine_eq
      omega
  have e : fRg [.int (n : Nat)] h = if okR (n : Nat) = true ∧ (n : Int).toNat ≤ sizeLine then .ok (.st (nums 0 (n : Int).toNat), (n : Int).toNat) h else .bad := rfl
  rw [e, if_pos c, Int.toNat_natCast]
theorem app_l {n : Nat} {xs : List Val} {y : Val} {h : HH} (e : h[n]? = some (.lst xs)) (l : xs.length ≤ 100000) : mApp (.ref n) [y] h = .ok .non (h.set n (.lst (xs ++ [y]))) := by
  show (match h[n]? with | some (.lst xs) => putL n (xs ++ [y]) .non h | _ => .bad) = _
  rw [e]
  show (if (xs ++ [y]).length ≤ sizeLine then _ else _) = _
  rw [if_pos (by rw [List.length_append, List.length_singleton]; have := sizeLine_eq; omega)]
theorem pop_l {n i : Nat} {xs : List Val} {y : Val} {h : HH} (e : h[n]? = some (.lst xs)) (e2 : xs[i]? = some y) (l : xs.length ≤ 1000) : mPopAt (.ref n) [.int (i : Nat)] h = .ok y (h.set n (.lst (xs.eraseIdx i))) := by
  have li := (List.getElem?_eq_some_iff.mp e2).1
  show (match h[n]? with
    | some (.lst xs) => if 0 ≤ ((i : Nat) : Int) ∧ ((i : Nat) : Int) < (xs.length : Nat) then (match xs[((i : Nat) : Int).toNat]? with
        | some y => putL n (xs.eraseIdx ((i : Nat) : Int).toNat) y h
        | none => .bad) else .bad
    | _ => .bad) = _
  rw [e]
  dsimp only
  rw [if_pos ⟨by omega, by omega⟩, Int.toNat_natCast, e2]
  show (if (xs.eraseIdx i).length ≤ sizeLine then _ else _) = _
  rw [if_pos (by have := L2.len_erase xs i; have := sizeLine_eq; omega)]
theorem len_r {n : Nat} {xs : List Val} {h : HH} (e : h[n]? = some (.lst xs)) : fLen [.ref n] h = .ok (.int (xs.length : Nat)) h := by
  show (match items (.ref n) h with | some xs => Out.ok (Val.int (xs.length : Nat)) h | none => .bad) = _
  have : items (.ref n) h = some xs := by unfold items; dsimp only; rw [e]
  rw [this]
theorem tpl_r {n : Nat} {xs : List Val} {h : HH} (e : h[n]? = some (.lst xs)) : fTpl [.ref n] h = .ok (.tup xs) h := by
  show (match h[n]? with | some (.lst xs) => Out.ok (Val.tup xs) h | _ => .bad) = _
  rw [e]
end Z
namespace Z
open PySem PySem.Spec PyProof.Rows L2
@[simp] theorem sl_t {xs : List Val} {lo hi : Option Int} {h : HH} : bSl (.tup xs) lo hi h = .ok (.tup (cutW xs lo hi)) h := rfl
theorem cut_mem {xs : List Val} {lo hi : Option Int} {w : Val} (h : w ∈ cutW xs lo hi) : w ∈ xs := List.mem_of_mem_drop (List.mem_of_mem_take h)
theorem cut_pl {xs : List Val} {lo hi : Option Int} (h : ∀ w ∈ xs, pl w = true) : ∀ w ∈ cutW xs lo hi, pl w = true := fun w hw => h w (cut_mem hw)
theorem add_tt {xs ys : List Val} {h : HH} (l : xs.length + ys.length ≤ 10000) : bAdd (.tup xs) (.tup ys) h = .ok (.tup (xs ++ ys)) h := by
  show (if xs.length + ys.length ≤ sizeLine then Out.ok (Val.tup (xs ++ ys)) h else .bad) = _
  rw [if_pos (by have := sizeLine_eq; omega)]
theorem lof_t {xs : List Val} {h : HH} (l : xs.length ≤ 100000) : fLof [.tup xs] h = .ok (.lst xs) h := by
  show (if xs.length ≤ sizeLine then Out.ok (Val.lst xs) h else .bad) = _
  rw [if_pos (by have := sizeLine_eq; omega)]
theorem pl_app {xs ys : List Val} (h1 : ∀ w ∈ xs, pl w = true) (h2 : ∀ w ∈ ys, pl w = true) : ∀ w ∈ xs ++ ys, pl w = true := fun w hw => by
  rcases List.mem_append.mp hw with hw | hw
  · exact h1 w hw
  · exact h2 w hw
theorem pl_one {a : Val} (h : pl a = true) : ∀ w ∈ [a], pl w = true := fun w hw => by rw [List.mem_singleton.mp hw]; exact h
theorem pl_3 {a b c : Val} (h1 : pl a = true) (h2 : pl b = true) (h3 : pl c = true) : pl (.tup [a, b, c]) = true := by
  refine pl_tup (by simp) fun w hw => ?_
  simp only [List.mem_cons, List.not_mem_nil, or_false] at hw
  rcases hw with rfl | rfl | rfl <;> assumption
end Z
set_option Elab.async false
set_option maxRecDepth 100000
set_option linter.unusedVariables false
/-! ZR: repr of plain data, texts times numbers, split, join, count of fixed lists, in range, is True. -/
namespace Z
open PySem PySem.Spec PyProof.Rows L2
theorem zb_repr : bootBuiltins "repr" = some (.builtin "repr") := by first | rfl | decide +kernel
theorem zb_range : bootBuiltins "range" = some (.type "range") := by first | rfl | decide +kernel
section
variable {X : Cx}
def rRepr (K : PySem.W.Frag) : List V → Hp → VK → Prop := fun xs H Q => ∃ x d, xs = [x] ∧ Dp K H x d ∧ d.canLay0 = true ∧ d.showable = true ∧ d.depth ≤ 60 ∧ d.shown.length ≤ sizeLine ∧ Q (.str d.shown) H
theorem call_reprD (hg : X.A.guards = some []) (hu : X.A.units + 64 < cLine) : CallR X (.builtin "repr") (rRepr X.K) := by
  intro pins s σ H xs us Q I r h
  obtain ⟨x, d, rfl, hd, hl, hs, hdp, hz, q⟩ := h
  obtain ⟨v, rfl, rx⟩ := vals1 r
  obtain ⟨as, r1⟩ := Dp.reads I d x v hd rx
  have fin : ∀ h' u tk, (∀ b o, s.heap.get? b = some o → h'.get? b = some o) → EP X pins σ Q (.str d.shown u) { s with heap := h', toks := tk } :=
    fun h' u tk k => ⟨.str d.shown, H, I.kept k, ⟨u, rfl⟩, q⟩
  have nd := PyData.noDict_hsm (as := as) (PyData.hasDict_of_canLay d hl)
  cases d with
  | none => cases r1; exact PySem.P.repr_of_none (fin s.heap _ _ fun _ _ e => e)
  | bool b => cases r1; exact PySem.P.repr_of_bool (fin s.heap _ _ fun _ _ e => e)
  | int i => cases r1; exact PySem.P.repr_of_int (by simpa [PyData.showable] using hs) (fin s.heap _ _ fun _ _ e => e)
  | str y => cases r1; exact PySem.P.repr_of_str (fin s.heap _ _ fun _ _ e => e) (by simpa only [PyData.shown] using hz)
  | list xs =>
    obtain ⟨a, rfl⟩ := isRef_of_reads r1 rfl
    exact repr_of_reads' r1 hs nd hg (by omega) (fun _ _ e => e) fin hz
  | tuple xs =>
    obtain ⟨a, rfl⟩ := isRef_of_reads r1 rfl
    exact repr_of_reads' r1 hs nd hg (by omega) (fun _ _ e => e) fin hz
  | dict kvs => simp [PyData.canLay0] at hl
end
def fRepr (ws : List Val) : M Val := fun h => match ws with
  | [w] => match rd w h with
    | some a => if okV a = true ∧ (toD a).showable = true ∧ (toD a).depth ≤ 60 ∧ (toD a).shown.length ≤ sizeLine then .ok (.str (toD a).shown) h else .bad
    | none => .bad
  | _ => .bad
theorem lk_repr {K : PySem.W.Frag} : Lks K fRepr (rRepr K) := by
  intro W al B sg H h ws vs Q hr rs p
  unfold fRepr at p
  split at p
  · rename_i w
    obtain ⟨v, rfl, r⟩ := rs.one
    cases e1 : rd w h with
    | none => rw [e1] at p; exact p.elim
    | some a =>
      rw [e1] at p
      dsimp only at p
      split at p
      · rename_i c
        exact ⟨v, _, rfl, rd_dp hr r e1 c.1, lay_of _ c.1, c.2.1, c.2.2.1, c.2.2.2, Po.now p hr (.str _)⟩
      · exact p.elim
  · exact p.elim
/-! ### a text times a number -/
def timesS (x : Str) (n : Nat) : Str := ⟨(List.replicate n x.cps.toList).flatten.toArray⟩
def rMulS : R2 := fun x y H Q => ∃ (a : Str) (k : Nat), x = .str a ∧ y = .int k ∧ a.length ≤ 1000 ∧ k ≤ 10000 ∧ Q (.str (timesS a k)) H
theorem foldl_cat : ∀ (l : List (Array Nat)) (a : Array Nat), l.foldl (· ++ ·) a = (a.toList ++ (l.map Array.toList).flatten).toArray
  | [], a => by simp
  | b :: l, a => by
    show l.foldl (· ++ ·) (a ++ b) = _
    rw [foldl_cat l (a ++ b)]
    simp
theorem rep_len {β : Type} (l : List β) : ∀ n, (List.replicate n l).flatten.length = n * l.length
  | 0 => by simp
  | n + 1 => by
    rw [List.replicate_succ, List.flatten_cons, List.length_append, rep_len l n, Nat.succ_mul, Nat.add_comm]
theorem op_mulS {X : Cx} : OpR X (binaryOp .Mult) rMulS := by
  intro pins s σ H x y v u Q I rx ry h
  obtain ⟨a, k, rfl, rfl, ha, hk, q⟩ := h
  obtain ⟨t, rfl⟩ := rx
  obtain ⟨t2, rfl⟩ := ry
  have hz := sizeLine_eq
  have hm : a.length * k ≤ 10000000 := Nat.mul_le_mul ha hk
  refine PySem.P.mul_str ?_ ?_ ?_ ?_
  · have h1 : ¬ ((k : Int) < -(2 ^ 63 : Int)) := by omega
    have h2 : ¬ ((k : Int) ≥ 2 ^ 63) := by omega
    rw [decide_eq_false h1, decide_eq_false h2]; rfl
  · intro h1 _ h3
    have : (1000 : Int) ≤ (2 ^ 63 - 1) / (k : Int) := by
      rw [Int.le_ediv_iff_mul_le (by omega)]
      omega
    omega
  · intro _ _
    rw [Int.toNat_natCast]
    simp only [Builtin.Str.tooLong, decide_eq_false_iff_not]
    omega
  · by_cases h1 : (k : Int) < 1
    · rw [if_pos h1]
      have : k = 0 := by omega
      subst this
      exact ⟨by decide, .str _, H, I.tok _, ⟨_, rfl⟩, q⟩
    · rw [if_neg h1]
      by_cases h2 : ((k : Int) == 1 || a.length == 0) = true
      · rw [if_pos h2]
        have e : timesS a k = a := by
          unfold timesS
          simp only [Bool.or_eq_true, beq_iff_eq] at h2
          rcases h2 with h2 | h2
          · have : k = 1 := by omega
            subst this
            simp
          · have : a.cps = #[] := Array.size_eq_zero_iff.mp h2
            obtain ⟨c⟩ := a
            simp only at this
            subst this
            simp
        rw [e] at q
        exact ⟨.str _, H, I, ⟨t, rfl⟩, q⟩
      · rw [if_neg h2]
        have e : (⟨(List.replicate (k : Int).toNat a.cps).foldl (· ++ ·) #[]⟩ : Str) = timesS a k := by
          unfold timesS
          rw [foldl_cat, Int.toNat_natCast]
          simp
        rw [e]
        refine ⟨?_, .str _, H, I.tok _, ⟨_, rfl⟩, q⟩
        show (timesS a k).cps.size ≤ sizeLine
        unfold timesS
        simp only [List.size_toArray, rep_len]
        have : k * a.length ≤ 10000000 := by rw [Nat.mul_comm]; exact hm
        have e3 : a.cps.toList.length = a.length := rfl
        rw [e3]
        omega
def bMulS (w1 w2 : Val) : M Val := fun h => match w1, w2 with
  | .str x, .int k => if 0 ≤ k ∧ k ≤ 10000 ∧ x.length ≤ 1000 then .ok (.str (timesS x k.toNat)) h else .bad
  | w1, w2 => bMul w1 w2 h
theorem lk_mulS {K : PySem.W.Frag} : Lk2 K bMulS (fun x y H Q => rMulS x y H Q ∨ rI CMul (fun i j => .int (i * j)) x y H Q ∨ rI CMulW (fun i j => .int (i * j)) x y H Q) := by
  intro W al B sg H h w1 w2 v1 v2 Q hr r1 r2 p
  unfold bMulS at p
  split at p
  · cases r1; cases r2
    split at p
    · rename_i k c
      obtain ⟨n, rfl⟩ := Int.eq_ofNat_of_zero_le c.1
      exact .inl ⟨_, n, rfl, rfl, c.2.2, by omega, Po.now p hr (.str _)⟩
    · exact p.elim
  · exact .inr (lk_mul W al B sg H h w1 w2 v1 v2 Q hr r1 r2 p)
theorem op_mulSZ {X : Cx} : OpR X (binaryOp .Mult) (fun x y H Q => rMulS x y H Q ∨ rI CMul (fun i j => .int (i * j)) x y H Q ∨ rI CMulW (fun i j => .int (i * j)) x y H Q) := op_mulS.or op_mulZ
/-! ### x.split(y), x.join(ys) -/
section
variable {X : Cx} {W : WX} {o e : Expr} {mo m : SE} {name : Str} {id : String} {apos cpos pos : Pos}
def sSm (f : Val → Val → M Val) (mo m : SE) : SE := fun ro => bind (mo ro) fun w => match w with
  | .str x => bind (m ro) fun y => f (.str x) y
  | _ => fail
theorem oe_sm1 {r : V → List V → Hp → VK → Prop} {f : Val → Val → M Val} (slot : Slot "str" name id) (hty : typeOf (.builtin id) = pure (.type "method_descriptor")) (hm : MtR X id r)
    (lk : ∀ (W : WX) al B sg H h x w v (Q : VK), HR X.K al B H h → Rep X.K al B H w v → Po X.K B (fun al H => Rep X.K al B H) sg al H (f (.str x) w h) W Q → r (.str x) [v] H Q)
    (ho : PE X o (tE X.K W mo)) (he : PE X e (tE X.K W m)) (hs : starEach [e] X.env = [(false, eval e X.env)]) (hbase : attributeBase o name X.env (eval o X.env) = eval o X.env) (hline : (apos.endLine == pos.line) = true) :
    PE X (.Call (.Attribute o name apos) [e] [] pos) (tE X.K W (sSm f mo m)) := by
  refine PE.weak (pe_m1 slot hty hm ho he hs hbase hline) ?_
  rintro sg H Q ⟨al, B, ro, h, S, p⟩
  refine ⟨al, B, ro, h, S, Po.mono (Po.bind p) fun v H1 ⟨al1, h1, w, st, hr, r1, q⟩ => ?_⟩
  cases r1 with
  | str x =>
    refine ⟨⟨x, rfl⟩, al1, B, ro, h1, S.step st hr, Po.mono (Po.bind q) fun u H2 ⟨al2, h2, w2, st2, hr2, r2, q2⟩ => ?_⟩
    exact lk W al2 B sg H2 h2 x w2 u Q hr2 r2 q2
  | _ => exact q.elim
def rSplit : V → List V → Hp → VK → Prop := fun x xs H Q => ∃ a b, x = .str a ∧ xs = [.str b] ∧ (b.length == 0) = false ∧ a.length + 2 ≤ sizeLine ∧ rNewStrs (Txt.split a b) H Q
def mSplit (w1 w2 : Val) : M Val := fun h => match w1, w2 with
  | .str a, .str b => if (b.length == 0) = false ∧ a.length ≤ 10000000 then .ok (.lst ((Txt.split a b).map Val.str)) h else .bad
  | _, _ => .bad
theorem lk_split {K : PySem.W.Frag} : ∀ (W : WX) al B sg H h x w v (Q : VK), HR K al B H h → Rep K al B H w v → Po K B (fun al H => Rep K al B H) sg al H (mSplit (.str x) w h) W Q → rSplit (.str x) [v] H Q := by
  intro W al B sg H h x w v Q hr r p
  cases r with
  | str b =>
    unfold mSplit at p
    dsimp only at p
    split at p
    · rename_i c
      have hz := sizeLine_eq
      refine ⟨x, b, rfl, rfl, c.1, by omega, fun q hq => ?_⟩
      have l : (Txt.split x b).length ≤ sizeLine := Nat.le_trans (PyProof.Rows.split_le x b) (by omega)
      exact p al _ _ (Stp.lay hq) (hr.lay hq) (.lst (At1.lay hr hq) (by rw [List.length_map]; exact l) (Reps.map (fun x => .str x) _))
    · exact p.elim
  | _ => exact p.elim
def rJoin (K : PySem.W.Frag) : V → List V → Hp → VK → Prop := fun x xs H Q => ∃ a p, ∃ ys : List Str, x = .str a ∧ xs = [.ref p] ∧ (SqL K H p (ys.map V.str) ∨ SqT K H p (ys.map V.str)) ∧ (ys.map (·.length)).sum + ys.length * a.length ≤ 16777216 ∧ Q (.str (Txt.join a ys)) H
def mJoin (w1 w2 : Val) : M Val := fun h => match w1, w2 with
  | .str a, w2 => match items w2 h with
    | some xs => match txts xs with
      | some ys => if (ys.map (·.length)).sum + ys.length * a.length ≤ 16777216 then .ok (.str (Txt.join a ys)) h else .bad
      | none => .bad
    | none => .bad
  | _, _ => .bad
theorem lk_join {K : PySem.W.Frag} : ∀ (W : WX) al B sg H h x w v (Q : VK), HR K al B H h → Rep K al B H w v → Po K B (fun al H => Rep K al B H) sg al H (mJoin (.str x) w h) W Q → rJoin K (.str x) [v] H Q := by
  intro W al B sg H h x w v Q hr r p
  unfold mJoin at p
  dsimp only at p
  cases e : items w h with
  | none => rw [e] at p; exact p.elim
  | some xs =>
    rw [e] at p
    dsimp only at p
    obtain ⟨a, vs, rfl, q, s⟩ := items_sq hr r e
    cases e2 : txts xs with
    | none => rw [e2] at p; exact p.elim
    | some ys =>
      rw [e2] at p
      dsimp only at p
      split at p
      · rename_i c
        have := txts_rep s e2
        subst this
        exact ⟨x, a, ys, rfl, rfl, q, c, Po.now p hr (.str _)⟩
      · exact p.elim
end
/-! ### xs.count(y), xs a list that stays -/
section
variable {X : Cx} {W : WX} {o e : Expr} {mo m : SE} {ra : En → M (List Val)} {apos cpos pos : Pos}
def rCntF (K : PySem.W.Frag) : V → List V → Hp → VK → Prop := fun x xs H Q => ∃ p ys y, x = .ref p ∧ xs = [y] ∧ SqL K H p ys ∧ flatV y = true ∧ ys.all flatV = true ∧ Q (.int ((ys.countP fun z => eqV z y : Nat) : Int)) H
theorem mt_cntF : MtR X "list.count" (rCntF X.K) := by
  intro pins s σ H x xs v us Q I rx rxs h
  obtain ⟨p, ys, y, rfl, rfl, hs, fy, fs, q⟩ := h
  cases rx
  obtain ⟨u, rfl, ru⟩ := vals1 rxs
  obtain ⟨its, r', ⟨⟨cls, dd, data, sl⟩, n, ho, hc, hdn, hd⟩, hlen⟩ := I.list hs
  simp only at hc hd
  subst hc hd
  refine call_meets PySem.F.slot_list_count ⟨_, ho, rfl⟩ PySem.F.entry_list_count (PySem.F.args_list_count_2 _ _) (SeqAt.list_countAt p its.toArray n dd sl u (eqU y))
    ⟨ho, fun z hz => mem_eqAt ru fy r' fs z (by simpa using hz), ⟨.int _, H, I.tok _, ⟨s.toks, ?_⟩, q⟩⟩
  show Value.int ((its.toArray.toList.countP (eqU y) : Nat) : Int) s.toks = _
  rw [show its.toArray.toList = its from rfl, countP_eqU r' fs]
def mCntL (w : Val) (ws : List Val) : M Val := fun h => match w, ws with
  | .lst xs, [y] => if flat y = true ∧ xs.all flat = true then .ok (.int ((xs.countP fun z => eqF z y : Nat) : Int)) h else .bad
  | _, _ => .bad
def sMtI (f : Val → List Val → M Val) (mo : SE) (ra : En → M (List Val)) : SE := fun ro => bind (mo ro) fun w h => match w with
  | .lst xs => bind (ra ro) (fun ws => f (.lst xs) ws) h
  | _ => .bad
theorem oe_cntL (ho : PE X o (tE X.K W mo)) (ha : PA X [e] (tA X.K W ra)) (hbase : attributeBase o "count" X.env (eval o X.env) = eval o X.env)
    (hfew : ((backTo cpos (starEach [e] X.env)).all (fun x => !x.1) && (backToKw cpos (keywordEach [] X.env)).all (fun x => x.1.isSome) && decide (([e] : List Expr).length + ([] : List Keyword).length + (if ([] : List Keyword).isEmpty then 0 else 1) < 30)) = true)
    (hline : (apos.endLine == cpos.line) = true) (hs : starEach [e] X.env = (false, eval e X.env) :: starEach [] X.env) (hplain : (backTo cpos (starEach [] X.env)).any (·.1) = false) :
    PE X (.Call (.Attribute o "count" apos) [e] [] cpos) (tE X.K W (sMtI mCntL mo ra)) := by
  refine PE.weak (pe_bm PySem.F.plainAttrs_list PySem.F.slot_list_count PySem.F.type_list_count mt_cntF ho ha hbase hfew hline hs hplain) ?_
  rintro sg H Q ⟨al, B, ro, h, S, p⟩
  refine ⟨al, B, ro, h, S, Po.mono (Po.bind p) fun v H1 ⟨al1, h1, w, st, hr, r1, q⟩ => ?_⟩
  cases r1 with
  | lst a l s =>
    refine ⟨.inl ⟨rfl, _, SqL.of a.1⟩, al1, B, ro, h1, S.step st hr, Po.mono (Po.bind q) fun vs H2 ⟨al2, h2, ws, st2, hr2, rs, q2⟩ => ?_⟩
    unfold mCntL at q2
    split at q2
    · rename_i e1
      cases e1
      obtain ⟨y, rfl, ry⟩ := rs.one
      split at q2
      · rename_i c
        refine ⟨_, _, y, rfl, rfl, SqL.of (a.step st2).1, flat_rep ry c.1, flats_rep (s.step st2) c.2, ?_⟩
        rw [cnt_rep ry c.1 (s.step st2) c.2]
        exact Po.now q2 hr2 (.int _)
      · exact q2.elim
    · exact q2.elim
  | _ => exact q.elim
end
/-! ### x is True -/
def bIsB (neg : Bool) (w1 w2 : Val) : M Val := fun h => match w2 with
  | .bl b => .ok (.bl (neg ^^ (match w1 with | .bl a => a == b | _ => false))) h
  | _ => .bad
def rIsB (neg : Bool) : R2 := fun x y H Q => ∃ b, y = .bl b ∧ Q (.bl (neg ^^ decide (x = .bl b))) H
theorem op_isB {X : Cx} : OpR X (compareOp .Is) (rIsB false) := by
  intro pins s σ H x y v u Q I rx ry h
  obtain ⟨b, rfl, q⟩ := h
  cases ry
  cases x with
  | bl z => cases rx; cases z <;> cases b <;> exact wpAny_pure (fin_bl I q rfl)
  | _ => first
    | (cases rx; cases b <;> exact wpAny_pure (fin_bl I q rfl))
    | (obtain ⟨t, rfl⟩ := rx; cases b <;> exact wpAny_pure (fin_bl I q rfl))
theorem op_isnotB {X : Cx} : OpR X (compareOp .IsNot) (rIsB true) := by
  intro pins s σ H x y v u Q I rx ry h
  obtain ⟨b, rfl, q⟩ := h
  cases ry
  cases x with
  | bl z => cases rx; cases z <;> cases b <;> exact wpAny_pure (fin_bl I q rfl)
  | _ => first
    | (cases rx; cases b <;> exact wpAny_pure (fin_bl I q rfl))
    | (obtain ⟨t, rfl⟩ := rx; cases b <;> exact wpAny_pure (fin_bl I q rfl))
theorem lk_isB {K : PySem.W.Frag} (neg : Bool) : Lk2 K (bIsB neg) (rIsB neg) := by
  intro W al B sg H h w1 w2 v1 v2 Q hr r1 r2 p
  unfold bIsB at p
  split at p
  · cases r2
    rename_i b
    refine ⟨b, rfl, ?_⟩
    have q := Po.now p hr (.bl _)
    cases r1 with
    | bl c => cases c <;> cases b <;> simpa using q
    | _ => simpa using q
  · exact p.elim
/-! ### x in range(a, b) -/
section
variable {X : Cx} {W : WX} {x a b : Expr} {mx : SE} {ra : En → M (List Val)} {pos rpos npos : Pos}
def sInR (neg : Bool) (mx : SE) (ra : En → M (List Val)) : SE := fun ro => bind (mx ro) fun w => bind (ra ro) fun ws => match w, ws with
  | .int i, [.int lo, .int hi] => ret (.bl (neg ^^ decide (lo ≤ i ∧ i < hi)))
  | _, _ => fail
def rInR (neg : Bool) : R2 := fun x y H Q => ∃ i a lo hi, x = V.int i ∧ y = V.ref a ∧ H a = some (.rng lo hi) ∧ Q (.bl (neg ^^ decide (lo ≤ i ∧ i < hi))) H
theorem op_inR : OpR X (compareOp .In) (rInR false) := by
  intro pins s σ H x y v u Q I rx ry h
  obtain ⟨i, a, lo, hi, e1, e2, e3, q⟩ := h
  exact op_in_rng pins s σ H x y v u Q I rx ry ⟨i, a, lo, hi, e1, e2, e3, by simpa using q⟩
theorem op_notInR : OpR X (compareOp .NotIn) (rInR true) := by
  intro pins s σ H x y v u Q I rx ry h
  obtain ⟨i, a, lo, hi, rfl, rfl, ha, q⟩ := h
  obtain ⟨k, rfl⟩ := rx
  obtain rfl : u = Value.ref a := ry
  obtain ⟨t1, t2, t3, ho⟩ := I.hok a _ ha
  show wpAny _ _ (do return Value.bool (!(← contains (Value.ref a) (Value.int i k)))) _ _ s
  refine wpAny_bind (wpAny_contains_slot (T := "range") ⟨_, ho, rfl⟩ F.slot_range_contains (call_meets F.slot_range_contains ⟨_, ho, rfl⟩ F.entry_range_contains (F.args_range_contains_2 _ _) (q_contains a lo hi i t1 t2 t3 k) ⟨ho, ?_⟩))
  refine wpAny_truthy_bool (wpAny_pure ⟨.bl _, H, I, rfl, ?_⟩)
  rw [place1]
  simpa using q
theorem tE_inR {neg : Bool} (sg : L2.St) (H : Hp) (Q : VK) (p : tE X.K W (sInR neg mx ra) sg H Q) : tOp (rInR neg) (tE X.K W mx) (tCB (fun vs H Q => ∃ i j, vs = [V.int i, V.int j] ∧ ∀ p, H p = none → Q (.ref p) (upd H p (.rng i j))) (tA X.K W ra)) sg H Q := by
  obtain ⟨al, B, ro, h, S, p⟩ := p
  refine ⟨al, B, ro, h, S, Po.mono (Po.bind p) fun v1 H1 ⟨al1, h1, w1, st1, hr1, r1, p1⟩ => ?_⟩
  refine ⟨al1, B, ro, h1, S.step st1 hr1, Po.mono (Po.bind p1) fun v2 H2 ⟨al2, h2, w2, st2, hr2, r2, p2⟩ => ?_⟩
  split at p2
  · rename_i i lo hi _
    cases r1
    obtain ⟨a, b, rfl, ra, rb⟩ := r2.two
    cases ra; cases rb
    exact ⟨lo, hi, rfl, fun q hq => ⟨i, q, lo, hi, rfl, rfl, upd_same, p2 al2 _ _ (Stp.lay hq) (hr2.lay hq) (.bl _)⟩⟩
  · exact p2.elim
theorem oe_inR {op : CmpOp} {neg : Bool} (ho : OpR X (compareOp op) (rInR neg)) (hm : behindInMarks op (.Call (.Name "range" npos) [a, b] [] rpos) = false) (hg : Gl X "range") (hmg : X.mg "range" = none) (hx : PE X x (tE X.K W mx)) (ha : PA X [a, b] (tA X.K W ra))
    (he : starEach [a, b] X.env = (false, eval a X.env) :: starEach [b] X.env) (hpl : (backTo rpos (starEach [b] X.env)).any (·.1) = false) : PE X (.Compare x [op] [.Call (.Name "range" npos) [a, b] [] rpos] pos) (tE X.K W (sInR neg mx ra)) :=
  PE.weak (pe_cmpR ho hx (pe_callTy cr_range2 hg hmg zb_range ha (by decide) (by decide) he hpl) hm) tE_inR
theorem ot_inR {op : CmpOp} {neg : Bool} (ho : OpR X (compareOp op) (rInR neg)) (hm : behindInMarks op (.Call (.Name "range" npos) [a, b] [] rpos) = false) (hg : Gl X "range") (hmg : X.mg "range" = none) (hx : PE X x (tE X.K W mx)) (ha : PA X [a, b] (tA X.K W ra))
    (he : starEach [a, b] X.env = (false, eval a X.env) :: starEach [b] X.env) (hpl : (backTo rpos (starEach [b] X.env)).any (·.1) = false) : PT X (.Compare x [op] [.Call (.Name "range" npos) [a, b] [] rpos] pos) (tT X.K W (asT (sInR neg mx ra))) := by
  refine PT.weak (pt_cmpR ho hx (pe_callTy cr_range2 hg hmg zb_range ha (by decide) (by decide) he hpl) hm) ?_
  rintro sg H Q ⟨al, B, ro, h, S, p⟩
  refine tE_inR sg H _ ⟨al, B, ro, h, S, Po.mono (Po.bind p) fun v1 H1 ⟨al1, h1, w1, st1, hr1, r1, p1⟩ => ?_⟩
  cases r1 <;> first | exact p1.elim | exact ⟨_, rfl, Po.now p1 hr1 rfl⟩
end
end Z
set_option Elab.async false
set_option maxRecDepth 100000
set_option linter.unusedVariables false
set_option linter.unusedSimpArgs false
/-! ZM: evaluation lemmas for ZR's things. -/
namespace Z
open PySem PySem.Spec PyProof.Rows L2
@[simp] theorem sSm_s {f : Val → Val → M Val} {mo m : SE} {ro : En} {h : HH} : sSm f mo m ro h = obind (mo ro h) fun w h1 => (match w with | .str x => bind (m ro) fun y => f (.str x) y | _ => fail) h1 := rfl
def mtI (f : Val → List Val → M Val) (ra : En → M (List Val)) (ro : En) (w : Val) : M Val := fun h => match w with
  | .lst xs => obind (ra ro h) fun ws => f (.lst xs) ws
  | _ => .bad
@[simp] theorem sMtI_e {f : Val → List Val → M Val} {mo : SE} {ra : En → M (List Val)} {ro : En} {h : HH} : sMtI f mo ra ro h = obind (mo ro h) fun w h1 => mtI f ra ro w h1 := rfl
@[simp] theorem mtI_l {f : Val → List Val → M Val} {ra : En → M (List Val)} {ro : En} {h : HH} {xs : List Val} : mtI f ra ro (.lst xs) h = obind (ra ro h) fun ws h1 => f (.lst xs) ws h1 := rfl
def inRv (neg : Bool) (w : Val) (ws : List Val) : M Val := match w, ws with
  | .int i, [.int lo, .int hi] => ret (.bl (neg ^^ decide (lo ≤ i ∧ i < hi)))
  | _, _ => fail
@[simp] theorem sInR_e {neg : Bool} {mx : SE} {ra : En → M (List Val)} {ro : En} {h : HH} : sInR neg mx ra ro h = obind (mx ro h) fun w h1 => obind (ra ro h1) fun ws h2 => inRv neg w ws h2 := rfl
@[simp] theorem inRv_e {neg : Bool} {i lo hi : Int} {h : HH} : inRv neg (.int i) [.int lo, .int hi] h = .ok (.bl (neg ^^ decide (lo ≤ i ∧ i < hi))) h := rfl
theorem cntL_t {w : Val} {xs : List Val} {h : HH} (f : flat w = true) (g : xs.all flat = true) : mCntL (.lst xs) [w] h = .ok (.int ((xs.countP fun z => eqF z w : Nat) : Int)) h := by
  show (if flat w = true ∧ xs.all flat = true then _ else _) = _
  rw [if_pos ⟨f, g⟩]
/-! texts joined by nothing -/
theorem str_of_tl {x : Str} {l : List Nat} (e : x.cps.toList = l) : x = ⟨l.toArray⟩ := by
  subst e
  obtain ⟨c⟩ := x
  rfl
theorem joinL_nil : ∀ ls : List (List Nat), TL.joinL [] ls = ls.flatten
  | [] => rfl
  | [p] => by simp [TL.joinL]
  | p :: q :: r => by
    show p ++ ([] ++ TL.joinL [] (q :: r)) = _
    rw [joinL_nil (q :: r)]
    simp
theorem join_one (cs : List Nat) : Txt.join "" (cs.map fun c => (⟨#[c]⟩ : Str)) = ⟨cs.toArray⟩ := by
  refine str_of_tl ?_
  show TL.tl (Txt.join "" _) = cs
  rw [TL.join_eq, TL.tl_join, List.map_map]
  show TL.joinL [] _ = cs
  rw [joinL_nil]
  induction cs with
  | nil => rfl
  | cons c cs ih =>
    rw [List.map_cons, List.flatten_cons, ih]
    rfl
/-! comprehensions, more of them -/
theorem sLc_gen {mi : SI} {g : GM} {m : SE} {own : List Nat} {ro : En} {h : HH} {xs : List Val} (f : Val → Val) (e : mi ro h = .ok (.st xs, xs.length) h) (hf : ∀ w ∈ xs, ∃ ro1, g w (wipeN ro own) h = .go .nx ro1 h ∧ m ro1 h = .ok (f w) h) :
    sLc mi g tYesZ m own ro h = .ok (.lst (xs.map f)) h := by
  show obind (mi ro h) _ = _
  rw [e]
  show obind (lcTurns g tYesZ m (wipeN ro own) (.st xs) xs.length 0 [] h) _ = _
  have q := lc_list (g := g) (t := tYesZ) (m := m) (ro := wipeN ro own) (h := h) (fun w => [f w]) xs xs xs.length 0 [] (by simp) rfl fun w hw => by
    obtain ⟨ro1, e1, e2⟩ := hf w hw
    exact ⟨ro1, e1, .inl ⟨rfl, _, e2, rfl⟩⟩
  rw [q]
  simp only [List.nil_append, ← List.map_eq_flatMap, ob_ok, ret_e]
theorem lc2_gen {g : GM} {mi : SI} {g1 : GM} {m : SE} {vs1 : List Nat} {ro : En} {h : HH} (F : Val → List Val) : ∀ (xs ys : List Val) (k i : Nat) (acc : List Val), ys.drop i = xs → k = xs.length → acc.length + 1000 * xs.length ≤ 1000000 →
    (∀ w ∈ xs, ∃ ro1 zs f, g w ro h = .go .nx ro1 h ∧ mi ro1 h = .ok (.st zs, zs.length) h ∧ zs.length ≤ 1000 ∧ F w = zs.map f ∧ ∀ z ∈ zs, ∃ ro2, g1 z (wipeN ro1 vs1) h = .go .nx ro2 h ∧ m ro2 h = .ok (f z) h) →
    lc2 g tYesZ mi g1 tYesZ m vs1 ro (.st ys) k i acc h = .ok (acc ++ xs.flatMap F) h
  | [], ys, k, i, acc, e, hk, _, _ => by
    have en : ys[i]? = none := List.getElem?_eq_none (by have := congrArg List.length e; rw [List.length_drop] at this; simp at this; omega)
    have hk : k = 0 := hk
    subst hk
    unfold lc2
    have : nxt (.st ys) i h = some none := by show some ys[i]? = _; rw [en]
    rw [this]
    simp
  | x :: xs, ys, k, i, acc, e, hk, hn, hf => by
    have es : ys[i]? = some x := by
      have := congrArg (fun l => l[0]?) e
      simpa using this
    have ed : ys.drop (i + 1) = xs := by
      have := congrArg List.tail e
      simpa using this
    have hk : k = xs.length + 1 := hk
    subst hk
    unfold lc2
    have : nxt (.st ys) i h = some (some x) := by show some ys[i]? = _; rw [es]
    rw [this]
    obtain ⟨ro1, zs, f, e1, e2, hz, eF, c⟩ := hf x List.mem_cons_self
    rw [List.length_cons] at hn
    have q := lc_list (g := g1) (t := tYesZ) (m := m) (ro := wipeN ro1 vs1) (h := h) (fun w => [f w]) zs zs zs.length 0 acc (by simp) rfl fun w hw => by
      obtain ⟨ro2, a1, a2⟩ := c w hw
      exact ⟨ro2, a1, .inl ⟨rfl, _, a2, rfl⟩⟩
    rw [← List.map_eq_flatMap] at q
    have ih := lc2_gen F xs ys xs.length (i + 1) (acc ++ zs.map f) ed rfl (by rw [List.length_append, List.length_map]; omega) fun w hw => hf w (List.mem_cons_of_mem _ hw)
    simp only [e1, e2, tYesZ_e, if_true, q]
    rw [if_pos (by have := sizeLine_eq; omega)]
    rw [ih, List.flatMap_cons, eF, List.append_assoc]
theorem sLc2_gen {mi mi1 : SI} {g g1 : GM} {m : SE} {own vs1 : List Nat} {ro : En} {h : HH} {xs : List Val} (F : Val → List Val) (e : mi ro h = .ok (.st xs, xs.length) h) (l : xs.length ≤ 900)
    (hf : ∀ w ∈ xs, ∃ ro1 zs f, g w (wipeN ro own) h = .go .nx ro1 h ∧ mi1 ro1 h = .ok (.st zs, zs.length) h ∧ zs.length ≤ 1000 ∧ F w = zs.map f ∧ ∀ z ∈ zs, ∃ ro2, g1 z (wipeN ro1 vs1) h = .go .nx ro2 h ∧ m ro2 h = .ok (f z) h) :
    sLc2 mi g tYesZ mi1 g1 tYesZ m own vs1 ro h = .ok (.lst (xs.flatMap F)) h := by
  show obind (mi ro h) _ = _
  rw [e]
  show obind (lc2 g tYesZ mi1 g1 tYesZ m vs1 (wipeN ro own) (.st xs) xs.length 0 [] h) _ = _
  rw [lc2_gen F xs xs xs.length 0 [] (by simp) rfl (by simp; omega) hf]
  rfl
theorem bls_bl : ∀ bs : List Bool, bls (bs.map Val.bl) = some bs
  | [] => rfl
  | b :: bs => by
    show (bls (bs.map Val.bl)).map _ = _
    rw [bls_bl bs]; rfl
theorem fAll_bls (bs : List Bool) (h : HH) : fAll [.lst (bs.map Val.bl)] h = .ok (.bl (bs.all id)) h := by
  show (match bls (bs.map Val.bl) with | some bs => Out.ok (Val.bl (bs.all id)) h | none => .bad) = _
  rw [bls_bl]
/-! w == k, k a number -/
theorem bEq_any {w : Val} {k : Int} {h : HH} (e : pl w = true) : ∃ r, bEq w (.int k) h = .ok (.bl r) h := by
  have o := pl_ok w e
  have r1 : rd w h = some w := by cases w <;> first | rfl | cases e
  unfold bEq
  rw [r1]
  show ∃ r, (match veq w (.int k) with | some k => Out.ok (Val.bl k) h | none => .bad) = _
  unfold veq
  cases q : quick w (.int k) with
  | some b => exact ⟨b, rfl⟩
  | none =>
    dsimp only
    rw [if_pos ⟨o, rfl, Nat.le_trans (Nat.min_le_right _ _) (by unfold toD; unfold PyData.depth; omega)⟩]
    exact ⟨_, rfl⟩
/-! != [] -/
def isNil : Val → Bool
  | .lst [] => true
  | _ => false
theorem bNe_nil {xs : List Val} {h : HH} (e : pl (.lst xs) = true) : bNe (.lst xs) (.lst []) h = .ok (.bl (!xs.isEmpty)) h := by
  have o := pl_ok _ e
  show (match veq (.lst xs) (.lst []) with | some k => Out.ok (Val.bl (!k)) h | none => .bad) = _
  have : veq (.lst xs) (.lst []) = some xs.isEmpty := by
    show (if okV (.lst xs) = true ∧ okV (.lst []) = true ∧ min (toD (.lst xs)).depth (toD (.lst [])).depth ≤ 64 then some (PyData.eqv (toD (.lst xs)) (toD (.lst []))) else none) = _
    rw [if_pos ⟨o, rfl, Nat.le_trans (Nat.min_le_right _ _) (by decide)⟩]
    cases xs <;> rfl
  rw [this]
end Z
set_option Elab.async false
set_option maxRecDepth 100000
set_option linter.unusedVariables false
/-! ZX: targets with a star. -/
namespace Z
open PySem PySem.Spec PyProof.Rows L2
section
variable {prog : Program} {w : World} {A : Around} {E : Value → Shared → Prop} {s : Shared}
theorem walks_shift {I : Addr} {fp wr : List Addr} {n : Nat} {P : Nat → Value → Prop} {St : Nat → Heap → Prop} (W : Walks prog w A I fp wr (n + 1) P St) : Walks prog w A I fp wr n (fun i v => P (i + 1) v) (fun i h => St (i + 1) h) where
  sub := W.sub
  frame := fun i h h' st k => W.frame (i + 1) h h' st k
  item := fun i s Q E hi st hQ => W.item (i + 1) s Q E (Nat.succ_lt_succ hi) st hQ
  done := fun s Q E st hQ => W.done s Q E st hQ
  self := fun i s Q E st hQ => W.self (i + 1) s Q E st hQ
theorem items_tail {x : Value} {ys : List Value} {acc : Array Value} (h : ItemsOf (fun i v => (x :: ys).toArray[i + 1]? = some v) acc ys.length) : acc.toList = ys := by
  refine List.ext_getElem? fun j => ?_
  obtain ⟨h1, h2⟩ := h
  cases e : acc[j]? with
  | none =>
    have l : acc.size ≤ j := by
      by_cases c : j < acc.size
      · rw [Array.getElem?_eq_getElem c] at e; cases e
      · omega
    rw [Array.getElem?_toList, e, List.getElem?_eq_none (by omega)]
  | some v =>
    have q := h2 j v e
    rw [Array.getElem?_toList, e]
    simpa using q.symm
/-- what stands behind the first item -/
def StarQ (s : Shared) (x : Value) (ys : List Value) (Q : List Value → Shared → Prop) : Prop := ∀ (h' : Heap) (tk : Nat), (∀ b o, s.heap.get? b = some o → h'.get? b = some o) → Q [x, .ref h'.objs.size] { s with heap := h'.push { cls := .type "list", data := .seq ys.toArray }, toks := tk }
theorem star_end {I : Addr} {fp : List Addr} {x : Value} {ys : List Value} {T : String} {St : Nat → Heap → Prop} {s1 : Shared} {Q : List Value → Shared → Prop} (hTm : T = "str_ascii_iterator" ∨ T = "str_iterator" ∨ T = "list_iterator" ∨ T = "tuple_iterator")
    (W : Walks prog w A.in1 I fp [I] (ys.length + 1) (fun i v => (x :: ys).toArray[i]? = some v) St) (hT : ∀ i h, St i h → ∃ o, h.get? I = some o ∧ o.cls = .type T) (st : St 1 s1.heap) (hfp : ∀ b ∈ fp, b < s1.heap.objs.size) (hI : I ∈ fp) (hz : ys.length ≤ sizeLine)
    (hs : s1.gens = s.gens ∧ s1.drawn = s.drawn ∧ s1.os = s.os) (hk : ∀ b o, s.heap.get? b = some o → s1.heap.get? b = some o ∧ b ≠ I) (hQ : StarQ s x ys Q) :
    wpAny (model prog w) A (do
      let rest ← holding [x] (collect (.ref I))
      let after := 2 - 1 - 1
      if rest.length < after then
        rule "unpack.star.too-few"
        raiseError "ValueError" s!"not enough values to unpack (expected at least {2 - 1}, got {1 + rest.length})"
      let mid := rest.length - after
      return [x] ++ [← newList (rest.take mid)] ++ rest.drop mid) Q E s1 := by
  refine wpAny_bind (wpAny_holding (wpAny_collect_iter hTm (walks_shift W).toS (fun i s st => hT (i + 1) _ st) st hfp hI (fun s2 acc hm ha => ?_) hz))
  have ea := items_tail ha
  dsimp only
  rw [if_neg (by omega)]
  rw [ea]
  refine wpAny_bind (wpAny_newList ?_)
  have et : ys.take (ys.length - (2 - 1 - 1)) = ys := List.take_of_length_le (by omega)
  have ed : ys.drop (ys.length - (2 - 1 - 1)) = [] := List.drop_of_length_le (by omega)
  rw [et, ed]
  refine wpAny_pure ?_
  obtain ⟨h2, g2, d2, t2, os2⟩ := s2
  obtain ⟨hm1, hm2, hm3, hm4, _⟩ := hm
  obtain ⟨hs1, hs2, hs3⟩ := hs
  dsimp only at hm1 hm2 hm3 hm4
  obtain ⟨h0, g0, d0, t0, os0⟩ := s
  dsimp only at hs1 hs2 hs3 hk
  have q := hQ h2 t2 fun b o e => hm1 b o (by simpa using (hk b o e).2) (hk b o e).1
  have e1 : g2 = g0 := hm2.trans hs1
  have e2 : d2 = d0 := hm3.trans hs2
  have e3 : os2 = os0 := hm4.trans hs3
  subst e1 e2 e3
  exact q
theorem unpack_starL {l : Addr} {x : Value} {ys : List Value} {Q : List Value → Shared → Prop} (hh : A.handled = none) (hl : s.heap.IsList l (x :: ys).toArray) (hz : ys.length ≤ sizeLine) (hQ : StarQ s x ys Q) : wpAny (model prog w) A (unpackItems (.ref l) 2 (some 1)) Q E s := by
  have hlt : l < s.heap.objs.size := by obtain ⟨o, ho, _⟩ := hl; exact Heap.lt_size ho
  unfold unpackItems
  refine wpAny_bind ?_
  unfold notIterableAtAll
  refine wpAny_bind (wpAny_specialOf hl.typeIs slot_list_iter.lookup ?_)
  refine wpAny_pure ?_
  simp only [Bool.false_eq_true, if_false]
  refine wpAny_bind (wpAny_holding (wpAny_pyIter_list hl ?_))
  refine wpAny_bind (wpAny_holding (PySem.W.kun_draw (Nat.ne_of_lt hlt) 1 0 _ _ ⟨_, Heap.get?_push_size _ rfl, rfl, rfl⟩ (hl.push _) (by simp) fun h1 hit hs1 => ?_))
  have e1 : List.take 1 (List.drop 0 (x :: ys).toArray.toList) = [x] := by simp
  rw [e1, if_neg (by simp)]
  have hl1 : h1.IsList l (x :: ys).toArray := (hl.push _).extBut hs1.extBut (Nat.ne_of_lt hlt)
  have hit' : h1.IsListIter s.heap.objs.size l 1 := by simpa using hit
  refine star_end (s := s) (I := s.heap.objs.size) (fp := [s.heap.objs.size, l]) (T := "list_iterator") (.inr (.inr (.inl rfl))) (Walks.list (A := A.in1) hh s.heap.objs.size l (Nat.ne_of_lt hlt) (x :: ys).toArray) (fun i h st => ?_) ⟨hit', hl1⟩ (fun b hb => ?_) (by simp) hz ⟨rfl, rfl, rfl⟩ (fun b o e => ⟨?_, Nat.ne_of_lt (Heap.lt_size e)⟩) hQ
  · obtain ⟨o, ho, hc, _⟩ := st.1
    exact ⟨o, ho, hc⟩
  · simp only [List.mem_cons, List.not_mem_nil, or_false] at hb
    rcases hb with rfl | rfl
    · obtain ⟨o, ho, _⟩ := hit'; exact Heap.lt_size ho
    · obtain ⟨o, ho, _⟩ := hl1; exact Heap.lt_size ho
  · exact hs1.extBut b o (Nat.ne_of_lt (Heap.lt_size e)) (Heap.get?_push_of_some _ e)
theorem unpack_starT {l : Addr} {x : Value} {ys : List Value} {Q : List Value → Shared → Prop} (hh : A.handled = none) (hl : IsTup s.heap l (x :: ys).toArray) (hz : ys.length ≤ sizeLine) (hQ : StarQ s x ys Q) : wpAny (model prog w) A (unpackItems (.ref l) 2 (some 1)) Q E s := by
  have hlt : l < s.heap.objs.size := by obtain ⟨o, ho, _⟩ := hl; exact Heap.lt_size ho
  unfold unpackItems
  refine wpAny_bind ?_
  unfold notIterableAtAll
  refine wpAny_bind (wpAny_specialOf hl.typeIs slot_tuple_iter.lookup ?_)
  refine wpAny_pure ?_
  simp only [Bool.false_eq_true, if_false]
  refine wpAny_bind (wpAny_holding (iter_tuple hl ?_))
  refine wpAny_bind (wpAny_holding (PyProof.Rows.draw_tuple (Nat.ne_of_lt hlt) 1 0 _ _ ⟨_, Heap.get?_push_size _ rfl, rfl, rfl⟩ (hl.push _) (by simp) fun h1 hit hs1 => ?_))
  have e1 : List.take 1 (List.drop 0 (x :: ys).toArray.toList) = [x] := by simp
  rw [e1, if_neg (by simp)]
  have hl1 : IsTup h1 l (x :: ys).toArray := (hl.push _).extBut hs1.extBut (Nat.ne_of_lt hlt)
  have hit0 : IsTupIter h1 s.heap.objs.size l 1 := by simpa using hit
  have hit' : h1.IsTupleIter s.heap.objs.size l 1 := hit0
  refine star_end (s := s) (I := s.heap.objs.size) (fp := [s.heap.objs.size, l]) (T := "tuple_iterator") (.inr (.inr (.inr rfl))) (Walks.tuple (A := A.in1) hh s.heap.objs.size l (Nat.ne_of_lt hlt) (x :: ys).toArray) (fun i h st => ?_) ⟨hit', hl1⟩ (fun b hb => ?_) (by simp) hz ⟨rfl, rfl, rfl⟩ (fun b o e => ⟨?_, Nat.ne_of_lt (Heap.lt_size e)⟩) hQ
  · obtain ⟨o, ho, hc, _⟩ := st.1
    exact ⟨o, ho, hc⟩
  · simp only [List.mem_cons, List.not_mem_nil, or_false] at hb
    rcases hb with rfl | rfl
    · obtain ⟨o, ho, _⟩ := hit'; exact Heap.lt_size ho
    · obtain ⟨o, ho, _⟩ := hl1; exact Heap.lt_size ho
  · exact hs1.extBut b o (Nat.ne_of_lt (Heap.lt_size e)) (Heap.get?_push_of_some _ e)
end
def gStarK (K : PySem.W.Frag) (t : TGs) : TG := fun v sg H Q => ∃ a x ys, v = .ref a ∧ (SqL K H a (x :: ys) ∨ SqT K H a (x :: ys)) ∧ ∀ l, H l = none → t [x, .ref l] sg (upd H l (.lst ys)) Q
theorem pg_star {X : Cx} {t1 t2 : Expr} {t : TGs} {k : Nat} {sp pos : Pos} (hc : X.calm = true) (h : PGs X [t1, t2] t) (he : assignEach [t1, .Starred t2 sp] X.env = [(false, assign t1 X.env), (true, assign t2 X.env)]) (he2 : (assignEach [t1, t2] X.env).map (·.2) = [assign t1 X.env, assign t2 X.env]) :
    PG X (.Tuple [t1, .Starred t2 sp] k pos) (gStarK X.K t) := by
  refine ⟨fun pins s σ H v u Q I r hw => ?_⟩
  obtain ⟨a, x, ys, rfl, hq, hw⟩ := hw
  cases r
  rw [PyProof.Rows.assign_Tuple]
  refine wpAny_bind (wpAny_standAt ?_)
  unfold unpack
  rw [he]
  have fin : ∀ (vx : Value) (vys : List Value), RelV x vx → Vals ys vys → ys.length ≤ sizeLine → StarQ s vx vys fun items s' => wpAny (model X.prog X.w) X.A (assignInOrder [assign t1 X.env, assign t2 X.env] items) (fun _ s' => ∃ σ' H', Inv X pins σ' H' s' ∧ Q σ' H') X.xe s' := by
    intro vx vys rx rys hz h' tk k
    have I1 : Inv X pins σ H { s with heap := h', toks := tk } := I.kept (t' := tk) k
    have hn : H h'.objs.size = none := I1.hok.fresh (Nat.le_refl _)
    have I2 : Inv X pins σ (upd H h'.objs.size (.lst ys)) { s with heap := h'.push { cls := .type "list", data := .seq vys.toArray }, toks := tk } :=
      I1.laid (t' := tk) (fun b u e => Heap.get?_push_of_some _ e) (Nat.le_refl _) ⟨hz, vys, _, rys, Heap.get?_push_size _ rfl⟩
    have q := h.run pins _ σ _ [x, .ref h'.objs.size] [vx, .ref h'.objs.size] Q I2 (.cons rx (.cons rfl .nil)) (hw _ hn)
    rw [he2] at q
    exact q
  rcases hq with hq | hq
  · obtain ⟨its, rv, pl, hz⟩ := I.list hq
    cases rv with
    | @cons _ vx _ vys rx rys =>
      exact wpAny_bind (wpAny_holding (unpack_starL (I.ok.hd hc) pl.isList (by rw [← rys.length]; simp at hz; omega) (fin vx vys rx rys (by simp at hz; omega))))
  · obtain ⟨its, rv, ht, hz⟩ := I.tuple hq
    cases rv with
    | @cons _ vx _ vys rx rys =>
      exact wpAny_bind (wpAny_holding (unpack_starT (I.ok.hd hc) ht (by rw [← rys.length]; simp at hz; omega) (fin vx vys rx rys (by simp at hz; omega))))
/-- first, *rest = .. -/
def gSt (g : List Val → En → HH → SO) : GM := fun w ro h => match items w h with
  | some (x :: ys) => g [x, .lst ys] ro h
  | _ => .bad
theorem og_star {X : Cx} {t1 t2 : Expr} {sl : List Nat} {g : List Val → En → HH → SO} {k : Nat} {sp pos : Pos} (hc : X.calm = true) (h : PGs X [t1, t2] (tGs X.K sl g)) (he : assignEach [t1, .Starred t2 sp] X.env = [(false, assign t1 X.env), (true, assign t2 X.env)])
    (he2 : (assignEach [t1, t2] X.env).map (·.2) = [assign t1 X.env, assign t2 X.env]) : PG X (.Tuple [t1, .Starred t2 sp] k pos) (tG X.K sl (gSt g)) := by
  refine PG.weak (pg_star hc h he he2) ?_
  rintro v sg H Q ⟨al, B, ro, h, w, S, r, p⟩
  unfold gSt at p
  split at p
  · rename_i x ys e
    obtain ⟨a, vs, rfl, q, rs⟩ := items_sq S.hr r e
    cases rs with
    | cons rx rys =>
      refine ⟨a, _, _, rfl, q, fun l hl => ?_⟩
      have ly : ys.length ≤ sizeLine := by
        cases r with
        | tup _ l _ => cases e; simp at l; omega
        | lst _ l _ => cases e; simp at l; omega
        | scr _ l =>
          have e' : (List.map Val.int _) = x :: ys := Option.some.inj e
          have := congrArg List.length e'
          simp at this
          omega
        | ref q2 =>
          unfold items at e
          dsimp only at e
          split at e
          · rename_i e2
            cases e
            cases S.hr.ob _ _ _ q2 e2 with
            | lst _ l _ => simp at l; omega
          · cases e
        | _ => cases e
      refine ⟨al, B, ro, _, _, S.step (Stp.lay hl) (S.hr.lay hl), .cons (rx.step (Stp.lay hl)) (.cons (.lst (At1.lay S.hr hl) ly (rys.step (Stp.lay hl))) .nil), Pg.step p (Stp.lay hl)⟩
  · exact p.elim
end Z
set_option Elab.async false
set_option maxRecDepth 100000
set_option linter.unusedVariables false
/-! ZY: written dicts of defs, calls of a local name, str(x), zfill, startswith, extend, == of nested lists, what is never done. -/
namespace Z
open PySem PySem.Spec PyProof.Rows L2
/-! ### what is never done -/
def nBad : SS := fun _ _ => .bad
def sBad : SE := fun _ _ => .bad
theorem os_bad {X : Cx} {W : WX} {st : Stmt} : PS X st (tS X.K W nBad) := ⟨fun pins s sg H D I ⟨al, B, ro, h, S, p⟩ => p.elim⟩
theorem oe_bad {X : Cx} {W : WX} {e : Expr} : PE X e (tE X.K W sBad) := ⟨fun pins s sg H Q I ⟨al, B, ro, h, S, p⟩ => p.elim⟩
/-! ### a written dict -/
section
variable {X : Cx} {W : WX}
def bKin (neg : Bool) (d : Addr) (keys : List Str) (w1 w2 : Val) : M Val := fun h => match w1, w2 with
  | .str z, .glo e => if e = d ∧ z ∈ keys then .ok (.bl (!neg)) h else .bad
  | _, _ => .bad
def rKin (neg : Bool) (d : Addr) (keys : List Str) : R2 := fun x y H Q => ∃ z, x = .str z ∧ y = .ref d ∧ z ∈ keys ∧ Q (.bl (!neg)) H
theorem lk_kin {K : PySem.W.Frag} (neg : Bool) (d : Addr) (keys : List Str) : Lk2 K (bKin neg d keys) (rKin neg d keys) := by
  intro W al B sg H h w1 w2 v1 v2 Q hr r1 r2 p
  unfold bKin at p
  split at p
  · cases r1; cases r2
    split at p
    · rename_i c
      obtain ⟨rfl, c⟩ := c
      exact ⟨_, rfl, rfl, c, Po.now p hr (.bl _)⟩
    · exact p.elim
  · exact p.elim
theorem op_kin {d : Addr} {keys : List Str} {es : Array DictEntry} {n : Nat} (D : KDict X.K X.w d es n) (hk : ∀ z ∈ keys, ∃ v, PySem.W.nsIn X.K d z = some (some v)) : OpR X (compareOp .In) (rKin false d keys) := by
  intro pins s σ H x y v u Q I rx ry h
  obtain ⟨z, e1, e2, hz, q⟩ := h
  obtain ⟨v0, e3⟩ := hk z hz
  exact op_in_kd D pins s σ H x y v u Q I rx ry ⟨z, some v0, e1, e2, e3, q⟩
theorem op_notKin {d : Addr} {keys : List Str} {es : Array DictEntry} {n : Nat} (D : KDict X.K X.w d es n) (hk : ∀ z ∈ keys, ∃ v, PySem.W.nsIn X.K d z = some (some v)) : OpR X (compareOp .NotIn) (rKin true d keys) := by
  intro pins s σ H x y v u Q I rx ry h
  obtain ⟨z, e1, e2, hz, q⟩ := h
  obtain ⟨v0, e3⟩ := hk z hz
  exact op_notIn_kd D pins s σ H x y v u Q I rx ry ⟨z, some v0, e1, e2, e3, q⟩
def bKget (d : Addr) (kvs : List (Str × Addr)) (w1 w2 : Val) : M Val := fun h => match w1, w2 with
  | .glo e, .str z => if e = d then (match kvs.lookup z with
    | some a => .ok (.glo a) h
    | none => .bad) else .bad
  | _, _ => .bad
def rKget (d : Addr) (kvs : List (Str × Addr)) : R2 := fun x y H Q => ∃ z a, x = .ref d ∧ y = .str z ∧ kvs.lookup z = some a ∧ Q (.ref a) H
theorem lk_kget {K : PySem.W.Frag} (d : Addr) (kvs : List (Str × Addr)) : Lk2 K (bKget d kvs) (rKget d kvs) := by
  intro W al B sg H h w1 w2 v1 v2 Q hr r1 r2 p
  unfold bKget at p
  split at p
  · cases r1; cases r2
    split at p
    · rename_i c
      subst c
      split at p
      · rename_i a e
        exact ⟨_, a, rfl, rfl, e, Po.now p hr (.glo a)⟩
      · exact p.elim
    · exact p.elim
  · exact p.elim
theorem lookup_mem {β : Type} {z : Str} {a : β} : ∀ {kvs : List (Str × β)}, kvs.lookup z = some a → (z, a) ∈ kvs
  | [], h => by cases h
  | (k, b) :: r, h => by
    rw [List.lookup_cons] at h
    split at h
    · rename_i e
      cases h
      have : z = k := by simpa using e
      subst this
      exact List.mem_cons_self
    · exact List.mem_cons_of_mem _ (lookup_mem h)
theorem ix_kget {d : Addr} {kvs : List (Str × Addr)} {es : Array DictEntry} {n : Nat} (D : KDict X.K X.w d es n) (hk : ∀ q ∈ kvs, PySem.W.nsIn X.K d q.1 = some (some (.ref q.2))) : IxR X (rKget d kvs) := by
  intro value slice pins s σ H x y v u Q I rx ry h hs
  obtain ⟨z, a, e1, e2, e3, q⟩ := h
  exact ix_kdict value slice pins s σ H x y v u Q I rx ry ⟨d, z, .ref a, e1, e2, ⟨es, n, _, D.at_, D.lit, hk (z, a) (lookup_mem e3), rfl⟩, q⟩ hs
/-! ### a call of a local name that holds a def -/
def disp (L : List (Addr × (List Val → M Val))) (a : Addr) : Option (List Val → M Val) := match L with
  | [] => none
  | (b, F) :: r => if a = b then some F else disp r a
def sCallL (i np : Nat) (L : List (Addr × (List Val → M Val))) (ra : En → M (List Val)) : SE := fun ro => bind (sVar i ro) fun w => match w with
  | .glo a => match disp L a with
    | some F => bind (ra ro) fun ws => if ws.length = np then F ws else fail
    | none => fail
  | _ => fail
theorem disp_mem {L : List (Addr × (List Val → M Val))} {a : Addr} {F : List Val → M Val} (h : disp L a = some F) : (a, F) ∈ L := by
  induction L with
  | nil => cases h
  | cons q r ih =>
    obtain ⟨b, G⟩ := q
    unfold disp at h
    split at h
    · rename_i e; cases h; subst e; exact List.mem_cons_self
    · exact List.mem_cons_of_mem _ (ih h)
theorem oe_callL {k i np : Nat} {L : List (Addr × (List Val → M Val))} {x : Str} {ra : En → M (List Val)} {e : Expr} {es : List Expr} {p pos : Pos} (hr : RmG k X.A) (tk : Takes X W)
    (hL : ∀ a F, (a, F) ∈ L → ∃ fd ps, ps.length = np ∧ FnG X.prog X.w X.K X.mg X.base (L2.CX X.prog X.w) k a fd ps (spF X.K ps.length F) ∧ PySem.W.keepIn X.K (.ref a) = true ∧ KBz X.K fd ps np [] (fun ws _ => ws))
    (hv : PE X (.Name x p) (tE X.K W (sVar i))) (ha : PA X (e :: es) (tA X.K W ra)) (he : starEach (e :: es) X.env = (false, eval e X.env) :: starEach es X.env) (hpl : (backTo pos (starEach es X.env)).any (·.1) = false) :
    PE X (.Call (.Name x p) (e :: es) [] pos) (tE X.K W (sCallL i np L ra)) := by
  refine ⟨fun pins s sg H Q I h => ?_⟩
  obtain ⟨al, B, ro, h, S, q⟩ := h
  refine wpAny_Call_Name_kw (thn (hv.run pins s sg H _ I ⟨al, B, ro, h, S, Po.mono (Po.bind q) fun v H1 z => z⟩) fun u s1 ⟨v, H1, I1, r1, al1, h1, w1, st1, hr1, rw1, p1⟩ => ?_)
  cases rw1 with
  | glo a =>
    cases r1
    dsimp only at p1
    cases ed : disp L a with
    | none => rw [ed] at p1; exact p1.elim
    | some F =>
      rw [ed] at p1
      obtain ⟨fd, ps, lps, G, hk, hb⟩ := hL a F (disp_mem ed)
      obtain ⟨g, gV, hb, hrel⟩ := hb.ex
      refine PySem.W.callWith_K (h₀ := X.base) I.ok.mod.kin hk (thn (ha.run pos pins s1 sg H1 _ I1 ⟨al1, B, ro, h1, S.step st1 hr1, Po.mono (Po.bind p1) fun vs H2 z => z⟩) fun us s2 ⟨vs, H2, I2, r, al2, h2, w2, st2, hr2, r2, p2⟩ => ⟨I2.kIn, ?_⟩) he hpl
      by_cases c : w2.length = np
      · rw [if_pos c] at p2
        have z := run_call (W := W) (us := us) (ws := []) (ks := []) (E := fun cls d H' => W cls d sg H') G hr hb tk (fun _ _ _ z => z) I2 r .nil (r2.length.symm.trans c) rfl
          ⟨al2, B, h2, w2, hr2, hrel _ _ _ _ _ _ _ r2 .nil, c.trans lps.symm, Po.wish p2 fun _ _ _ z => z⟩
        exact z
      · rw [if_neg c] at p2
        exact p2.elim
  | _ => exact p1.elim
end
end Z
set_option Elab.async false
set_option maxRecDepth 100000
set_option linter.unusedVariables false
/-! ZW: int(text, 10), str(x), more methods of texts and lists, == of nested own lists. -/
namespace PySem
open PySem.W PySem.Calls PySem.NumText PyProof.Rows
set_option maxHeartbeats 4000000 in
theorem zw_gives10 {x : PySem.Str} {u t : Tok} {n : Int} (hl : x.length ≤ 640) (hn : PySem.intText? x = some n) : Gives (Builtin.«int.__new__» ⟨[.type "int", .str x u, .int 10 t], []⟩) (.int n) :=
  .of_wp fun M A E s Q h => by
    obtain ⟨hp, g, d, tk, os⟩ := s
    have f1 := F.conv_sub_int
    have f2 := F.madeHere_int
    have f6 : typeOf (.str x u) = pure (.type "str") := rfl
    have hs : (numSeenOf x).length ≤ 640 := Nat.le_trans (seen_length x) hl
    have hr : (int_private% "readNumeral") 0 10 (numSeenOf x) = (int_private% "Numeral.value") n ∧ ((numSeenOf x).length == (numTextOf x).length) = true := by
      rcases read0 x hs with ⟨m, h1, h2, h3⟩ | ⟨h1, _⟩
      · rw [hn] at h1
        injection h1 with h1
        subst h1
        exact ⟨h3, h2⟩
      · rw [hn] at h1
        cases h1
    have hk := KIN.Hid.mk (And.intro hs hr)
    clear hs hr hl hn
    repeat (any_goals (first
      | assumption
      | ((with_reducible show wpAny _ _ ((int_private% "intFromText") _ _ _) _ _ _); refine KIN.wp_text hk.out.1 hk.out.2.1 hk.out.2.2 ?_)
      | wp_step))
    all_goals first | exact ⟨_, rfl, h⟩ | skip
end PySem
namespace Z
open PySem PySem.Spec PyProof.Rows L2
section
variable {X : Cx}
def rInt10 : List V → Hp → VK → Prop := fun xs H Q => ∃ a n, xs = [.str a, .int 10] ∧ PySem.intText? a = some n ∧ a.length ≤ 640 ∧ Q (.int n) H
theorem call_int10 : CallR X (.type "int") rInt10 := by
  intro pins s σ H xs us Q I r h
  obtain ⟨a, n, rfl, hn, hl, q⟩ := h
  obtain ⟨u, w', rfl, r1, r2⟩ := vals2 r
  obtain ⟨t1, rfl⟩ := r1
  obtain ⟨t2, rfl⟩ := r2
  exact callType_new F.called_int F.newNe_int (Hx.typeCall_int_2 _ _) (Hx.newCall_int_2 _ _) (fun obj => F.initArgs_range_2 obj _ _) F.entry_int_new (PySem.zw_gives10 hl hn).meets
    (show (Made.int n).post _ s from ⟨rfl, .int n, H, I.tok _, ⟨_, rfl⟩, q⟩)
end
def fInt10 (ws : List Val) : M Val := fun h => match ws with
  | [.str a, .int 10] => match PySem.intText? a with
    | some n => if a.length ≤ 640 then .ok (.int n) h else .bad
    | none => .bad
  | _ => .bad
theorem lk_int10 {K : PySem.W.Frag} : Lks K fInt10 rInt10 := by
  intro W al B sg H h ws vs Q hr rs p
  unfold fInt10 at p
  split at p
  · rename_i a
    obtain ⟨v1, v2, rfl, r1, r2⟩ := rs.two
    cases r1; cases r2
    split at p
    · rename_i n e
      split at p
      · rename_i c
        exact ⟨_, n, rfl, e, c, Po.now p hr (.int n)⟩
      · exact p.elim
    · exact p.elim
  · exact p.elim
def rIntS : List V → Hp → VK → Prop := fun xs H Q => ∃ a n, xs = [.str a] ∧ PySem.intText? a = some n ∧ a.length ≤ 640 ∧ Q (.int n) H
def fIntS (ws : List Val) : M Val := fun h => match ws with
  | [.str a] => match PySem.intText? a with
    | some n => if a.length ≤ 640 then .ok (.int n) h else .bad
    | none => .bad
  | _ => .bad
theorem lk_intS {K : PySem.W.Frag} : Lks K fIntS rIntS := by
  intro W al B sg H h ws vs Q hr rs p
  unfold fIntS at p
  split at p
  · rename_i a
    obtain ⟨v1, rfl, r1⟩ := rs.one
    cases r1
    split at p
    · rename_i n e
      split at p
      · rename_i c
        exact ⟨_, n, rfl, e, c, Po.now p hr (.int n)⟩
      · exact p.elim
    · exact p.elim
  · exact p.elim
/-! ### str(x) -/
def rStrZ : List V → Hp → VK → Prop := fun xs H Q => (∃ i, xs = [.int i] ∧ i.natAbs.log2 < 1920 ∧ Q (.str (toString i)) H) ∨ ∃ a, xs = [.str a] ∧ Q (.str a) H
theorem call_strZ {X : Cx} : CallR X (.type "str") rStrZ := by
  intro pins s σ H xs us Q I r h
  rcases h with h | h
  · exact call_str_int pins s σ H xs us Q I r h
  · exact SkE.call_str_str pins s σ H xs us Q I r h
def fStr (ws : List Val) : M Val := fun h => match ws with
  | [.int i] => if i.natAbs.log2 < 1920 then .ok (.str (toString i)) h else .bad
  | [.str a] => .ok (.str a) h
  | _ => .bad
theorem lk_str {K : PySem.W.Frag} : Lks K fStr rStrZ := by
  intro W al B sg H h ws vs Q hr rs p
  unfold fStr at p
  split at p
  · obtain ⟨v1, rfl, r1⟩ := rs.one
    cases r1
    split at p
    · rename_i c
      exact .inl ⟨_, rfl, c, Po.now p hr (.str _)⟩
    · exact p.elim
  · obtain ⟨v1, rfl, r1⟩ := rs.one
    cases r1
    exact .inr ⟨_, rfl, Po.now p hr (.str _)⟩
  · exact p.elim
/-! ### zfill, startswith -/
def mZfill (w1 w2 : Val) : M Val := fun h => match w1, w2 with
  | .str a, .int i => if PadOk i = true then .ok (.str (Txt.zfill a i)) h else .bad
  | _, _ => .bad
theorem lk_zfill {K : PySem.W.Frag} : ∀ (W : WX) al B sg H h x w v (Q : VK), HR K al B H h → Rep K al B H w v → Po K B (fun al H => Rep K al B H) sg al H (mZfill (.str x) w h) W Q → ∃ (a : Str) (i : Int), (V.str x) = .str a ∧ [v] = [.int i] ∧ PadOk i = true ∧ Q (.str (Txt.zfill a i)) H := by
  intro W al B sg H h x w v Q hr r p
  cases r with
  | int i =>
    unfold mZfill at p
    dsimp only at p
    split at p
    · rename_i c
      exact ⟨x, i, rfl, rfl, c, Po.now p hr (.str _)⟩
    · exact p.elim
  | _ => exact p.elim
def mStarts (w1 w2 : Val) : M Val := fun h => match w1, w2 with
  | .str a, .str b => .ok (.bl (Txt.startswith a b)) h
  | _, _ => .bad
theorem lk_starts {K : PySem.W.Frag} : ∀ (W : WX) al B sg H h x w v (Q : VK), HR K al B H h → Rep K al B H w v → Po K B (fun al H => Rep K al B H) sg al H (mStarts (.str x) w h) W Q → ∃ a b, (V.str x) = .str a ∧ [v] = [.str b] ∧ Q (.bl (Txt.startswith a b)) H := by
  intro W al B sg H h x w v Q hr r p
  cases r with
  | str b => exact ⟨x, b, rfl, rfl, Po.now p hr (.bl _)⟩
  | _ => exact p.elim
/-! ### xs.extend(ys) -/
def mExt (w : Val) (ws : List Val) : M Val := fun h => match w, ws with
  | .ref n, [.lst ys] => match h[n]? with
    | some (.lst xs) => putL n (xs ++ ys) .non h
    | _ => .bad
  | _, _ => .bad
theorem lk_ext {K : PySem.W.Frag} : ∀ (W : WX) al B sg H h w v ws vs (Q : VK), HR K al B H h → Rep K al B H w v → Reps K al B H ws vs → Po K B (fun al H => Rep K al B H) sg al H (mExt w ws h) W Q → rExtend v vs H Q := by
  intro W al B sg H h w v ws vs Q hr r rs p
  unfold mExt at p
  split at p
  · rename_i n ys
    obtain ⟨v1, rfl, r1⟩ := rs.one
    cases r with
    | ref e =>
      cases r1 with
      | lst a l s =>
        split at p
        · rename_i xs e2
          have hx := hr.ob _ _ _ e e2
          cases hx with
          | lst q l2 s2 =>
            refine ⟨_, _, _, _, rfl, rfl, q, a.1, ?_, put_own hr e (s2.append s) .non p⟩
            unfold putL at p
            split at p
            · rename_i c
              rw [List.length_append] at c
              rw [← s2.length, ← s.length]
              exact c
            · exact p.elim
        · exact p.elim
  · exact p.elim
/-! ### == of own lists within own lists -/
mutual
def rdD (h : HH) : Nat → Val → Option Val
  | 0, _ => none
  | n + 1, .ref i => match h[i]? with
    | some (.lst xs) => (rdDs h n xs).map .lst
    | _ => none
  | n + 1, .tup xs => (rdDs h n xs).map .tup
  | n + 1, .lst xs => (rdDs h n xs).map .lst
  | _ + 1, w => some w
def rdDs (h : HH) : Nat → List Val → Option (List Val)
  | 0, _ => none
  | _ + 1, [] => some []
  | n + 1, x :: xs => match rdD h n x, rdDs h n xs with
    | some y, some ys => some (y :: ys)
    | _, _ => none
end
theorem rdD_dp {K : PySem.W.Frag} {al B : List Addr} {H : Hp} {h : HH} (hr : HR K al B H h) : ∀ n, (∀ (w w' : Val) (v : V), Rep K al B H w v → rdD h n w = some w' → okV w' = true → Dp K H v (toD w')) ∧ (∀ (ws ws' : List Val) (vs : List V), Reps K al B H ws vs → rdDs h n ws = some ws' → okVs ws' = true → DpAll K H vs (toDs ws')) := by
  intro n
  induction n with
  | zero => exact ⟨fun _ _ _ _ e _ => (by unfold rdD at e; cases e), fun _ _ _ _ e _ => (by unfold rdDs at e; cases e)⟩
  | succ n ih =>
    refine ⟨fun w w' v r e o => ?_, fun ws ws' vs r e o => ?_⟩
    · cases r with
      | ref q =>
        unfold rdD at e
        split at e
        · rename_i xs e2
          obtain ⟨ys, e3, rfl⟩ := Option.map_eq_some_iff.mp e
          cases hr.ob _ _ _ q e2 with
          | lst q2 _ s =>
            unfold okV at o
            unfold toD
            exact .lst (SqL.of q2) (ih.2 _ _ _ s e3 o)
        · cases e
      | tup a l s =>
        unfold rdD at e
        obtain ⟨ys, e3, rfl⟩ := Option.map_eq_some_iff.mp e
        unfold okV at o
        unfold toD
        exact .tup (sqT_of a) (ih.2 _ _ _ s e3 o)
      | lst a l s =>
        unfold rdD at e
        obtain ⟨ys, e3, rfl⟩ := Option.map_eq_some_iff.mp e
        unfold okV at o
        unfold toD
        exact .lst (SqL.of a.1) (ih.2 _ _ _ s e3 o)
      | non => cases e; exact dp_of (al := al) (B := B) o .non
      | bl b => cases e; exact dp_of (al := al) (B := B) o (.bl b)
      | int b => cases e; exact dp_of (al := al) (B := B) o (.int b)
      | str b => cases e; exact dp_of (al := al) (B := B) o (.str b)
      | glo => cases e; exact dp_of (al := al) (B := B) o (.glo _)
      | ty => cases e; exact dp_of (al := al) (B := B) o (.ty _)
      | scr a l => cases e; exact dp_of o (.scr a l)
      | exn a e2 r2 => cases e; unfold okV at o; cases o
    · cases r with
      | nil => cases e; unfold toDs; exact .nil
      | cons a s =>
        unfold rdDs at e
        split at e
        · rename_i y ys e1 e2
          cases e
          unfold okVs at o
          rw [Bool.and_eq_true] at o
          unfold toDs
          exact .cons (ih.1 _ _ _ a e1 o.1) (ih.2 _ _ _ s e2 o.2)
        · cases e
def bEqD (neg : Bool) (w1 w2 : Val) : M Val := fun h => match rdD h 100000 w1, rdD h 100000 w2 with
  | some a, some b => if okV a = true ∧ okV b = true ∧ min (toD a).depth (toD b).depth ≤ 64 then .ok (.bl (if neg then !PyData.eqv (toD a) (toD b) else PyData.eqv (toD a) (toD b))) h else .bad
  | _, _ => .bad
theorem lk_eqD {K : PySem.W.Frag} (neg : Bool) : Lk2 K (bEqD neg) (rEqM K neg) := by
  intro W al B sg H h w1 w2 v1 v2 Q hr r1 r2 p
  unfold bEqD at p
  split at p
  · rename_i a b e1 e2
    split at p
    · rename_i c
      exact ⟨_, _, (rdD_dp hr _).1 _ _ _ r1 e1 c.1, (rdD_dp hr _).1 _ _ _ r2 e2 c.2.1, lay_of _ c.1, lay_of _ c.2.1, c.2.2, Po.now p hr (.bl _)⟩
    · exact p.elim
  · exact p.elim
end Z
namespace Z
open PySem PySem.Spec PyProof.Rows L2
section
variable {X : Cx}
theorem op_kinE {d : Addr} {keys : List Str} (D : ∃ es n, KDict X.K X.w d es n) (hk : ∀ z ∈ keys, ∃ v, PySem.W.nsIn X.K d z = some (some v)) : OpR X (compareOp .In) (rKin false d keys) := by
  obtain ⟨_, _, D⟩ := D
  exact op_kin D hk
theorem op_notKinE {d : Addr} {keys : List Str} (D : ∃ es n, KDict X.K X.w d es n) (hk : ∀ z ∈ keys, ∃ v, PySem.W.nsIn X.K d z = some (some v)) : OpR X (compareOp .NotIn) (rKin true d keys) := by
  obtain ⟨_, _, D⟩ := D
  exact op_notKin D hk
theorem ix_kgetE {d : Addr} {kvs : List (Str × Addr)} (D : ∃ es n, KDict X.K X.w d es n) (hk : ∀ q ∈ kvs, PySem.W.nsIn X.K d q.1 = some (some (.ref q.2))) : IxR X (rKget d kvs) := by
  obtain ⟨_, _, D⟩ := D
  exact ix_kget D hk
end
theorem fun_ne {K : PySem.W.Frag} {x q x' q' : Str} {st st' : Stmt} {f f' : Addr} {fd fd' : FuncData} (F : Fun K x q st f fd) (G : Fun K x' q' st' f' fd') (n : x ≠ x') : f ≠ f' := by
  rintro rfl
  obtain ⟨_, _, _, _, _, _, _, _, _, e1, l1, _⟩ := F.ex
  obtain ⟨_, _, _, _, _, _, _, _, _, e2, l2, _⟩ := G.ex
  rw [l1] at l2
  have z := Option.some.inj l2
  have z2 : Data.func _ = Data.func _ := congrArg Obj.data z
  have z3 := Data.func.inj z2
  have z4 := congrArg FuncData.name z3
  rw [e1, e2] at z4
  exact n z4
theorem keys_of {K : PySem.W.Frag} {d : Addr} {kvs : List (Str × Addr)} (hk : ∀ q ∈ kvs, PySem.W.nsIn K d q.1 = some (some (.ref q.2))) : ∀ z ∈ kvs.map (·.1), ∃ v, PySem.W.nsIn K d z = some (some v) := by
  intro z hz
  obtain ⟨q, hq, rfl⟩ := List.mem_map.mp hz
  exact ⟨_, hk q hq⟩
end Z
set_option Elab.async false
set_option maxRecDepth 100000
set_option linter.unusedVariables false
/-! ZV: int(text, 16), split into an own list. -/
namespace Z
open PySem PySem.Spec PyProof.Rows L2
def hexC (c : Nat) : Bool := (decide (48 ≤ c) && decide (c ≤ 57)) || (decide (97 ≤ c) && decide (c ≤ 102))
theorem hexC_is {c : Nat} (h : hexC c = true) : Hx.IsHex c := by
  unfold hexC at h
  rw [Bool.or_eq_true, Bool.and_eq_true, Bool.and_eq_true, decide_eq_true_eq, decide_eq_true_eq, decide_eq_true_eq, decide_eq_true_eq] at h
  unfold Hx.IsHex
  omega
def rIntX : List V → Hp → VK → Prop := fun xs H Q => rInt10 xs H Q ∨ rIntHex xs H Q
theorem call_intX {X : Cx} : CallR X (.type "int") rIntX := by
  intro pins s σ H xs us Q I r h
  rcases h with h | h
  · exact call_int10 pins s σ H xs us Q I r h
  · exact call_int_hex pins s σ H xs us Q I r h
def fIntX (ws : List Val) : M Val := fun h => match ws with
  | [.str a, .int 10] => match PySem.intText? a with
    | some n => if a.length ≤ 640 then .ok (.int n) h else .bad
    | none => .bad
  | [.str a, .int 16] => if a.cps.toList.all hexC = true ∧ a.cps.toList ≠ [] ∧ a.cps.toList.length ≤ 640 then .ok (.int ((Hx.hexNum a.cps.toList : Nat) : Int)) h else .bad
  | _ => .bad
theorem lk_intX {K : PySem.W.Frag} : Lks K fIntX rIntX := by
  intro W al B sg H h ws vs Q hr rs p
  unfold fIntX at p
  split at p
  · rename_i a
    obtain ⟨v1, v2, rfl, r1, r2⟩ := rs.two
    cases r1; cases r2
    split at p
    · rename_i n e
      split at p
      · rename_i c
        exact .inl ⟨_, n, rfl, e, c, Po.now p hr (.int n)⟩
      · exact p.elim
    · exact p.elim
  · rename_i a
    obtain ⟨v1, v2, rfl, r1, r2⟩ := rs.two
    cases r1; cases r2
    split at p
    · rename_i c
      refine .inr ⟨a.cps.toList, ?_, c.2.1, c.2.2, fun d hd => hexC_is (List.all_eq_true.mp c.1 d hd), Po.now p hr (.int _)⟩
      have : SX.S a.cps.toList = a := TL.mk_tl a
      rw [this]
    · exact p.elim
  · exact p.elim
def mSplitN (w1 w2 : Val) : M Val := fun h => match w1, w2 with
  | .str a, .str b => if (b.length == 0) = false ∧ a.length ≤ 100000 then .ok (.ref h.length) (h ++ [.lst ((Txt.split a b).map Val.str)]) else .bad
  | _, _ => .bad
theorem lk_splitN {K : PySem.W.Frag} : ∀ (W : WX) al B sg H h x w v (Q : VK), HR K al B H h → Rep K al B H w v → Po K B (fun al H => Rep K al B H) sg al H (mSplitN (.str x) w h) W Q → rSplit (.str x) [v] H Q := by
  intro W al B sg H h x w v Q hr r p
  cases r with
  | str b =>
    unfold mSplitN at p
    dsimp only at p
    split at p
    · rename_i c
      have hz := sizeLine_eq
      refine ⟨x, b, rfl, rfl, c.1, by omega, fun q hq => ?_⟩
      have l : (Txt.split x b).length ≤ sizeLine := Nat.le_trans (PyProof.Rows.split_le x b) (by omega)
      exact p _ _ _ (Stp.new hq) (hr.new hq (.lst upd_same (by rw [List.length_map]; exact l) (Reps.map (fun x => .str x) _))) (.ref (by rw [← hr.len, List.getElem?_concat_length]))
    · exact p.elim
  | _ => exact p.elim
end Z
set_option Elab.async false
set_option maxRecDepth 100000
set_option linter.unusedVariables false
/-! ZU: try .. except X as e, isinstance of the caught one, upper, order of texts, tuple[::-1], tuple * int, bool + int, functions as values. -/
namespace Z
open PySem PySem.Spec PyProof.Rows L2
/-! ### try .. except X as e -/
open Classical in
/-- what comes whichever address it is -/
noncomputable def uni (F : Addr → SO) : SO := if h : ∃ o, ∀ a, F a = o then h.choose else .bad
theorem uni_e {F : Addr → SO} {o : SO} (h : ∀ a, F a = o) : uni F = o := by
  have e : ∃ o, ∀ a, F a = o := ⟨o, h⟩
  unfold uni
  rw [dif_pos e]
  exact (e.choose_spec 0).symm.trans (h 0)
theorem uni_a {F : Addr → SO} {f : Fl} {ro : En} {h : HH} (e : uni F = .go f ro h) (a : Addr) : F a = .go f ro h := by
  unfold uni at e
  split at e
  · rename_i x
    rw [← e]
    exact x.choose_spec a
  · cases e
/-- the name is gone behind the suite -/
def gone (i : Nat) : SO → SO
  | .go (.ex _) _ _ => .bad
  | .go f ro h => .go f (ro.set i none) h
  | .bad => .bad
noncomputable def nTryAs (mb : SS) (tb : Value → Option Bool) (i : Nat) (ms : Ex → Addr → SS) : SS := fun ro h => match mb ro h with
  | .go (.ex e) ro1 h1 => match tb e.cls with
    | some true => if e.fs.isEmpty = true then uni fun a => gone i (ms e a (ro1.set i (some (.glo a))) h1) else .bad
    | some false => .go (.ex e) ro1 h1
    | none => .bad
  | o => o
theorem Sim.unset {K : PySem.W.Frag} {al B : List Addr} {ro : En} {h : HH} {sg : L2.St} {H : Hp} (S : Sim K al B ro h sg H) (i : Nat) : Sim K al B (ro.set i none) h (sg.set i none) H := by
  refine ⟨S.hr, by simp [S.len], fun j u e => ?_⟩
  by_cases z : i = j
  · subst z
    have l : i < ro.length := by have := (List.getElem?_eq_some_iff.mp e).1; simpa using this
    rw [List.getElem?_set_self l] at e
    cases e
  · rw [List.getElem?_set_ne z] at e
    obtain ⟨v', p, q⟩ := S.env j u e
    exact ⟨v', by rw [List.getElem?_set_ne z]; exact p, q⟩
section
variable {X : Cx} {W : WX} {pos : Pos}
theorem os_tryAs {x n : Str} {c : Value} {i : Nat} {body suite : List Stmt} {b₀ : Stmt} {np pos' : Pos} {mb : SS} {ms : Ex → Addr → SS} {tb : Value → Option Bool} (hs : X.stack = X.env :: X.outer) (hf : X.env.frame = some X.env.locals) (hN : X.N.Nodup) (hi : X.N[i]? = some n) (hln : X.env.kindOf n = some .local) (hc : Names X x c) (tk : Takes X W)
    (hb : ∀ (W : WX) (pn : List (Addr × Obj)) (xe : Value → Shared → Prop), Takes (X.tr pn xe) W → PassesOwn (model X.prog X.w) X.A X.env xe → PSs (X.tr pn xe) body (tS X.K W mb))
    (hsu : ∀ (e : Ex) (a : Addr) (oe : Obj) (pn : List (Addr × Obj)), tb e.cls = some true → Zc e.cls none oe → (∃ vs, oe.data = .fields vs) → PSs (X.suite a ((a, oe) :: pn)) (b₀ :: suite) (tS X.K W0 (ms e a)))
    (ht : ∀ v b, tb v = some b → PySem.W.exmOne X.K v c = some b) :
    PS X (.Try body [.ExceptHandler (some (.Name x np)) (some n) (b₀ :: suite) pos'] [] [] pos) (tS X.K W (nTryAs mb tb i ms)) := by
  refine PS.weak (ps_try_as (ts := fun a cls d D σ H => ∃ e : Ex, cls = e.cls ∧ d = none ∧ tb e.cls = some true ∧ tS X.K W0 (ms e a) D σ H) hs hf hN hi hln hc tk hb ?_) ?_
  · intro a oe cls d pn hz hd
    refine ⟨fun pins s σ H D I ⟨e, e1, e2, e3, p⟩ => ?_⟩
    subst e1 e2
    exact (hsu e a oe pn e3 hz hd).run pins s σ H D I p
  · rintro D sg H ⟨al, B, ro, h, S, p⟩
    refine ⟨al, B, ro, h, S, ?_⟩
    unfold nTryAs at p
    cases e1 : mb ro h with
    | bad => rw [e1] at p; exact p.elim
    | go f ro1 h1 =>
      rw [e1] at p
      intro al' sg' H' st S'
      cases f with
      | nx => exact p al' sg' H' st S'
      | brk => exact p al' sg' H' st S'
      | ct => exact p al' sg' H' st S'
      | ret w => exact p al' sg' H' st S'
      | ex e =>
        intro cls d er
        dsimp only at p
        cases e2 : tb e.cls with
        | none => rw [e2] at p; exact p.elim
        | some b =>
          rw [e2] at p
          have hcls : cls = e.cls := er.1
          refine ⟨b, ht _ _ (by rw [hcls]; exact e2), fun q a ha => ?_, fun q => ?_⟩
          · subst q
            dsimp only at p
            by_cases hfs : e.fs.isEmpty = true
            · rw [if_pos hfs] at p
              have hd : d = none := er.2.1 (List.isEmpty_iff.mp hfs)
              refine ⟨e, hcls, hd, e2, al', B, ro1.set i (some (.glo a)), h1, S'.set i (.glo a), ?_⟩
              cases e3 : uni fun a => gone i (ms e a (ro1.set i (some (.glo a))) h1) with
              | bad => rw [e3] at p; exact p.elim
              | go f3 ro3 h3 =>
                rw [e3] at p
                have e4 : gone i (ms e a (ro1.set i (some (.glo a))) h1) = .go f3 ro3 h3 := uni_a e3 a
                cases e5 : ms e a (ro1.set i (some (.glo a))) h1 with
                | bad => rw [e5] at e4; cases e4
                | go f5 ro5 h5 =>
                  rw [e5] at e4
                  have p2 := Ps.step (o := .go f3 ro3 h3) p st
                  cases f5 with
                  | ex _ => cases e4
                  | nx =>
                    cases e4
                    exact fun a2 s2 H2 st2 S2 => p2 a2 _ H2 st2 (S2.unset i)
                  | brk =>
                    cases e4
                    exact fun a2 s2 H2 st2 S2 => p2 a2 _ H2 st2 (S2.unset i)
                  | ct =>
                    cases e4
                    exact fun a2 s2 H2 st2 S2 => p2 a2 _ H2 st2 (S2.unset i)
                  | ret w =>
                    cases e4
                    exact fun a2 s2 H2 st2 S2 => p2 a2 _ H2 st2 (S2.unset i)
            · rw [if_neg hfs] at p
              exact p.elim
          · subst q
            exact p al' sg' H' st S' cls d er
end
/-! ### isinstance of the caught one -/
def sameC : Val → Val → Bool
  | .glo C, .glo D => decide (C = D)
  | .ty n, .ty m => decide (n = m)
  | _, _ => false
theorem sameC_eq {c d : Val} (h : sameC c d = true) : c = d := by
  unfold sameC at h
  split at h
  · rw [of_decide_eq_true h]
  · rw [of_decide_eq_true h]
  · cases h
def sameCs : List Val → List Val → Bool
  | [], [] => true
  | c :: cs, d :: ds => sameC c d && sameCs cs ds
  | _, _ => false
theorem sameCs_eq : ∀ {cs ds : List Val}, sameCs cs ds = true → cs = ds
  | [], [], _ => rfl
  | c :: cs, d :: ds, h => by
    unfold sameCs at h
    rw [Bool.and_eq_true] at h
    rw [sameC_eq h.1, sameCs_eq h.2]
  | [], _ :: _, h => by cases h
  | _ :: _, [], h => by cases h
/-- isinstance(e, C): C one class; isinstance(e, (C, ..)) -/
def fIsE (a : Addr) (cs : List Val) (b : Bool) (ws : List Val) : M Val := fun h => match ws with
  | [.glo a', .tup ds] => if a' = a ∧ sameCs ds cs = true then .ok (.bl b) h else .bad
  | [.glo a', c] => if a' = a ∧ sameCs [c] cs = true then .ok (.bl b) h else .bad
  | _ => .bad
def clsV : Val → Option Value
  | .glo C => some (.ref C)
  | .ty n => some (.type n)
  | _ => none
theorem clsV_rel {K : PySem.W.Frag} {al B : List Addr} {H : Hp} {c : Val} {v : V} {cv : Value} (e : clsV c = some cv) (r : Rep K al B H c v) : ∀ u, RelV v u → u = cv := by
  intro u ru
  cases r with
  | glo C => cases e; exact ru
  | ty n => cases e; exact ru
  | _ => cases e
def clsVs : List Val → Option (List Value)
  | [] => some []
  | c :: cs => match clsV c, clsVs cs with
    | some v, some vs => some (v :: vs)
    | _, _ => none
theorem clsVs_rel {K : PySem.W.Frag} {al B : List Addr} {H : Hp} : ∀ {cs : List Val} {vs : List V} {cvs : List Value}, clsVs cs = some cvs → Reps K al B H cs vs → ∀ us, Vals vs us → us = cvs
  | _, _, _, e, .nil, us, r => by cases e; cases r; rfl
  | _, _, _, e, .cons a s, us, r => by
    unfold clsVs at e
    split at e
    · rename_i v vs e1 e2
      cases e
      cases r with
      | cons r1 r2 => rw [clsV_rel e1 a _ r1, clsVs_rel e2 s _ r2]
    · cases e
def rIsEs (K : PySem.W.Frag) (D a : Addr) : List V → Hp → VK → Prop := fun xs H Q => rIsE K D a xs H Q ∨ ∃ (t : Addr) (vs : List V) (cvs : List Value) (b : Bool), xs = [.ref a, .ref t] ∧ SqT K H t vs ∧ (∀ us, Vals vs us → us = cvs) ∧ PySem.W.kitAny K (.ref D) cvs = some b ∧ Q (.bl b) H
theorem call_isEs {X : Cx} {a D : Addr} {oe : Obj} {pn : List (Addr × Obj)} (C : ExcC X.K D) (hz : Zc (.ref D) none oe) (hf : ∃ vs, oe.data = .fields vs) : CallR (X.suite a ((a, oe) :: pn)) (.builtin "isinstance") (rIsEs X.K D a) := by
  intro pins s σ H xs us Q I r h
  rcases h with h | ⟨t, vs, cvs, b, rfl, hT, hcv, e, q⟩
  · exact call_isE C hz hf pins s σ H xs us Q I r h
  · cases r with
    | cons rx rr =>
      cases rr with
      | cons rt rr =>
        cases rr
        cases rx
        cases rt
        obtain ⟨hget, _⟩ := I.pin (a, oe) (List.mem_append.mpr (.inl List.mem_cons_self))
        obtain ⟨ws, hv⟩ := hf
        have J : PySem.W.InstAt s.heap a oe D none := by
          obtain ⟨oc, od, oda, osl⟩ := oe
          obtain ⟨h1, h2⟩ := hz
          dsimp only at h1 h2 hv
          subst h1 h2 hv
          exact ⟨hget, rfl, rfl, trivial⟩
        obtain ⟨its, r', ⟨⟨cls, dd, data, sl⟩, ho, hc, n, hd⟩, _⟩ := I.tuple hT
        simp only at hc hd
        subst hc hd
        have ei := hcv its r'
        subst ei
        exact PySem.W.kia_tup (PySem.W.handS_kitx_exc C.hg C.hk C.hs C.hd C.ha C.hn C.ht C.hm) I.kIn J ho e (fun z => nomatch z) fun tk => ⟨.bl b, H, I.kept (t' := tk) fun _ _ z => z, rfl, q⟩
theorem lk_isE {K : PySem.W.Frag} {D a : Addr} {cs : List Val} {cvs : List Value} {b : Bool} (e1 : clsVs cs = some cvs) (e2 : PySem.W.kitAny K (.ref D) cvs = some b) : Lks K (fIsE a cs b) (rIsEs K D a) := by
  intro W al B sg H h ws vs Q hr rs p
  unfold fIsE at p
  split at p
  · rename_i a' ds
    obtain ⟨v1, v2, rfl, r1, r2⟩ := rs.two
    split at p
    · rename_i c
      obtain ⟨rfl, ec⟩ := c
      have ec := sameCs_eq ec
      subst ec
      cases r1
      cases r2 with
      | tup q l s => exact .inr ⟨_, _, cvs, b, rfl, sqT_of q, clsVs_rel e1 s, e2, Po.now p hr (.bl b)⟩
    · exact p.elim
  · rename_i a' c _
    obtain ⟨v1, v2, rfl, r1, r2⟩ := rs.two
    split at p
    · rename_i q
      obtain ⟨rfl, ec⟩ := q
      have ec := sameCs_eq ec
      subst ec
      cases r1
      unfold clsVs at e1
      split at e1
      · rename_i cv cvs' e3 e4
        cases e4
        cases e1
        refine .inl ⟨v2, cv, b, rfl, clsV_rel e3 r2, ?_, Po.now p hr (.bl b)⟩
        unfold PySem.W.kitAny at e2
        cases e5 : PySem.W.kitOne K (.ref D) cv with
        | none => rw [e5] at e2; cases e2
        | some k => rw [e5] at e2; cases k <;> exact e2
      · cases e1
    · exact p.elim
  · exact p.elim
/-! ### upper -/
section
variable {X : Cx} {W : WX} {o : Expr} {mo : SE} {name : Str} {id : String} {apos pos : Pos}
def sSm0 (f : Val → M Val) (mo : SE) : SE := fun ro => bind (mo ro) fun w => match w with
  | .str x => f (.str x)
  | _ => fail
theorem oe_sm0 {r : V → List V → Hp → VK → Prop} {f : Val → M Val} (slot : Slot "str" name id) (hty : typeOf (.builtin id) = pure (.type "method_descriptor")) (hm : MtR X id r)
    (lk : ∀ (W : WX) al B sg H h x (Q : VK), HR X.K al B H h → Po X.K B (fun al H => Rep X.K al B H) sg al H (f (.str x) h) W Q → r (.str x) [] H Q)
    (ho : PE X o (tE X.K W mo)) (hbase : attributeBase o name X.env (eval o X.env) = eval o X.env) (hline : (apos.endLine == pos.line) = true) :
    PE X (.Call (.Attribute o name apos) [] [] pos) (tE X.K W (sSm0 f mo)) := by
  refine PE.weak (pe_m0 slot hty hm ho hbase hline) ?_
  rintro sg H Q ⟨al, B, ro, h, S, p⟩
  refine ⟨al, B, ro, h, S, Po.mono (Po.bind p) fun v H1 ⟨al1, h1, w, st, hr, r1, q⟩ => ?_⟩
  cases r1 with
  | str x => exact ⟨⟨x, rfl⟩, lk W al1 B sg H1 h1 x Q hr q⟩
  | _ => exact q.elim
def mUpper (w : Val) : M Val := fun h => match w with
  | .str a => if a.length ≤ 100000 then .ok (.str (Txt.upper a)) h else .bad
  | _ => .bad
theorem lk_upper {K : PySem.W.Frag} : ∀ (W : WX) al B sg H h x (Q : VK), HR K al B H h → Po K B (fun al H => Rep K al B H) sg al H (mUpper (.str x) h) W Q → ∃ a, V.str x = .str a ∧ ([] : List V) = [] ∧ a.length ≤ 5592405 ∧ Q (.str (Txt.upper a)) H := by
  intro W al B sg H h x Q hr p
  unfold mUpper at p
  dsimp only at p
  split at p
  · rename_i c
    exact ⟨x, rfl, rfl, by omega, Po.now p hr (.str _)⟩
  · exact p.elim
end
/-! ### a <= b, numbers or texts -/
def bLeS (w1 w2 : Val) : M Val := fun h => match w1, w2 with
  | .int i, .int j => .ok (.bl (decide (i ≤ j))) h
  | .str x, .str y => .ok (.bl (!decide (y.cps.toList < x.cps.toList))) h
  | _, _ => .bad
def rLeS : R2 := fun x y H Q => rI0 (fun i j => .bl (decide (i ≤ j))) x y H Q ∨ ∃ i j, x = .str i ∧ y = .str j ∧ Q (.bl (!decide (j.cps.toList < i.cps.toList))) H
theorem op_leS {X : Cx} : OpR X (compareOp .LtE) rLeS := op_le.or op_le_str
theorem lk_leS {K : PySem.W.Frag} : Lk2 K bLeS rLeS := by
  intro W al B sg H h w1 w2 v1 v2 Q hr r1 r2 p
  unfold bLeS at p
  split at p
  · cases r1; cases r2
    exact .inl ⟨_, _, rfl, rfl, Po.now p hr (.bl _)⟩
  · cases r1; cases r2
    exact .inr ⟨_, _, rfl, rfl, Po.now p hr (.bl _)⟩
  · exact p.elim
/-! ### bool + int -/
def rAddB : R2 := fun x y H Q => ∃ k i, x = .bl k ∧ y = .int i ∧ Q (.int ((if k = true then (1 : Int) else 0) + i)) H
theorem op_addB {X : Cx} : OpR X (binaryOp .Add) rAddB := by
  intro pins s σ H x y v u Q I rx ry h
  obtain ⟨k, i, rfl, rfl, q⟩ := h
  cases rx
  obtain ⟨t, rfl⟩ := ry
  exact IntBool.add_bool_int ⟨.int _, H, I.tok _, ⟨_, rfl⟩, q⟩
def bAddB (w1 w2 : Val) : M Val := fun h => match w1, w2 with
  | .bl k, .int i => .ok (.int ((if k = true then (1 : Int) else 0) + i)) h
  | w1, w2 => bAdd w1 w2 h
theorem lk_addB {K : PySem.W.Frag} : Lk2 K bAddB (fun x y H Q => rAddB x y H Q ∨ rI0 (fun i j => .int (i + j)) x y H Q ∨ (∃ i j, x = .str i ∧ y = .str j ∧ i.length + j.length ≤ sizeLine ∧ Q (.str (i ++ j)) H) ∨ rCatF K x y H Q ∨ rCat x y H Q) := by
  intro W al B sg H h w1 w2 v1 v2 Q hr r1 r2 p
  unfold bAddB at p
  split at p
  · cases r1; cases r2
    exact .inl ⟨_, _, rfl, rfl, Po.now p hr (.int _)⟩
  · exact .inr (lk_add W al B sg H h w1 w2 v1 v2 Q hr r1 r2 p)
theorem op_addBZ {X : Cx} : OpR X (binaryOp .Add) (fun x y H Q => rAddB x y H Q ∨ rI0 (fun i j => .int (i + j)) x y H Q ∨ (∃ i j, x = .str i ∧ y = .str j ∧ i.length + j.length ≤ sizeLine ∧ Q (.str (i ++ j)) H) ∨ rCatF X.K x y H Q ∨ rCat x y H Q) := op_addB.or op_addZ
/-! ### functions as values -/
theorem cst_fun {K : PySem.W.Frag} {mg : Str → Option Value} {x : Str} {f : Addr} (e : mg x = some (.ref f)) : Cst K mg x (.glo f) := ⟨.ref f, .ref f, e, rfl, fun _ _ _ => .glo f⟩
end Z
set_option Elab.async false
set_option maxRecDepth 100000
set_option linter.unusedVariables false
/-! ZU2: tuple[::-1], tuple * int. -/
namespace Z
open PySem PySem.Spec PyProof.Rows L2
section
variable {prog : Program} {w : World} {A : Around} {E : Value → Shared → Prop} {s : Shared}
theorem adjust_rev (n : Nat) : Builtin.Slice.sliceAdjust none none (-1) (n : Int) = ((n : Int) - 1, -1) := rfl
theorem places_rev (n : Nat) : Builtin.Slice.slicePlaces ((n : Int) - 1) (-1) (-1) = n := by
  unfold Builtin.Slice.slicePlaces
  have h1 : ¬ ((-1 : Int) > 0) := by omega
  simp only [h1, if_false]
  split
  · rw [show (- -1 : Int) = 1 by decide, Int.ediv_one]; omega
  · omega
theorem sliceApplied_rev {sl : Addr} {vl vu vs : Value} {n : Nat} {Q : Int × Int × Nat → Shared → Prop} (hs : s.heap.IsSliceOf sl vl vu vs) (pl : IsPart vl none) (pu : IsPart vu none) (ps : IsPart vs (some (-1)))
    (h : Q ((n : Int) - 1, -1, n) s) : wpAny (model prog w) A (Builtin.Slice.sliceApplied (.ref sl) (pure (n : Int))) Q E s := by
  obtain ⟨os, hos, hcs, hds⟩ := id hs
  unfold Builtin.Slice.sliceApplied Builtin.Slice.sliceFields
  refine wpAny_bind (wpAny_bind (wpAny_field hos hds (x := vl) rfl (wpAny_bind (wpAny_field hos hds (x := vu) rfl (wpAny_bind (wpAny_field hos hds (x := vs) rfl (wpAny_pure ?_)))))))
  refine wpAny_bind (HT.slicePart_ ps ?_)
  show wpAny _ _ (if ((-1 : Int) == 0) = true then _ else _) _ _ s
  rw [if_neg (by decide)]
  refine wpAny_bind (HT.slicePart_ pl (wpAny_bind (HT.slicePart_ pu (wpAny_bind (wpAny_pure ?_)))))
  show wpAny _ _ (match Builtin.Slice.sliceAdjust none none (-1) (n : Int) with | (lo, hi) => pure (lo, (-1 : Int), Builtin.Slice.slicePlaces lo hi (-1))) _ _ s
  rw [adjust_rev n]
  show wpAny _ _ (pure ((n : Int) - 1, (-1 : Int), Builtin.Slice.slicePlaces ((n : Int) - 1) (-1) (-1))) _ _ s
  rw [places_rev]
  exact wpAny_pure h
theorem pick_rev (xs : Array Value) : ((List.range xs.size).filterMap fun (m : Nat) => xs[((xs.size : Int) - 1 + (m : Int) * (-1)).toNat]?).toArray = xs.toList.reverse.toArray := by
  rw [← PySem.W.krv_pick]
  unfold slicePick
  rw [PySem.W.krv_bounds]
  show _ = ((sliceRange ((xs.size : Int) - 1) (-1) (-1)).filterMap (xs[·]?)).toArray
  rw [PySem.W.krv_sliceRange, List.filterMap_map]
  congr 1
  have key : ∀ l : List Nat, (∀ m ∈ l, m < xs.size) → (l.filterMap fun (m : Nat) => xs[((xs.size : Int) - 1 + (m : Int) * (-1)).toNat]?) = l.filterMap ((fun x => xs[x]?) ∘ fun k => xs.size - 1 - k) := by
    intro l
    induction l with
    | nil => intro _; rfl
    | cons m l ih =>
      intro hl
      have hm := hl m List.mem_cons_self
      have e : ((xs.size : Int) - 1 + (m : Int) * (-1)).toNat = xs.size - 1 - m := by omega
      rw [List.filterMap_cons, List.filterMap_cons, ih fun k hk => hl k (List.mem_cons_of_mem _ hk)]
      have e2 : ((fun x => xs[x]?) ∘ fun k => xs.size - 1 - k) m = xs[((xs.size : Int) - 1 + (m : Int) * (-1)).toNat]? := by
        rw [e]; rfl
      rw [e2]
  exact key _ fun m hm => List.mem_range.mp hm
theorem getItem_tuple_rev {t sl : Addr} {items : Array Value} {vl vu vs : Value} {Q : Value → Shared → Prop} (ht : IsTup s.heap t items) (hs : s.heap.IsSliceOf sl vl vu vs) (pl : IsPart vl none) (pu : IsPart vu none) (ps : IsPart vs (some (-1)))
    (h : Q (.ref s.heap.objs.size) { s with heap := s.heap.push { cls := .type "tuple", data := .seq items.toList.reverse.toArray } })
    (hsz : items.size ≤ sizeLine) : wpAny (model prog w) A (getItem (.ref t) (.ref sl)) Q E s := by
  have htake : sizeOk (.seq items.toList.reverse.toArray) := by
    show items.toList.reverse.toArray.size ≤ sizeLine
    rw [List.size_toArray, List.length_reverse, Array.length_toList]
    exact hsz
  obtain ⟨os, hos, hcs, hds⟩ := id hs
  have hTs : s.TypeIs (.ref sl) "slice" := ⟨os, hos, hcs⟩
  unfold getItem
  try with_reducible refine wpAny_holding ?_
  first | refine wpAny_bind (wpAny_pure ?_) | skip
  refine wpAny_bind (wpAny_sequenceKey ht.typeIs (by decide) ?_)
  refine wpAny_bind (wpAny_callSpecial?_slot (name := Str.ofString "__getitem__") ht.typeIs PyProof.Rows.slot_tuple_getitem
    (wpAny_call_entry PyProof.Rows.slot_tuple_getitem ht.typeIs entry_tuple_getitem ?_ (args_tuple_getitem _ _)))
  show wpAny _ _ (Builtin.Tuple.tupleItemsOf (.ref t) >>= _) _ _ s
  refine wpAny_bind (tupleItemsOf_ ht ?_)
  refine wpAny_bind (wpAny_typeOf hTs ?_)
  rw [if_pos (by decide)]
  refine wpAny_bind (sliceApplied_rev hs pl pu ps ?_)
  have hno : ¬ ((((items.size : Nat) : Int) - 1 == 0 && (-1 : Int) == 1 && items.size == items.size) = true) := by
    intro q
    rw [Bool.and_eq_true, Bool.and_eq_true] at q
    exact absurd (eq_of_beq q.1.2) (by decide)
  show wpAny _ _ (if (((items.size : Nat) : Int) - 1 == 0 && (-1 : Int) == 1 && items.size == items.size) = true then _ else _) _ _ s
  rw [if_neg hno, pick_rev]
  first
    | exact wpAny_bind (m := Builtin.Tuple.tupleExact _) (wpAny_newObj_type (wpAny_pure ⟨_, rfl, wpAny_pure h⟩) htake)
    | exact wpAny_bind (m := Builtin.Tuple.tupleExact _) (wpAny_newObj_type (wpAny_bind (wpAny_pure (wpAny_pure ⟨_, rfl, wpAny_pure h⟩))) htake)
    | exact wpAny_bind (wpAny_bind (m := Builtin.Tuple.tupleExact _) (wpAny_newObj_type (wpAny_pure (wpAny_pure ⟨_, rfl, wpAny_pure h⟩)) htake))
    | exact wpAny_bind (wpAny_bind (m := Builtin.Tuple.tupleExact _) (wpAny_newObj_type (wpAny_pure ⟨_, rfl, wpAny_pure h⟩) htake))
end
end Z
namespace Z
open PySem PySem.Spec PyProof.Rows L2
section
variable {X : Cx} {W : WX} {e : Expr} {m : SE} {k : Nat} {p1 p2 p3 pos : Pos}
def tRevT (K : PySem.W.Frag) (te : TE) : TE := fun σ H Q => te σ H fun x H1 => ∃ a xs, x = .ref a ∧ SqT K H1 a xs ∧ ∀ p u, H1 p = none → FT u xs.reverse → Q (.ref p) (upd H1 p u)
theorem pe_revT {te : TE} (he : PE X e te) : PE X (.Subscript e (.Slice none none (some (.UnaryOp .USub (.Constant (.int 1) k p1) p2)) p3) pos) (tRevT X.K te) := by
  refine ⟨fun pins s σ H Q I h => ?_⟩
  refine Subscript_ (thn (he.run pins s σ H _ I h) fun v s1 ⟨x, H1, I1, r1, q1⟩ => ?_)
  obtain ⟨a, xs, ex, hx, q⟩ := q1
  subst ex
  cases r1
  have hst : PO X (some (.UnaryOp .USub (.Constant (.int 1) k p1) p2)) (tPart (tUn (rU fun i => .int (-i)) (tC (.int 1)))) := po_some (pe_un un_neg pe_int)
  refine wpAny_Slice (thn (po_none.run pins s1 σ H1 (fun o H2 => o = none ∧ H2 = H1) I1 ⟨rfl, rfl⟩) fun vl s2 ⟨l, H2, I2, pl, el, e2⟩ => ?_)
  subst el e2
  refine thn (po_none.run pins s2 σ H2 (fun o H3 => o = none ∧ H3 = H2) I2 ⟨rfl, rfl⟩) fun vu s3 ⟨u, H3, I3, pu, eu, e3⟩ => ?_
  subst eu e3
  refine thn (hst.run pins s3 σ H3 (fun o H4 => o = some (-1) ∧ H4 = H3) I3 ⟨1, rfl, -1, rfl, rfl, rfl⟩) fun vs s4 ⟨o, H4, I4, ps, eo, e4⟩ => ?_
  subst eo e4
  have I5 : Inv X pins σ H4 { s4 with heap := s4.heap.push { cls := .type "slice", data := .fields #[vl, vu, vs] } } := I4.kept (t' := s4.toks) fun b ob q => Heap.get?_push_of_some _ q
  obtain ⟨its, r, ht, hz⟩ := I5.tuple hx
  have hlen := r.length
  show wpAny (model X.prog X.w) X.A (subscriptTail e (.Slice none none (some (.UnaryOp .USub (.Constant (.int 1) k p1) p2)) p3) (.ref a) (.ref s4.heap.objs.size)) (EP X pins σ Q) X.xe { s4 with heap := s4.heap.push { cls := .type "slice", data := .fields #[vl, vu, vs] } }
  refine tail_any (ops := [.ref a, .ref s4.heap.objs.size]) ht.typeIs (PyProof.Rows.slot_tuple_getitem.lookup) ?_ (by with_unfolding_all rfl)
  refine getItem_tuple_rev ht (Heap.IsSliceOf.new _ vl vu vs) pl pu ps ?_ (by rw [List.size_toArray]; omega)
  exact ⟨.ref _, _, laidT (tk := s4.toks) I5 (fun b ob q => q) (Nat.le_refl _) r.reverse (by rw [List.length_reverse]; exact hz), rfl, q _ _ (I5.hok.fresh (Nat.le_refl _)) ft_new⟩
theorem Reps.rev {K : PySem.W.Frag} {al B : List Addr} {H : Hp} : ∀ {xs : List Val} {vs : List V}, Reps K al B H xs vs → Reps K al B H xs.reverse vs.reverse
  | _, _, .nil => .nil
  | _, _, .cons a s => by
    rw [List.reverse_cons, List.reverse_cons]
    exact (Reps.rev s).append (.cons a .nil)
def bRev (w : Val) : M Val := fun h => match w with
  | .tup xs => .ok (.tup xs.reverse) h
  | _ => .bad
def sRev (m : SE) : SE := fun ro => bind (m ro) bRev
theorem oe_revT (he : PE X e (tE X.K W m)) : PE X (.Subscript e (.Slice none none (some (.UnaryOp .USub (.Constant (.int 1) k p1) p2)) p3) pos) (tE X.K W (sRev m)) := by
  refine PE.weak (pe_revT he) ?_
  rintro sg H Q ⟨al, B, ro, h, S, p⟩
  refine ⟨al, B, ro, h, S, Po.mono (Po.bind p) fun v H1 ⟨al1, h1, w, st, hr, r1, q⟩ => ?_⟩
  cases r1 with
  | tup a l s =>
    exact ⟨_, _, rfl, sqT_of a, fun z u hz hu => q _ _ _ (Stp.lay hz) (hr.lay hz) (.tup (.inl (AtT.lay hr hz hu)) (by rw [List.length_reverse]; exact l) (Reps.rev (s.step (Stp.lay hz))))⟩
  | _ => exact q.elim
end
/-! ### tuple * int -/
def rRepF (K : PySem.W.Frag) : R2 := fun x y H Q => ∃ l k xs, x = .ref l ∧ y = .int k ∧ SqT K H l xs ∧ xs ≠ [] ∧ 2 ≤ k ∧ k ≤ 1000 ∧ xs.length ≤ 1000 ∧ ∀ p u, H p = none → FT u (List.replicate k.toNat xs).flatten → Q (.ref p) (upd H p u)
theorem op_repF {X : Cx} : OpR X (binaryOp .Mult) (rRepF X.K) := by
  intro pins s σ H x y v u Q I rx ry h
  obtain ⟨l, k, xs, rfl, rfl, hT, hne, h1, h2, hz, q⟩ := h
  cases rx
  obtain ⟨t, rfl⟩ := ry
  obtain ⟨its, r, ⟨⟨cls, dd, data, sl⟩, ho, hc, n, hd⟩, hs⟩ := I.tuple hT
  simp only at hc hd
  subst hc hd
  have hle : its.length = xs.length := r.length.symm
  have hn : its ≠ [] := fun e => hne (by
    rw [e] at hle
    exact List.eq_nil_of_length_eq_zero hle.symm)
  have hi : its.toArray.isEmpty = false := by
    cases its with
    | nil => exact absurd rfl hn
    | cons a b => rfl
  have hsz0 : its.toArray.size = xs.length := by rw [List.size_toArray, hle]
  have hm : ((its.toArray.size : Nat) : Int) * k ≤ 1000000 := by
    rw [hsz0]
    have a1 : ((xs.length : Nat) : Int) * k ≤ 1000 * k := Int.mul_le_mul_of_nonneg_right (by omega) (by omega)
    omega
  have flen : (List.replicate k.toNat its).flatten.length ≤ sizeLine := by
    rw [PyProof.Rows.lm_len_rep_flat, hle, sizeLine_eq]
    have a1 : k.toNat * xs.length ≤ 1000 * 1000 := Nat.mul_le_mul (by omega) hz
    omega
  have c0 : (decide (k < -(2 ^ 63)) || decide (k ≥ 2 ^ 63)) = false := by
    rw [decide_eq_false (by omega), decide_eq_false (by omega)] <;> rfl
  have c1 : (its.toArray.isEmpty || k == 1) = false := by
    rw [hi, Bool.false_or]
    exact beq_eq_false_iff_ne.mpr (by omega)
  have c2 : (decide (k ≤ 0) || its.toArray.isEmpty) = false := by
    rw [hi, Bool.or_false]
    exact decide_eq_false (by omega)
  have c4 : Builtin.Tuple.tupleTooMany (((its.toArray.size : Nat) : Int) * k) = false := by
    unfold Builtin.Tuple.tupleTooMany
    rw [sizeLine_eq]
    exact decide_eq_false (by omega)
  refine wpAny_binaryOp_repeat_ref (T := "tuple") (U := "int") (by decide) ⟨_, ho, rfl⟩ (fun s' => typeIs_int s' k t) noFill_tuple_mul F.fills_int_mul F.slot_int_rmul repeat_tuple F.slot_int_index.lookup
    (call_meets F.slot_int_rmul (typeIs_int s k t) F.entry_int_rmul (F.args_int_rmul_2 _ _) (int_rmul_tuple k t l its.toArray n dd sl)
      ⟨ho, rfl, ⟨_, ho, rfl⟩, call_meets F.slot_tuple_mul ⟨_, ho, rfl⟩ F.entry_tuple_mul (F.args_tuple_mul_2 _ _) (tuple_mulW l its.toArray n dd sl k t c0 c1 c2 (by omega) c4 (by rw [size_rep, List.size_toArray]; exact flen)) ⟨ho, ?_⟩⟩)
  rw [size_rep]
  exact ⟨.ref s.heap.objs.size, _, laidT (tk := s.toks) I (fun _ _ e => e) (Nat.le_refl _) (r.rep k.toNat) (by rw [PyProof.Rows.lm_len_rep_flat, sizeLine_eq]; have a1 : k.toNat * xs.length ≤ 1000 * 1000 := Nat.mul_le_mul (by omega) hz; omega), rfl, q _ _ (I.hok.fresh (Nat.le_refl _)) ft_new⟩
theorem Reps.rep {K : PySem.W.Frag} {al B : List Addr} {H : Hp} {xs : List Val} {vs : List V} (r : Reps K al B H xs vs) : ∀ n : Nat, Reps K al B H (List.replicate n xs).flatten (List.replicate n vs).flatten
  | 0 => .nil
  | n + 1 => by
    rw [List.replicate_succ, List.replicate_succ, List.flatten_cons, List.flatten_cons]
    exact r.append (Reps.rep r n)
def bMulT (w1 w2 : Val) : M Val := fun h => match w1, w2 with
  | .tup (x :: xs), .int k => if 2 ≤ k ∧ k ≤ 1000 ∧ xs.length + 1 ≤ 1000 then .ok (.tup (List.replicate k.toNat (x :: xs)).flatten) h else .bad
  | w1, w2 => bMul w1 w2 h
theorem lk_mulT {K : PySem.W.Frag} : Lk2 K bMulT (fun x y H Q => rRepF K x y H Q ∨ rI CMul (fun i j => .int (i * j)) x y H Q ∨ rI CMulW (fun i j => .int (i * j)) x y H Q) := by
  intro W al B sg H h w1 w2 v1 v2 Q hr r1 r2 p
  unfold bMulT at p
  split at p
  · rename_i x xs k
    cases r2
    split at p
    · rename_i c
      cases r1 with
      | tup a l s =>
        refine .inl ⟨_, k, _, rfl, rfl, sqT_of a, fun e => ?_, c.1, c.2.1, by rw [← s.length]; exact c.2.2, fun z u hz hu => p _ _ _ (Stp.lay hz) (hr.lay hz) (.tup (.inl (AtT.lay hr hz hu)) ?_ ((Reps.rep s k.toNat).step (Stp.lay hz)))⟩
        · rw [e] at s
          cases s
        · rw [rep_len, List.length_cons]
          have a1 : k.toNat * (xs.length + 1) ≤ 1000 * 1000 := Nat.mul_le_mul (by omega) c.2.2
          have := sizeLine_eq
          omega
    · exact p.elim
  · exact .inr (lk_mul W al B sg H h w1 w2 v1 v2 Q hr r1 r2 p)
theorem op_mulTZ {X : Cx} : OpR X (binaryOp .Mult) (fun x y H Q => rRepF X.K x y H Q ∨ rI CMul (fun i j => .int (i * j)) x y H Q ∨ rI CMulW (fun i j => .int (i * j)) x y H Q) := op_repF.or op_mulZ
end Z
namespace Z
open PySem PySem.Spec PyProof.Rows L2
theorem zb_ValueError : bootBuiltins "ValueError" = some (.type "ValueError") := by decide +kernel
theorem only_eq {C : Addr} {v : Value} (h : only C v = some true) : v = .ref C := by
  unfold only at h
  split at h
  · split at h
    · rename_i e; rw [e]
    · cases h
  · cases h
theorem only_zc {C : Addr} {e : Ex} {oe : Obj} (h : only C e.cls = some true) (z : Zc e.cls none oe) : Zc (.ref C) none oe := by
  rw [only_eq h] at z
  exact z
end Z
set_option Elab.async false
set_option maxRecDepth 100000
set_option maxHeartbeats 2000000
set_option linter.unusedVariables false
/-! ZQ: isinstance of a caught one with fields; several clauses with names. -/
namespace PySem.W
open PySem PySem.Spec PySem.Calls PyProof.Rows
section
variable {prog : Program} {w : World} {A : Around} {E : Value → Shared → Prop} {s : Shared} {K : Frag} {x D : Addr} {ox : Obj} {od : Option Obj}
theorem zq_findObj {C : Addr} {name : Str} {a g : Value} (hc : (clsIn K C).isSome = true) (ha : findIn K (.ref C) name = some (some a)) (hg : specialIn K a "__get__" = some (some g)) (ht : takesIn K a = some true) : findObj K C od name = some (.bind g a) := by
  obtain ⟨cd, hc⟩ := Option.isSome_iff_exists.mp hc
  unfold findObj
  rw [hc, Option.bind_some, ha, Option.bind_some]
  simp [hg, ht]
theorem zq_class {Q : Option Value → Shared → Prop} (hga : findIn K (.ref D) "__getattribute__" = some (some (.builtin "BaseException.__getattribute__"))) (hgt : findIn K (.ref D) "__getattr__" = some none) (hsub : subIn K (.ref D) (.type "BaseException") = some true)
    (hdct : hasDictIn K D = true) (ha : findIn K (.ref D) "__class__" = some (some (.builtin "object.__class__")))
    (hn : specialIn K (.builtin "object.__class__") "__get__" = some (some (.builtin "getset_descriptor.__get__"))) (htk : takesIn K (.builtin "object.__class__") = some true) (hm : mroIn K D (.type "object") = some true)
    (X : K.In s.heap) (I : InstAt s.heap x ox D od) (h : Q (some (.ref D)) { s with toks := s.toks + 1 }) : wpAny (model prog w) A (getAttr? (.ref x) "__class__") Q E s := by
  have hf : findObj K D od "__class__" = some (.bind (.builtin "getset_descriptor.__get__") (.builtin "object.__class__")) := zq_findObj (by obtain ⟨cd, hc, _⟩ := any_some hdct; rw [hc]; rfl) ha hn htk
  obtain ⟨hp, g, d, t, os⟩ := s
  have L0 := I.type (M := model prog w)
  have L1 := looks_findIn (M := model prog w) X hga
  have L2 := looks_findIn (M := model prog w) X hgt
  have L3 := looks_find (M := model prog w) X I hf
  have sub : Looks (model prog w) hp (isInstance (.ref x) (.type "BaseException")) true := L0.andThen (looks_subIn X hsub)
  have hx0 : (false && onTheHeap (Value.builtin "BaseException.__getattribute__")) = false := rfl
  have hx2 : (Value.builtin "BaseException.__getattribute__" == Value.builtin "object.__getattribute__") = false := by decide +kernel
  have hx1 : (onTheHeap (Value.ref D) && Value.builtin "BaseException.__getattribute__" == Value.builtin "object.__getattribute__") = false := by rw [hx2]; rfl
  unfold getAttr? getAttrBy? getAttrBy
  refine wpAny_bind (wpAny_mkText (wpAny_bind (wpAny_attempt (wpAny_holding (wpAny_bind (L0.at (wpAny_bind (L1.at ?_))))))))
  show wpAny _ _ (if (onTheHeap (Value.ref D) && Value.builtin "BaseException.__getattribute__" == Value.builtin "object.__getattribute__") = true then _ else _) _ _ _
  rw [hx1, if_neg Bool.false_ne_true]
  unfold getAttrByItsOwn hookBefore
  refine wpAny_bind ?_
  rw [if_pos (show onTheHeap (Value.ref D) = true from rfl)]
  refine L2.at ?_
  refine wpAny_bind (wpAny_attempt (wpAny_holding ?_))
  unfold callGetattribute
  rw [hx0, if_neg Bool.false_ne_true]
  unfold boundAndCalled
  rw [PySem.F.excAttr_ValueError.ga.bind (.ref x)]
  refine wpAny_bind (wpAny_pure ?_)
  show wpAny _ _ (call (.builtin "BaseException.__getattribute__") [.ref x, .str "__class__" t]) _ _ _
  refine wpAny_call (codeAny_call_builtin PySem.F.excAttr_ValueError.ga.plain PySem.F.entry_bexc_ga ?_)
  refine @check_slot (model prog w) _ _ ⟨hp, g, d, t + 1, os⟩ "BaseException.__getattribute__" "BaseException" "__getattribute__" (.ref x) [.str "__class__" t] [] _ (by decide +kernel) (by decide +kernel) sub (PySem.F.args_bexc_ga (.ref x) (.str "__class__" t)) ?_
  unfold Builtin.«object.__getattribute__»
  refine wpAny_bind (wpAny_of_eq (a := ((Value.ref x : Value), [Value.str "__class__" t])) (by first | rfl | (simp only [slotArgs]; rfl)) ?_)
  refine wpAny_bind (wpAny_pure (wpAny_bind (L0.at (wpAny_bind (L3.at ?_)))))
  show wpAny _ _ (holding [Value.builtin "object.__class__"] (call (.builtin "getset_descriptor.__get__") [.builtin "object.__class__", .ref x, .ref D]) >>= ret) _ _ _
  refine wpAny_bind (wpAny_holding (wpAny_call (class_get (s := ⟨hp, g, d, t + 1, os⟩) (ox := ox) (od := od) X I hm ?_)))
  refine wpAny_pure ?_
  show wpAny _ _ (handedOut (.ref D)) _ _ _
  rw [handedOut_of (v := .ref D) rfl]
  first
    | exact wpAny_pure (wpAny_pure h)
    | exact wpAny_pure h
    | exact wpAny_pure (wpAny_bind (wpAny_pure (wpAny_pure h)))
theorem zq_kitx (hga : findIn K (.ref D) "__getattribute__" = some (some (.builtin "BaseException.__getattribute__"))) (hgt : findIn K (.ref D) "__getattr__" = some none) (hsub : subIn K (.ref D) (.type "BaseException") = some true) (hdct : hasDictIn K D = true) (ha : findIn K (.ref D) "__class__" = some (some (.builtin "object.__class__")))
    (hn : specialIn K (.builtin "object.__class__") "__get__" = some (some (.builtin "getset_descriptor.__get__"))) (htk : takesIn K (.builtin "object.__class__") = some true) (hm : mroIn K D (.type "object") = some true) :
    KitX K (.ref x) (.ref D) (fun h => InstAt h x ox D od) where
  ty := fun _ _ _ I => I.type
  it := fun _ _ X _ => by
    obtain ⟨cdD, hcD, _⟩ := any_some hdct
    unfold clsIn at hcD
    split at hcD
    · rename_i c' d' cd' sl' ho
      intro A' Q' E' s' k q
      unfold isType loadHead
      exact wpAny_bind (wpAny_loadPart (k _ _ (X _ _ ho)) (wpAny_pure q))
    · cases hcD
  ne := fun h tp dd its n sl X htp => by
    obtain ⟨cdD, hcD, _⟩ := any_some hdct
    refine Bool.eq_false_iff.mpr fun q => ?_
    have e : D = tp := Value.ref.inj (beq_iff_eq.mp q)
    subst e
    unfold clsIn at hcD
    split at hcD
    · rename_i c' d' cd' sl' ho
      have z := (X _ _ ho).symm.trans htp
      cases z
    · cases hcD
  ca := fun X I k => zq_class hga hgt hsub hdct ha hn htk hm X I k
end
end PySem.W
namespace L2
open PySem PySem.Spec PyProof.Rows
/-! ### several clauses, each with its name -/
def wManyA (K : PySem.W.Frag) (Wout : WX) (D : Ends) : List (Value × Nat × (Addr → Value → Option Addr → TS)) → WX
  | [] => Wout
  | (c, i, ts) :: r => fun cls d σ H => ∃ b, PySem.W.exmOne K cls c = some b ∧
      (b = true → ∀ a, H a = none → ts a cls d { nx := fun σ' H' => D.nx (σ'.set i none) H', rt := D.rt, bk := fun σ' H' => D.bk (σ'.set i none) H', ct := fun σ' H' => D.ct (σ'.set i none) H' } (σ.set i (some (.ref a))) H) ∧
      (b = false → wManyA K Wout D r cls d σ H)
inductive HdsA (X : Cx) : List ExceptHandler → List (Value × Nat × (Addr → Value → Option Addr → TS)) → Prop
  | nil : HdsA X [] []
  | cons {x n : Str} {i : Nat} {c : Value} {ts : Addr → Value → Option Addr → TS} {b₀ : Stmt} {suite : List Stmt} {np pos' : Pos} {hds : List ExceptHandler} {l : List (Value × Nat × (Addr → Value → Option Addr → TS))} (hN : X.N.Nodup) (hi : X.N[i]? = some n) (hln : X.env.kindOf n = some .local) (hc : Names X x c)
      (hsu : ∀ (a : Addr) (oe : Obj) (cls : Value) (d : Option Addr) (pn : List (Addr × Obj)), Zc cls d oe → (∃ vs, oe.data = .fields vs) → PSs (X.suite a ((a, oe) :: pn)) (b₀ :: suite) (ts a cls d)) (r : HdsA X hds l) :
      HdsA X (.ExceptHandler (some (.Name x np)) (some n) (b₀ :: suite) pos' :: hds) ((c, i, ts) :: l)
section
variable {X : Cx} {body : List Stmt} {h₀ : ExceptHandler} {hds : List ExceptHandler} {l : List (Value × Nat × (Addr → Value → Option Addr → TS))} {pos : Pos} {tb : WX → TS} {Wout : WX}
theorem ps_try_manyA (hs : X.stack = X.env :: X.outer) (hf : X.env.frame = some X.env.locals) (tk : Takes X Wout)
    (hb : ∀ (W : WX) (pn : List (Addr × Obj)) (xe : Value → Shared → Prop), Takes (X.tr pn xe) W → PassesOwn (model X.prog X.w) X.A X.env xe → PSs (X.tr pn xe) body (tb W))
    (hh : HdsA X (h₀ :: hds) l) : PS X (.Try body (h₀ :: hds) [] [] pos) (fun D σ H => tb (wManyA X.K Wout D l) D σ H) := by
  refine ⟨fun pins s σ H D I h => ?_⟩
  have ok := I.ok
  have hfr : X.A.frames = some (X.env :: X.outer) := by rw [ok.frames, hs]
  refine wpAny_Try_except ?_
  refine wpAny_mono ((hb (wManyA X.K Wout D l) (X.pn ++ pins) (fun e s₁ => wpAny (model X.prog X.w) X.A (noteFrame e X.env) (fun _ s₂ => wpAny (model X.prog X.w) X.A (setFlight e none) (fun _ s₃ =>
    wpAny (model X.prog X.w) X.A (handleBy e X.env (h₀ :: hds)) (SP X pins D) X.xe s₃) X.xe s₂) X.xe s₁) (fun u s' xx => ?_) PassesOwn.looking).run [] s σ H D (I.toTry _) h) (fun f s1 hsp => ?_) (fun e s1 he => he)
  · obtain ⟨a, B, sI, pins', σ', H', cls, d, rfl, J', nb, up, sky, na, os, ag, w⟩ := xx
    have J : Inv X pins σ' H' sI := J'.ofTry ok
    have sky' : Sky B (X.env :: X.outer) a (Zc cls d) X.env.locals s'.heap := by rw [← hs]; exact sky
    show wpAny (model X.prog X.w) X.A (noteFrame (.ref a) X.env) _ _ _
    refine Sky.land Zc.steady hfr hf sky' fun h3 fl3 up3 => ?_
    have J3 : Inv X pins σ' H' { s' with heap := h3 } := J.landed nb fl3.1 (up.trans up3) os ag
    obtain ⟨oe3, vs3, he3, hz3, hd3⟩ := fl3.there
    have notFr : ∀ {h : Heap} {o : Obj} {vs : Array Value}, h.FunFrames B (X.env :: X.outer) → h.get? a = some o → o.data = .fields vs → a ∉ frs (X.env :: X.outer) := fun {h o vs} ff e dd hm => by
      obtain ⟨_, o', e', hnf⟩ := ff.mem hm
      rw [e] at e'; cases e'
      exact hnf _ dd
    have nfr := notFr fl3.2.2.1 he3 hd3
    have nL : a ≠ X.env.locals := fun z => nfr (List.mem_filterMap.mpr ⟨X.env, List.mem_cons_self, by rw [hf, z]⟩)
    have nF : a ∉ X.fs := fun hm => by
      obtain ⟨e, he, q⟩ := List.mem_filterMap.mp hm
      exact nfr (List.mem_filterMap.mpr ⟨e, List.mem_cons_of_mem _ he, q⟩)
    have S3 := J3.suite he3 hd3 na nL nF
    have go : ∀ {hds' : List ExceptHandler} {l' : List (Value × Nat × (Addr → Value → Option Addr → TS))}, HdsA X hds' l' → wManyA X.K Wout D l' cls d σ' H' →
        wpAny (model X.prog X.w) X.A (handleBy (.ref a) X.env hds') (SP X pins D) X.xe { s' with heap := h3 } := by
      intro hds' l' hk
      induction hk with
      | nil =>
        intro w
        refine wpAny_handleBy_nil ?_
        obtain ⟨k1, k2, k3, oe, vs, T, oT, ts', he, hz, hd, h1, hr⟩ := id fl3
        unfold PySem.passOn
        refine wpAny_bind (wpAny_field he hd h1 ?_)
        rw [if_neg (show ¬ ((Value.ref T == Value.none) = true) from by simp)]
        have fin : wpAny (model X.prog X.w) X.A (setFlight (.ref a) X.env.frame) (fun _ s4 => wpAny (model X.prog X.w) X.A (throw (.ref a) : Sem Flow) (SP X pins D) X.xe s4) X.xe { s' with heap := h3 } := by
          rw [hf]
          refine HandSPX.setFlight_upZ fl3 fun h4 hh4 up4 => wpAny_throw (tk _ _ ?_)
          exact ⟨a, B, sI, pins, σ', H', cls, d, rfl, J, nb, (up.trans up3).trans up4, .inr (.inr (by rw [hs]; exact hh4)), na, os, ag, w⟩
        first
          | exact wpAny_bind (wpAny_pure (wpAny_bind fin))
          | exact wpAny_bind fin
      | @cons x n i c ts b₀ suite np pos' hds2 l2 hN hi hln hc hsu r ih =>
        intro w
        have hloc : Loc X.env.scope n := .inl hln
        obtain ⟨b, hb1, hyes, hno⟩ := w
        refine wpAny_handleBy_cons (codeAny_handlers_test ?_) (by intro q; cases q)
        have LT : PySem.W.Looks (model X.prog X.w) h3 (typeOf (.ref a)) cls := fun A Q E s k q => wpAny_typeOf_ref (k _ _ he3) (by rw [hz3.1]; exact q)
        have LM := PySem.W.exm_one (M := model X.prog X.w) (J3.kIn) LT hb1
        have test : ∀ {Q : Value → Shared → Prop} {E : Value → Shared → Prop}, Q c { s' with heap := h3 } → wpAny (model X.prog X.w) (X.A.mark (some (.ref a))) (eval (.Name x np) X.env) Q E { s' with heap := h3 } := fun {Q E} q => by
          obtain ⟨hg, hdbg, hm | ⟨hm, hv, hnn⟩⟩ := hc
          · exact ld_glob (X := X.suite a ((a, oe3) :: (X.pn ++ pins))) S3 hg hm q hdbg
          · exact ld_blt (X := X.suite a ((a, oe3) :: (X.pn ++ pins))) S3 hg hm hv q hnn hdbg
        refine test (LM.here ?_)
        cases b with
        | true =>
          refine codeAny_handlers_suite_as ?_
          refine HandSPX.lands_againZ fl3 fun h4 fl4 up4 => ?_
          have J4 : Inv X pins σ' H' { s' with heap := h4 } := J.landed nb fl4.1 ((up.trans up3).trans up4) os ag
          obtain ⟨oe4, vs4, he4, hz4, hd4⟩ := fl4.there
          have S4 := J4.suite he4 hd4 na nL nF
          refine store_ok (X := X.suite a ((a, oe4) :: (X.pn ++ pins))) (v := .ref a) S4 hN hi hloc rfl (fun s5 S5 => ?_) (.inr hln)
          refine wpAny_mono ((hsu a oe4 cls d (X.pn ++ pins) hz4 ⟨_, hd4⟩).run [] s5 _ H' _ S5 (hyes rfl a na)) (fun f s6 hsp => ?_) (fun _ _ z => False.elim z)
          have end_ : ∀ {σ6 : St} {H6 : Hp} {Q : Shared → Prop}, Inv (X.suite a ((a, oe4) :: (X.pn ++ pins))) [] σ6 H6 s6 → (∀ s7, Inv X pins (σ6.set i none) H6 s7 → Q s7) →
              wpAny (model X.prog X.w) X.A (do bindName X.env n .none; unbindBehindTheSuite X.env n pos') (fun _ s7 => Q s7) X.xe s6 := fun {σ6 H6 Q} S6 hq => gone_ok (S6.unsuite ok) hN hi hln hq
          cases f with
          | next =>
            obtain ⟨σ6, H6, S6, q6⟩ := hsp
            exact end_ S6 fun s7 J7 => ⟨_, _, J7, q6⟩
          | brk =>
            obtain ⟨σ6, H6, S6, q6⟩ := hsp
            exact end_ S6 fun s7 J7 => ⟨_, _, J7, q6⟩
          | cont =>
            obtain ⟨σ6, H6, S6, q6⟩ := hsp
            exact end_ S6 fun s7 J7 => ⟨_, _, J7, q6⟩
          | ret u =>
            obtain ⟨v6, σ6, H6, S6, r6, q6⟩ := hsp
            exact end_ S6 fun s7 J7 => ⟨_, _, _, J7, r6, q6⟩
        | false =>
          show wpAny _ X.A (handleBy (.ref a) X.env hds2) _ _ _
          exact ih (hno rfl)
    exact go hh w
  · cases f with
    | next =>
      obtain ⟨σ', H', J', q⟩ := hsp
      exact wpAny_execs_nil ⟨σ', H', J'.ofTry ok, q⟩
    | brk =>
      obtain ⟨σ', H', J', q⟩ := hsp
      exact ⟨σ', H', J'.ofTry ok, q⟩
    | cont =>
      obtain ⟨σ', H', J', q⟩ := hsp
      exact ⟨σ', H', J'.ofTry ok, q⟩
    | ret u =>
      obtain ⟨v, σ', H', J', r, q⟩ := hsp
      exact ⟨v, σ', H', J'.ofTry ok, r, q⟩
end
end L2
set_option Elab.async false
set_option linter.all false
set_option maxRecDepth 100000
set_option maxHeartbeats 2000000
/-! ZQ0: NoText(at), an own error over ValueError with its own __init__ (lines of the worked proof 42_own_error_by_import, turned to this class). -/
namespace PySem
namespace NtX
open PySem.W PySem.Calls PyProof.Rows PySem.HandSPX
/-! ### the text of __init__ -/
def iA (p1 p2 : Pos) : Arguments := { posonlyargs := [], args := [{ arg := "self", annotation := none, pos := p1 }, { arg := "at", annotation := none, pos := p2 }], vararg := none, kwonlyargs := [], kw_defaults := [], kwarg := none, defaults := [] }
def iB (q1 q2 q3 q4 : Pos) : List Stmt := [.Assign [.Attribute (.Name "self" q1) "at" q2] (.Name "at" q3) q4]
def iS : Scope := { kind := .function, names := [(PySem.Str.ofString "self", .local), (PySem.Str.ofString "at", .local)], isGenerator := false, isCoroutine := false, more := [] }
/-- what the written part says of NoText, at C, and of its __init__, at fI -/
structure NtTxt (K : Frag) (mg : Str → Option Value) (C fI : Addr) : Prop where
  gC : mg "NoText" = some (.ref C)
  cls : ∃ nm q N bs bm sn sub ab col dd k0 k1 k2 k3 k5, K.lookup C = some (excClassObj nm q C N bs bm true sn sub ab col dd k0 k1 k2 k3 k5 "ValueError.__new__") ∧ refsVE bm = true
  sa : findIn K (.ref C) "__setattr__" = some (some (.builtin "object.__setattr__"))
  ga : findIn K (.ref C) "__getattribute__" = some (some (.builtin "BaseException.__getattribute__"))
  gg : findIn K (.ref C) "__getattr__" = some none
  noN : findIn K (.ref C) "at" = some none
  iC : findIn K (.ref C) "__init__" = some (some (.ref fI))
  tC : typeIn K (.ref fI) = some (.type "function")
  kC : keepIn K (.ref C) = true
  exC : subIn K (.ref C) (.type "BaseException") = some true
  tyC : typeIn K (.ref C) = some (.type "type")
  hdC : hasDictIn K C = true
  te : exmOne K (.ref C) (.ref C) = some true
  fn : ∃ (oc : Value) (od : Option Addr) (doc pm : Value) (an : Option Addr) (cdv ct : Value) (osl : Array (Option Value)) (p1 p2 q1 q2 q3 q4 : Pos),
    K.lookup fI = some ⟨oc, od, .func (fnOf "__init__" "NoText.__init__" (iA p1 p2) (iB q1 q2 q3 q4) iS .none .none doc pm an cdv ct), osl⟩ ∧ codeIn K cdv "NoText.__init__" = true
theorem one_size (v : Value) : [v].length ≤ sizeLine := by
  rw [sizeLine_eq]
  exact (by decide : 1 ≤ 16777216)
theorem kept_but {K : Frag} {h h' : Heap} {x : Addr} (X : K.In h) (hx : K.lookup x = none) (k : ∀ b o, b ≠ x → h.get? b = some o → h'.get? b = some o) : K.In h' := fun a o e =>
  k a o (fun z => by rw [z, hx] at e; cases e) (X a o e)
theorem ldC {M : Model} {s : Shared} {name : Str} {scope : Scope} {L a : Addr} {cd : Value} {m : Str → Option Value} {x : Str} {pos : Pos} {v : Value} {Q : Value → Shared → Prop} {A : Around} {E : Value → Shared → Prop} (hn : s.heap.Ns L m) (hv : m x = some v) (h : Q v s)
    (hk : scope.kind = .function := by rfl) (hl : (envOfC name scope L a cd).kindOf x = some .local := by rfl) (hd : (x == ("__debug__" : Str)) = false := by decide) :
    wpAny M A (eval (.Name x pos) (envOfC name scope L a cd)) Q E s := wpAny_Name (wpAny_loadName_local hk hl hn hv h) hd
/-- what __init__ leaves of a fresh exception at x -/
structure InitEnd (h h' : Heap) (x C dx t1 : Addr) (v : Value) : Prop where
  keep : ∀ b o, b ≠ x → h.get? b = some o → h'.get? b = some o
  obj : h'.get? x = some { cls := .ref C, dict := some dx, data := .fields #[.ref t1, .none, .none, .none, .bool false, .none] }
  dbig : h.objs.size ≤ dx
  dne : dx ≠ x
  ns : h'.Ns1 dx (fun y => if y = "at" then some v else none)
/-- a made NoText -/
structure OwnMade (h h' : Heap) (e C d : Addr) (v : Value) : Prop where
  keep : ∀ b o, h.get? b = some o → h'.get? b = some o
  new : h.objs.size ≤ e
  obj : ∃ oe vs, h'.get? e = some oe ∧ oe.cls = .ref C ∧ oe.dict = some d ∧ oe.data = .fields vs ∧ vs[1]? = some .none
  dbig : h.objs.size ≤ d
  dne : d ≠ e
  ns : h'.Ns1 d (fun y => if y = "at" then some v else none)
section
variable {prog : Program} {w : World} {A : Around} {E : Value → Shared → Prop} {R : Result → Shared → Prop} {s : Shared} {K : Frag} {mg : Str → Option Value} {C fI : Addr}
theorem nt_init (T : NtTxt K mg C fI) {x t0 : Addr} {v : Value} (X : K.In s.heap) (hlim : s.heap.NoLimit) (hx : s.heap.get? x = some (excO C t0)) (hnx : K.lookup x = none) (hroom : A.depth < recursionLimit)
    (hq : ∀ h' tk dx, InitEnd s.heap h' x C dx t0 v → R (.ok (.ret .none)) { s with heap := h', toks := tk }) :
    codeAny (model prog w) A (.call (.ref fI) ⟨[.ref x, v], []⟩) R s := by
  obtain ⟨oc, od, doc, pm, an, cdv, ct, osl, p1, p2, q1, q2, q3, q4, ho, hcd⟩ := T.fn
  obtain ⟨nm, q, N, bs, bm, sn, sub, ab, col, dd, k0, k1, k2, k3, k5, hC, hbm⟩ := T.cls
  have hcl : clsIn K C = some { name := nm, bases := bs, mro := .ref C :: bm, ns := N, qualname := q, hasDict := true, slotNames := sn, subclasses := sub, abstract := ab, collection := col, hasDel := false } := by unfold clsIn; rw [hC] <;> rfl
  refine Att.call_fn (binds := [("self", .ref x), ("at", v)]) X hlim ho hcd hroom (BindsTo.of_eq (by first | rfl | with_unfolding_all rfl)) (by first | rfl | decide | with_unfolding_all rfl) (fun s₁ IC => ?_) rfl rfl rfl
  obtain ⟨h₁, tk₁, rfl⟩ := IC.toInCall.same
  have k : ∀ b o, s.heap.get? b = some o → h₁.get? b = some o := IC.toInCall.keep
  have hn := IC.toInCall.ns
  have hxL : s.heap.objs.size ≠ x := Nat.ne_of_gt (Heap.lt_size hx)
  have X₁ : K.In h₁ := X.keeps k
  have hx₁ := k _ _ hx
  -- self.by = by
  show wpAny _ _ (execs _ _) _ _ _
  refine wpAny_execs_cons (plainObj_wpAny_Assign_Attribute ?_)
  refine ldC (v := v) hn (by first | rfl | with_unfolding_all rfl | kernel_rfl) (ldC (v := .ref x) hn (by first | rfl | with_unfolding_all rfl | kernel_rfl) ?_)
  refine set_plain X₁ (ox := excO C t0) (od := none) ⟨hx₁, rfl, rfl, trivial⟩ T.sa ?_
  refine exc_osa X₁ hx₁ hcl (show refsVE (.ref C :: bm) = true from hbm) rfl T.noN (fun h₃ tk₃ dx k₃ dn dne hx₃ hn₃ => ?_)
  show wpAny _ _ (execs _ _) _ _ _
  have z : s.heap.objs.size < h₁.objs.size := hn.lt
  exact wpAny_execs_nil (hq h₃ tk₃ dx ⟨fun b o hb e => k₃ b o hb (k b o e), hx₃, Nat.le_of_lt (Nat.lt_of_lt_of_le z dn), dne, hn₃⟩)
theorem nt_made (T : NtTxt K mg C fI) {v : Value} (X : K.In s.heap) (hlim : s.heap.NoLimit) (hroom : A.depth + 1 < recursionLimit)
    (hq : ∀ h' tk e d, OwnMade s.heap h' e C d v → R (.ok (.ret (.ref e))) { s with heap := h', toks := tk }) :
    codeAny (model prog w) A (.call (.ref C) ⟨[v], []⟩) R s := by
  obtain ⟨nm, q, N, bs, bm, sn, sub, ab, col, dd, k0, k1, k2, k3, k5, hC, hbm⟩ := T.cls
  obtain ⟨hp, g, dr, tk, os⟩ := s
  have k : ∀ b o, hp.get? b = some o → ((hp.push (kdv_tup [v])).push (excO C hp.objs.size)).get? b = some o := fun b o e => Heap.get?_push_of_some _ (Heap.get?_push_of_some _ e)
  have hget : ((hp.push (kdv_tup [v])).push (excO C hp.objs.size)).get? (hp.objs.size + 1) = some (excO C hp.objs.size) := by heap_get
  have hnx : K.lookup (hp.objs.size + 1) = none := by
    cases e : K.lookup (hp.objs.size + 1) with
    | none => rfl
    | some o =>
      have z : hp.get? (hp.objs.size + 1) = some o := X _ _ e
      exact absurd (Nat.lt_of_succ_lt (Heap.lt_size z)) (Nat.lt_irrefl _)
  refine call_own F.excBase_ValueError (fun X => refsVE_contains X bm hbm) (X _ _ hC) (looks_findIn X T.iC) (fun self => bind_fn X self T.tC) (one_size v) ?_
  refine nt_init (s := ⟨(hp.push (kdv_tup [v])).push (excO C hp.objs.size), g, dr, tk, os⟩) T (X.keeps k) (hlim.keeps k) hget hnx ?_ fun h' tk' dx ⟨k', hx, dn, dne, hns⟩ => ?_
  · show A.depth + 1 < recursionLimit
    exact hroom
  · have old : ∀ b o, hp.get? b = some o → h'.get? b = some o := fun b o e => k' b o (Nat.ne_of_lt (Nat.lt_succ_of_lt (Heap.lt_size e))) (k b o e)
    have z : hp.objs.size + 1 + 1 ≤ dx := by
      first
        | (simpa only [Heap.size_push] using dn)
        | exact dn
        | (have q := dn; rw [Heap.size_push, Heap.size_push] at q; exact q)
    exact ⟨rfl, hq h' tk' (hp.objs.size + 1) dx ⟨old, Nat.le_succ _, ⟨_, _, hx, rfl, rfl, rfl, rfl⟩, Nat.le_trans (Nat.le_trans (Nat.le_succ _) (Nat.le_succ _)) z, dne, hns⟩⟩
end
end NtX
end PySem
namespace L2
open PySem PySem.Spec PyProof.Rows
theorem relO_nt {v : V} {v' : Value} (r : RelV v v') (f : Str) : RelO (List.lookup f [(("at" : Str), v)]) (if f = "at" then some v' else none) := by
  by_cases hw : f = "at"
  · subst hw
    rw [if_pos rfl]
    have q : List.lookup ("at" : Str) [(("at" : Str), v)] = some v := by simp [List.lookup]
    rw [q]
    exact r
  · rw [if_neg hw]
    have qw : (f == ("at" : Str)) = false := by simpa using hw
    have q2 : List.lookup f [(("at" : Str), v)] = none := by simp [List.lookup, qw]
    rw [q2]
    trivial
section
variable {X : Cx} {C fI : Addr}
/-- NoText(e) -/
def tMkNt (C : Addr) (ta : TA) : St → Hp → XK → Prop := fun σ H Q => ta σ H fun vs H1 => ∃ v, vs = [v] ∧ ∀ d, H1 d = none → Q (.ref C) (some d) (upd H1 d (.xd [(("at" : Str), v)]))
theorem pmk_nt {a : Expr} {ta : TA} {p pos : Pos} {k : Nat} (T : PySem.NtX.NtTxt X.K X.mg C fI) (hr : Room k X.A) (ha : PA X [a] ta) (hg : Gl X "NoText" := by rfl)
    (he : starEach (a :: []) X.env = (false, eval a X.env) :: starEach [] X.env := by rfl) (hpl : (backTo pos (starEach [] X.env)).any (·.1) = false := by rfl) :
    PMk X (.Call (.Name "NoText" p) [a] [] pos) (tMkNt C ta) := by
  intro pins s σ H Q I h
  refine wpAny_Call_Name_kw (ld_glob I hg T.gC ?_)
  refine PySem.W.callWith_K (h₀ := X.base) I.ok.mod.kin T.kC (thn (ha.run pos pins s σ H _ I h) fun us s1 hh => ?_) he hpl
  obtain ⟨vs, H1, I1, r1, v, ev, q1⟩ := hh
  subst ev
  refine ⟨I1.kIn, ?_⟩
  cases r1 with
  | cons rv rn =>
    rename_i v' us'
    cases rn
    show wpAny _ _ (call (.ref C) [v']) _ _ _
    have hlim := I1.nolimit
    obtain ⟨hp, g, dr, tk, os⟩ := s1
    refine wpAny_call (PySem.NtX.nt_made T I1.kIn hlim (by have := hr.dp; omega) fun h' tk' e d M => ?_)
    show MkP X pins σ Q (.ref e) ⟨h', g, dr, tk', os⟩
    obtain ⟨oe, fv, hoe, hc, hd, hdat, h1⟩ := M.obj
    have hns := M.ns
    obtain ⟨G', g1, g2⟩ := restrict h' fun b => decide (b ≠ e)
    have gk : ∀ b, b ≠ e → G'.get? b = h'.get? b := fun b hb => g1 b (decide_eq_true hb)
    have ge : G'.get? e = none := g2 e (by simp)
    have old : ∀ b o, hp.get? b = some o → G'.get? b = some o := fun b o q => (gk b (Nat.ne_of_lt (Nat.lt_of_lt_of_le (Heap.lt_size q) M.new))).trans (M.keep b o q)
    have ob : ObjOk X.prog X.w (upd H1 d (.xd [(("at" : Str), v)])) G' d (.xd [(("at" : Str), v)]) :=
      ⟨_, hns.at (fun o q => (gk d M.dne).trans q), fun f => relO_nt rv f⟩
    have J : Inv X pins σ (upd H1 d (.xd [(("at" : Str), v)])) ⟨G', g, dr, tk', os⟩ := I1.laid (t' := tk') old M.dbig ob
    refine ⟨e, oe, fv, ⟨G', g, dr, tk', os⟩, _, .ref C, some d, rfl, J, fun b o q => ?_, ge, hoe, ⟨hc, hd⟩, hdat, h1, ?_, rfl, I1.bare, raises_own T.exC T.tyC, q1 d (I1.hok.fresh M.dbig)⟩
    · by_cases hb : b = e
      · have q' : G'.get? b = some o := q
        rw [hb, ge] at q'; cases q'
      · exact (gk b hb).symm.trans q
    · rw [upd_ne (Ne.symm M.dne)]
      exact I1.hok.fresh M.new
/-- raise NoText(e) -/
def tRaiseNt (C : Addr) (W : WX) (ta : TA) : TS := fun _ σ H => tMkNt C ta σ H fun cls d H' => W cls d σ H'
theorem ps_raiseNt {a : Expr} {ta : TA} {W : WX} {p pos pos2 : Pos} {k : Nat} (hc : X.calm = true) (T : PySem.NtX.NtTxt X.K X.mg C fI) (hr : Room k X.A) (tk : Takes X W) (ha : PA X [a] ta) (hg : Gl X "NoText" := by rfl)
    (he : starEach (a :: []) X.env = (false, eval a X.env) :: starEach [] X.env := by rfl) (hpl : (backTo pos (starEach [] X.env)).any (·.1) = false := by rfl) :
    PS X (.Raise (some (.Call (.Name "NoText" p) [a] [] pos)) none pos2) (tRaiseNt C W ta) := ps_raise hc tk (pmk_nt T hr ha hg he hpl)
end
end L2
namespace L2
open PySem PySem.Spec PyProof.Rows
/-- an error of the class at S is what «except S» names -/
theorem exm_nt {K : PySem.W.Frag} {S : Addr} (h1 : PySem.W.subIn K (.ref S) (.type "BaseException") = some true) (h2 : PySem.W.isClsIn K S = true) (h3 : PySem.W.typeIn K (.ref S) = some (.type "type")) (h4 : PySem.W.subIn K (.ref S) (.ref S) = some true) :
    PySem.W.exmOne K (.ref S) (.ref S) = some true := by
  have e1 : (PySem.W.subIn K (.ref S) (.type "BaseException") == some true) = true := by rw [h1] <;> rfl
  have e2 : ((PySem.W.clsIn K S).isSome && PySem.W.typeIn K (.ref S) == some (.type "type")) = true := by
    have h2' : (PySem.W.clsIn K S).isSome = true := h2
    rw [h2', h3] <;> rfl
  show (if (PySem.W.subIn K (.ref S) (.type "BaseException") == some true) = true then (if ((PySem.W.clsIn K S).isSome && PySem.W.typeIn K (.ref S) == some (.type "type")) = true then PySem.W.subIn K (.ref S) (.ref S) else none) else none) = some true
  rw [if_pos e1, if_pos e2]
  exact h4
end L2
set_option Elab.async false
set_option maxRecDepth 100000
set_option linter.unusedVariables false
set_option linter.unusedSimpArgs false
/-! ZQ2: raise NoText(x), try with several clauses, fields and isinstance of what they hold. -/
namespace Z
open PySem PySem.Spec PyProof.Rows L2
/-- the exception as its name's value -/
def exV (e : Ex) (a dd : Addr) : Val := if e.fs.isEmpty = true then .glo a else .exn a dd (e.fs.map (·.1)) (e.fs.map (·.2))
def dE (e : Ex) (dd : Addr) : Option Addr := if e.fs.isEmpty = true then none else some dd
open Classical in
noncomputable def uni2 (F : Addr → Addr → SO) : SO := if h : ∃ o, ∀ a b, F a b = o then h.choose else .bad
theorem uni2_e {F : Addr → Addr → SO} {o : SO} (h : ∀ a b, F a b = o) : uni2 F = o := by
  have e : ∃ o, ∀ a b, F a b = o := ⟨o, h⟩
  unfold uni2
  rw [dif_pos e]
  exact (e.choose_spec 0 0).symm.trans (h 0 0)
theorem uni2_a {F : Addr → Addr → SO} {f : Fl} {ro : En} {h : HH} (e : uni2 F = .go f ro h) (a b : Addr) : F a b = .go f ro h := by
  unfold uni2 at e
  split at e
  · rename_i x
    rw [← e]
    exact x.choose_spec a b
  · cases e
abbrev Cl := (Value → Option Bool) × Nat × (Ex → Addr → Addr → SS)
noncomputable def hand : List Cl → Ex → En → HH → SO
  | [], e, ro, h => .go (.ex e) ro h
  | (tb, i, ms) :: r, e, ro, h => match tb e.cls with
    | some true => uni2 fun a dd => gone i (ms e a dd (ro.set i (some (exV e a dd))) h)
    | some false => hand r e ro h
    | none => .bad
noncomputable def nTryM (mb : SS) (cl : List Cl) : SS := fun ro h => match mb ro h with
  | .go (.ex e) ro1 h1 => hand cl e ro1 h1
  | o => o
def tsM (K : PySem.W.Frag) (tb : Value → Option Bool) (ms : Ex → Addr → Addr → SS) : Addr → Value → Option Addr → TS := fun a cls d D σ H => ∃ (e : Ex) (dd : Addr), cls = e.cls ∧ d = dE e dd ∧ tb e.cls = some true ∧ tS K W0 (ms e a dd) D σ H
inductive WOk (K : PySem.W.Frag) : List Cl → List (Value × Nat × (Addr → Value → Option Addr → TS)) → Prop
  | nil : WOk K [] []
  | cons {tb : Value → Option Bool} {i : Nat} {ms : Ex → Addr → Addr → SS} {c : Value} {l : List Cl} {l2 : List (Value × Nat × (Addr → Value → Option Addr → TS))} : (∀ v b, tb v = some b → PySem.W.exmOne K v c = some b) → WOk K l l2 → WOk K ((tb, i, ms) :: l) ((c, i, tsM K tb ms) :: l2)
inductive HdM (X : Cx) : List ExceptHandler → List Cl → Prop
  | nil : HdM X [] []
  | cons {x n : Str} {i : Nat} {c : Value} {tb : Value → Option Bool} {ms : Ex → Addr → Addr → SS} {b₀ : Stmt} {suite : List Stmt} {np pos' : Pos} {hds : List ExceptHandler} {l : List Cl} (hN : X.N.Nodup) (hi : X.N[i]? = some n) (hln : X.env.kindOf n = some .local) (hc : Names X x c)
      (hsu : ∀ (e : Ex) (a dd : Addr) (oe : Obj) (pn : List (Addr × Obj)), tb e.cls = some true → Zc e.cls (dE e dd) oe → (∃ vs, oe.data = .fields vs) → PSs (X.suite a ((a, oe) :: pn)) (b₀ :: suite) (tS X.K W0 (ms e a dd)))
      (ht : ∀ v b, tb v = some b → PySem.W.exmOne X.K v c = some b) (r : HdM X hds l) : HdM X (.ExceptHandler (some (.Name x np)) (some n) (b₀ :: suite) pos' :: hds) ((tb, i, ms) :: l)
theorem HdM.to {X : Cx} {hds : List ExceptHandler} {l : List Cl} (h : HdM X hds l) : ∃ l2, HdsA X hds l2 ∧ WOk X.K l l2 := by
  induction h with
  | nil => exact ⟨[], .nil, .nil⟩
  | @cons x n i c tb ms b₀ suite np pos' hds l hN hi hln hc hsu ht r ih =>
    obtain ⟨l2, h1, h2⟩ := ih
    refine ⟨(c, i, tsM X.K tb ms) :: l2, .cons hN hi hln hc (fun a oe cls d pn hz hd => ⟨fun pins s σ H D I ⟨e, dd, e1, e2, e3, p⟩ => ?_⟩) h1, .cons ht h2⟩
    subst e1 e2
    exact (hsu e a dd oe pn e3 hz hd).run pins s σ H D I p
theorem hand_wish {K : PySem.W.Frag} {W : WX} {D : Ends} {al al' B : List Addr} {H H' : Hp} {sg' : L2.St} {e : Ex} {d : Option Addr} {ro : En} {h : HH} (st : Stp al H al' H') (S : Sim K al' B ro h sg' H') (er : ExR K al' B H' e e.cls d) :
    ∀ {l : List Cl} {l2 : List (Value × Nat × (Addr → Value → Option Addr → TS))}, WOk K l l2 → Ps K B al H (hand l e ro h) W D → wManyA K W D l2 e.cls d sg' H' := by
  intro l l2 w
  induction w with
  | nil => exact fun p => p al' sg' H' st S _ _ er
  | @cons tb i ms c l l2 ht r ih =>
    intro p
    unfold hand at p
    cases e2 : tb e.cls with
    | none => rw [e2] at p; exact p.elim
    | some b =>
      rw [e2] at p
      refine ⟨b, ht _ _ e2, fun q a ha => ?_, fun q => ?_⟩
      · subst q
        dsimp only at p
        obtain ⟨dd, hd, rp⟩ : ∃ dd, d = dE e dd ∧ Rep K al' B H' (exV e a dd) (.ref a) := by
          by_cases hfs : e.fs.isEmpty = true
          · refine ⟨0, ?_, ?_⟩
            · unfold dE; rw [if_pos hfs]; exact er.2.1 (List.isEmpty_iff.mp hfs)
            · unfold exV; rw [if_pos hfs]; exact .glo a
          · obtain ⟨dd, gs, h1, h2, h3, h4, h5, h6⟩ := er.2.2 fun z => hfs (List.isEmpty_iff.mpr z)
            refine ⟨dd, ?_, ?_⟩
            · unfold dE; rw [if_neg hfs]; exact h1
            · unfold exV; rw [if_neg hfs]; exact .exn ⟨h2, h3, h4⟩ h5 h6
        refine ⟨e, dd, rfl, hd, e2, al', B, ro.set i (some (exV e a dd)), h, S.set i rp, ?_⟩
        cases e3 : uni2 fun a dd => gone i (ms e a dd (ro.set i (some (exV e a dd))) h) with
        | bad => rw [e3] at p; exact p.elim
        | go f3 ro3 h3 =>
          rw [e3] at p
          have e4 : gone i (ms e a dd (ro.set i (some (exV e a dd))) h) = .go f3 ro3 h3 := uni2_a e3 a dd
          cases e5 : ms e a dd (ro.set i (some (exV e a dd))) h with
          | bad => rw [e5] at e4; cases e4
          | go f5 ro5 h5 =>
            rw [e5] at e4
            have p2 := Ps.step (o := .go f3 ro3 h3) p st
            cases f5 with
            | ex _ => cases e4
            | nx =>
              cases e4
              exact fun a2 s2 H2 st2 S2 => p2 a2 _ H2 st2 (S2.unset i)
            | brk =>
              cases e4
              exact fun a2 s2 H2 st2 S2 => p2 a2 _ H2 st2 (S2.unset i)
            | ct =>
              cases e4
              exact fun a2 s2 H2 st2 S2 => p2 a2 _ H2 st2 (S2.unset i)
            | ret w =>
              cases e4
              exact fun a2 s2 H2 st2 S2 => p2 a2 _ H2 st2 (S2.unset i)
      · subst q
        exact ih p
section
variable {X : Cx} {W : WX} {pos : Pos}
theorem os_tryM {h₀ : ExceptHandler} {hds : List ExceptHandler} {cl : List Cl} {body : List Stmt} {mb : SS} (hs : X.stack = X.env :: X.outer) (hf : X.env.frame = some X.env.locals) (tk : Takes X W)
    (hb : ∀ (W : WX) (pn : List (Addr × Obj)) (xe : Value → Shared → Prop), Takes (X.tr pn xe) W → PassesOwn (model X.prog X.w) X.A X.env xe → PSs (X.tr pn xe) body (tS X.K W mb))
    (hh : HdM X (h₀ :: hds) cl) : PS X (.Try body (h₀ :: hds) [] [] pos) (tS X.K W (nTryM mb cl)) := by
  obtain ⟨l2, hA, hW⟩ := hh.to
  refine PS.weak (ps_try_manyA hs hf tk hb hA) ?_
  rintro D sg H ⟨al, B, ro, h, S, p⟩
  refine ⟨al, B, ro, h, S, ?_⟩
  unfold nTryM at p
  cases e1 : mb ro h with
  | bad => rw [e1] at p; exact p.elim
  | go f ro1 h1 =>
    rw [e1] at p
    intro al' sg' H' st S'
    cases f with
    | nx => exact p al' sg' H' st S'
    | brk => exact p al' sg' H' st S'
    | ct => exact p al' sg' H' st S'
    | ret w => exact p al' sg' H' st S'
    | ex e =>
      intro cls d er
      have hcls : cls = e.cls := er.1
      subst hcls
      exact hand_wish st S' er hW p
/-! ### raise NoText(x) -/
def nRaiseF (C : Addr) (f : Str) (m : SE) : SS := fun ro h => sbind (m ro h) ro fun w h1 => .go (.ex ⟨.ref C, [(f, w)]⟩) ro h1
theorem os_raiseNt {a : Expr} {C fI : Addr} {k : Nat} {p pos2 : Pos} {m : SE} (hc : X.calm = true) (T : PySem.NtX.NtTxt X.K X.mg C fI) (hr : Room k X.A) (tk : Takes X W) (ha : PE X a (tE X.K W m)) (hg : Gl X "NoText")
    (he : starEach (a :: []) X.env = (false, eval a X.env) :: starEach [] X.env) (hpl : (backTo pos (starEach [] X.env)).any (·.1) = false) :
    PS X (.Raise (some (.Call (.Name "NoText" p) [a] [] pos)) none pos2) (tS X.K W (nRaiseF C "at" m)) := by
  refine PS.weak (ps_raiseNt hc T hr tk (pa_cons ha pa_nil he) hg he hpl) ?_
  rintro D sg H ⟨al, B, ro, h, S, p⟩
  refine ⟨al, B, ro, h, S, Po.mono (Ps.bind S p) fun v H1 ⟨al1, h1, w, st, hr1, r, q⟩ => ?_⟩
  refine ⟨v, rfl, fun d hd => ?_⟩
  have st2 : Stp al1 H1 al1 (upd H1 d (.xd [(("at" : Str), v)])) := Stp.lay hd
  exact q al1 sg _ st2 ((S.step st hr1).step st2 (hr1.lay hd)) _ _ ⟨rfl, fun z => (by cases z), fun _ => ⟨d, _, rfl, upd_same, (hr1.fresh hd).1, (hr1.fresh hd).2, rfl, .cons (r.step st2) .nil⟩⟩
/-! ### a field of what the suite holds -/
def lkp (n : Str) : List Str → List Val → Option Val
  | k :: ks, w :: ws => if n = k then some w else lkp n ks ws
  | _, _ => none
theorem lkp_rep {K : PySem.W.Frag} {al B : List Addr} {H : Hp} {n : Str} {w : Val} : ∀ {gs : List (Str × V)} {ws : List Val}, Reps K al B H ws (gs.map (·.2)) → lkp n (gs.map (·.1)) ws = some w → ∃ v, gs.lookup n = some v ∧ Rep K al B H w v
  | [], ws, r, e => by cases r; cases e
  | (k, y) :: gs, ws, r, e => by
    cases r with
    | cons a s =>
      have e' : (if n = k then some _ else lkp n (gs.map (·.1)) _) = some w := e
      by_cases c : n = k
      · rw [if_pos c] at e'
        cases e'
        exact ⟨y, by rw [lookup_put, if_pos c], a⟩
      · rw [if_neg c] at e'
        obtain ⟨v, h1, h2⟩ := lkp_rep s e'
        exact ⟨v, by rw [lookup_put, if_neg c]; exact h1, h2⟩
def sFld (e : Ex) (a dd : Addr) (n : Str) (m : SE) : SE := fun ro => bind (m ro) fun w => match w with
  | .exn a' dd' ns ws => if a' = a ∧ dd' = dd ∧ e.fs.isEmpty = false then (match lkp n ns ws with | some w => ret w | none => fail) else fail
  | _ => fail
theorem oe_fld {a dd C : Addr} {oe : Obj} {e : Ex} {pn : List (Addr × Obj)} {n : Str} {ex : Expr} {m : SE} (T : XfC X.K C) (hno : PySem.W.findIn X.K (.ref C) n = some none) (hc : e.cls = .ref C) (hz : Zc e.cls (dE e dd) oe) (hf : ∃ vs, oe.data = .fields vs)
    (he : PE (X.suite a ((a, oe) :: pn)) ex (tE X.K W m)) (hb : attributeBase ex n X.env (eval ex X.env) = eval ex X.env) : PE (X.suite a ((a, oe) :: pn)) (.Attribute ex n pos) (tE X.K W (sFld e a dd n m)) := by
  refine PE.weak (pe_xf T hno hz hf he hb) ?_
  rintro sg H Q ⟨al, B, ro, h, S, p⟩
  refine ⟨al, B, ro, h, S, Po.mono (Po.bind p) fun v H1 ⟨al1, h1, w, st, hr, r1, q⟩ => ?_⟩
  cases r1 with
  | @exn a' dd' ns ws gs h2 h3 h4 =>
    dsimp only at q
    split at q
    · rename_i c
      obtain ⟨rfl, rfl, c3⟩ := c
      cases e5 : lkp n ns ws with
      | none => rw [e5] at q; exact q.elim
      | some w =>
        rw [e5] at q
        subst h3
        obtain ⟨v, l, r⟩ := lkp_rep h4 e5
        exact ⟨rfl, hc, dd', gs, v, by unfold dE; rw [if_neg (by rw [c3]; simp)], h2.1, l, Po.now q hr r⟩
    · exact q.elim
  | _ => exact q.elim
/-! ### isinstance of it -/
def exIs (e : Ex) (a dd : Addr) (w : Val) : Bool := match w with
  | .glo a' => decide (a' = a) && e.fs.isEmpty
  | .exn a' dd' _ _ => decide (a' = a) && (decide (dd' = dd) && !e.fs.isEmpty)
  | _ => false
def clsL (c : Val) : List Val := match c with
  | .tup ds => ds
  | c => [c]
def fIsX (e : Ex) (a dd : Addr) (cs : List Val) (b : Bool) (ws : List Val) : M Val := fun h => match ws with
  | [w, c] => if exIs e a dd w = true ∧ sameCs (clsL c) cs = true then .ok (.bl b) h else .bad
  | _ => .bad
def rIsX (K : PySem.W.Frag) (D a : Addr) (d : Option Addr) : List V → Hp → VK → Prop := fun xs H Q => (d = none ∨ ∃ d0 gs, d = some d0 ∧ H d0 = some (.xd gs)) ∧ rIsEs K D a xs H Q
theorem call_isX {a D : Addr} {d : Option Addr} {oe : Obj} {pn : List (Addr × Obj)} (C : ExcC X.K D) (hz : Zc (.ref D) d oe) (hf : ∃ vs, oe.data = .fields vs) : CallR (X.suite a ((a, oe) :: pn)) (.builtin "isinstance") (rIsX X.K D a d) := by
  intro pins s σ H xs us Q I r h
  obtain ⟨hd, h⟩ := h
  obtain ⟨hget, _⟩ := I.pin (a, oe) (List.mem_append.mpr (.inl List.mem_cons_self))
  have J : ∃ od, PySem.W.InstAt s.heap a oe D od := by
    obtain ⟨ws, hv⟩ := hf
    obtain ⟨oc, od, oda, osl⟩ := oe
    obtain ⟨h1, h2⟩ := hz
    dsimp only at h1 h2 hv
    subst h1 hv
    rcases hd with rfl | ⟨d0, gs, rfl, hx⟩
    · subst h2
      exact ⟨none, hget, rfl, rfl, trivial⟩
    · subst h2
      have hx' : ObjOk X.prog X.w H s.heap d0 (.xd gs) := I.hok d0 _ hx
      obtain ⟨mA, hns, _⟩ := hx'
      obtain ⟨o2, ho, _⟩ := lookIn_ns hns
      exact ⟨some o2, hget, rfl, rfl, ho⟩
  obtain ⟨od, J⟩ := J
  rcases h with ⟨c, cv, b, rfl, hcv, e, q⟩ | ⟨t, vs, cvs, b, rfl, hT, hcv, e, q⟩
  · cases r with
    | cons rx rr =>
      cases rr with
      | cons rt rr =>
        cases rr
        cases rx
        have ec := hcv _ rt
        subst ec
        exact PySem.W.kia_one (PySem.W.zq_kitx C.hg C.hk C.hs C.hd C.ha C.hn C.ht C.hm) I.kIn J e (fun z => nomatch z) fun tk => ⟨.bl b, H, I.kept (t' := tk) fun _ _ z => z, rfl, q⟩
  · cases r with
    | cons rx rr =>
      cases rr with
      | cons rt rr =>
        cases rr
        cases rx
        cases rt
        obtain ⟨its, r', ⟨⟨cls, dd, data, sl⟩, ho, hc, n, hd⟩, _⟩ := I.tuple hT
        simp only at hc hd
        subst hc hd
        have ei := hcv its r'
        subst ei
        exact PySem.W.kia_tup (PySem.W.zq_kitx C.hg C.hk C.hs C.hd C.ha C.hn C.ht C.hm) I.kIn J ho e (fun z => nomatch z) fun tk => ⟨.bl b, H, I.kept (t' := tk) fun _ _ z => z, rfl, q⟩
theorem lk_isX {K : PySem.W.Frag} {D a dd : Addr} {e : Ex} {cs : List Val} {cvs : List Value} {b : Bool} (e1 : clsVs cs = some cvs) (e2 : PySem.W.kitAny K (.ref D) cvs = some b) : Lks K (fIsX e a dd cs b) (rIsX K D a (dE e dd)) := by
  intro W al B sg H h ws vs Q hr rs p
  unfold fIsX at p
  split at p
  · rename_i w0 c0
    obtain ⟨v1, v2, rfl, r1, r2⟩ := rs.two
    split at p
    · rename_i q
      obtain ⟨q1, q2⟩ := q
      have hd : v1 = .ref a ∧ (dE e dd = none ∨ ∃ d0 gs, dE e dd = some d0 ∧ H d0 = some (.xd gs)) := by
        unfold exIs at q1
        split at q1
        · rw [Bool.and_eq_true, decide_eq_true_eq] at q1
          obtain ⟨rfl, f1⟩ := q1
          cases r1
          exact ⟨rfl, .inl (by unfold dE; rw [if_pos f1])⟩
        · rw [Bool.and_eq_true, Bool.and_eq_true, decide_eq_true_eq, decide_eq_true_eq] at q1
          obtain ⟨rfl, rfl, f1⟩ := q1
          cases r1 with
          | exn h2 h3 h4 => exact ⟨rfl, .inr ⟨_, _, by unfold dE; rw [if_neg (by intro z; rw [z] at f1; cases f1)], h2.1⟩⟩
        · cases q1
      obtain ⟨rfl, hd⟩ := hd
      refine ⟨hd, ?_⟩
      have ec := sameCs_eq q2
      subst ec
      by_cases ct : ∃ ds, c0 = .tup ds
      · obtain ⟨ds, rfl⟩ := ct
        cases r2 with
        | tup q l s => exact .inr ⟨_, _, cvs, b, rfl, sqT_of q, clsVs_rel e1 s, e2, Po.now p hr (.bl b)⟩
      · have ec : clsL c0 = [c0] := by
          cases c0 with
          | tup ds => exact absurd ⟨ds, rfl⟩ ct
          | _ => rfl
        rw [ec] at e1
        unfold clsVs at e1
        split at e1
        · rename_i cv cvs' e3 e4
          cases e4
          cases e1
          refine .inl ⟨v2, cv, b, rfl, clsV_rel e3 r2, ?_, Po.now p hr (.bl b)⟩
          unfold PySem.W.kitAny at e2
          cases e5 : PySem.W.kitOne K (.ref D) cv with
          | none => rw [e5] at e2; cases e2
          | some k => rw [e5] at e2; cases k <;> exact e2
        · cases e1
    · exact p.elim
  · exact p.elim
end
end Z
set_option Elab.async false
set_option maxRecDepth 100000
set_option linter.unusedVariables false
set_option linter.unusedSimpArgs false
/-! ZQ3: list[::-1], list * int, text.find, clauses that let others by. -/
namespace Z
open PySem PySem.Spec PyProof.Rows L2
section
variable {X : Cx} {W : WX} {e : Expr} {m : SE} {k : Nat} {p1 p2 p3 pos : Pos}
def bRevL (w : Val) : M Val := fun h => match w with
  | .lst xs => .ok (.lst xs.reverse) h
  | _ => .bad
def sRevL (m : SE) : SE := fun ro => bind (m ro) bRevL
theorem oe_revL (he : PE X e (tE X.K W m)) : PE X (.Subscript e (.Slice none none (some (.UnaryOp .USub (.Constant (.int 1) k p1) p2)) p3) pos) (tE X.K W (sRevL m)) := by
  refine PE.weak (pe_revL he) ?_
  rintro sg H Q ⟨al, B, ro, h, S, p⟩
  refine ⟨al, B, ro, h, S, Po.mono (Po.bind p) fun v H1 ⟨al1, h1, w, st, hr, r1, q⟩ => ?_⟩
  cases r1 with
  | lst a l s =>
    exact ⟨_, _, rfl, SqL.of a.1, fun z hz => q _ _ _ (Stp.lay hz) (hr.lay hz) (.lst (At1.lay hr hz) (by rw [List.length_reverse]; exact l) (Reps.rev (s.step (Stp.lay hz))))⟩
  | _ => exact q.elim
end
/-! ### list * int -/
def bMulL (w1 w2 : Val) : M Val := fun h => match w1, w2 with
  | .lst xs, .int k => if 0 ≤ k ∧ k ≤ 1000 ∧ xs.length ≤ 1000 then .ok (.lst (List.replicate k.toNat xs).flatten) h else .bad
  | w1, w2 => bMul w1 w2 h
theorem lk_mulL {K : PySem.W.Frag} : Lk2 K bMulL (fun x y H Q => rRep x y H Q ∨ rI CMul (fun i j => .int (i * j)) x y H Q ∨ rI CMulW (fun i j => .int (i * j)) x y H Q) := by
  intro W al B sg H h w1 w2 v1 v2 Q hr r1 r2 p
  unfold bMulL at p
  split at p
  · rename_i xs k
    cases r2
    split at p
    · rename_i c
      cases r1 with
      | lst a l s =>
        have a1 : k.toNat * xs.length ≤ 1000 * 1000 := Nat.mul_le_mul (by omega) c.2.2
        refine .inl ⟨_, k, _, rfl, rfl, a.1, by omega, by omega, ?_, fun z hz => p _ _ _ (Stp.lay hz) (hr.lay hz) (.lst (At1.lay hr hz) ?_ ((Reps.rep s k.toNat).step (Stp.lay hz)))⟩
        · rw [← s.length, Nat.mul_comm]
          have := sizeLine_eq
          omega
        · rw [rep_len]
          have := sizeLine_eq
          omega
    · exact p.elim
  · exact .inr (lk_mul W al B sg H h w1 w2 v1 v2 Q hr r1 r2 p)
theorem op_mulLZ {X : Cx} : OpR X (binaryOp .Mult) (fun x y H Q => rRep x y H Q ∨ rI CMul (fun i j => .int (i * j)) x y H Q ∨ rI CMulW (fun i j => .int (i * j)) x y H Q) := op_rep.or op_mulZ
/-! ### text.find -/
def mFind (w1 w2 : Val) : M Val := fun h => match w1, w2 with
  | .str a, .str b => .ok (.int (Txt.find a b)) h
  | _, _ => .bad
theorem lk_find {K : PySem.W.Frag} : ∀ (W : WX) al B sg H h x w v (Q : VK), HR K al B H h → Rep K al B H w v → Po K B (fun al H => Rep K al B H) sg al H (mFind (.str x) w h) W Q → ∃ a b, (V.str x) = .str a ∧ [v] = [.str b] ∧ Q (.int (Txt.find a b)) H := by
  intro W al B sg H h x w v Q hr r p
  cases r with
  | str b => exact ⟨x, b, rfl, rfl, Po.now p hr (.int _)⟩
  | _ => exact p.elim
/-! ### clauses -/
/-- except C: exceptions of C are held, those of the classes in no are let by -/
def onlyN (C : Addr) (no : List Addr) : Value → Option Bool := fun v => match v with
  | .ref a => if a = C then some true else if a ∈ no then some false else none
  | _ => none
theorem onlyN_eq {C : Addr} {no : List Addr} {v : Value} (h : onlyN C no v = some true) : v = .ref C := by
  unfold onlyN at h
  split at h
  · split at h
    · rename_i e; rw [e]
    · split at h <;> cases h
  · cases h
theorem onlyN_zc {C : Addr} {no : List Addr} {e : Ex} {d : Option Addr} {oe : Obj} (h : onlyN C no e.cls = some true) (z : Zc e.cls d oe) : Zc (.ref C) d oe := by
  rw [onlyN_eq h] at z
  exact z
theorem onlyN_ok {K : PySem.W.Frag} {C : Addr} {no : List Addr} (self : PySem.W.exmOne K (.ref C) (.ref C) = some true) (h1 : PySem.W.subIn K (.ref C) (.type "BaseException") = some true) (hdct : PySem.W.hasDictIn K C = true) (ht : PySem.W.typeIn K (.ref C) = some (.type "type"))
    (hno : ∀ D ∈ no, PySem.W.subIn K (.ref D) (.ref C) = some false) (v : Value) (b : Bool) (h : onlyN C no v = some b) : PySem.W.exmOne K v (.ref C) = some b := by
  unfold onlyN at h
  split at h
  · split at h
    · rename_i e
      cases h
      rw [e]
      exact self
    · split at h
      · rename_i m
        cases h
        exact PySem.W.exm_ref h1 hdct ht (hno _ m)
      · cases h
  · cases h
theorem nt_fld {K : PySem.W.Frag} {mg : Str → Option Value} {C fI : Addr} (T : PySem.NtX.NtTxt K mg C fI) : XfC K C := ⟨T.ga, T.gg, T.exC, T.hdC⟩
/-! ### key in a written dict, any key -/
section
variable {X : Cx}
theorem keys_no {P : Params} {z : Str} : ∀ {l : List DictEntry} {ks : List Str}, l.map He.keyOf = He.keysIn P ks → z ∉ ks → l.find? (fun e => e.key.isStr z) = none ∧ l.any (fun e => e.refKey) = false
  | [], _, _, _ => ⟨rfl, rfl⟩
  | e :: r, [], h, _ => by cases h
  | e :: r, k :: ks, h, hz => by
    have h1 : He.keyOf e :: r.map He.keyOf = some (k, PyData.keyHash P k) :: He.keysIn P ks := h
    injection h1 with h2 h3
    obtain ⟨i1, i2⟩ := keys_no h3 fun q => hz (List.mem_cons_of_mem _ q)
    unfold He.keyOf at h2
    split at h2
    · rename_i x t q
      have h4 := Option.some.inj h2
      obtain ⟨h5, h6⟩ := Prod.mk.inj h4
      subst h5
      have ne : e.key.isStr z = false := by
        rw [q]
        refine Bool.eq_false_iff.mpr fun y => hz ?_
        have : x = z := by simpa [Value.isStr] using y
        exact this ▸ List.mem_cons_self
      refine ⟨by rw [List.find?_cons, ne]; exact i1, ?_⟩
      rw [List.any_cons, i2]
      simp [DictEntry.refKey, q]
    · cases h2
theorem dicW_no {K : PySem.W.Frag} {P : Params} {a : Addr} {ks : List Str} (h : He.dicW K a = some (He.keysIn P ks)) (z : Str) (hz : z ∉ ks) : PySem.W.nsIn K a z = some none := by
  unfold He.dicW at h
  split at h
  · rename_i c es n sl q
    split at h
    · have h1 := Option.some.inj h
      obtain ⟨i1, i2⟩ := keys_no h1 hz
      unfold PySem.W.nsIn
      rw [q]
      dsimp only
      rw [i1]
      dsimp only
      rw [i2]
      rfl
    · cases h
  · cases h
def bKin2 (neg : Bool) (d : Addr) (keys : List Str) (w1 w2 : Val) : M Val := fun h => match w1, w2 with
  | .str z, .glo e => if e = d then .ok (.bl (if neg = true then !decide (z ∈ keys) else decide (z ∈ keys))) h else .bad
  | _, _ => .bad
def rKin2 (neg : Bool) (d : Addr) (keys : List Str) : R2 := fun x y H Q => ∃ z, x = .str z ∧ y = .ref d ∧ Q (.bl (if neg = true then !decide (z ∈ keys) else decide (z ∈ keys))) H
theorem lk_kin2 {K : PySem.W.Frag} (neg : Bool) (d : Addr) (keys : List Str) : Lk2 K (bKin2 neg d keys) (rKin2 neg d keys) := by
  intro W al B sg H h w1 w2 v1 v2 Q hr r1 r2 p
  unfold bKin2 at p
  split at p
  · cases r1; cases r2
    split at p
    · rename_i c
      subst c
      exact ⟨_, rfl, rfl, Po.now p hr (.bl _)⟩
    · exact p.elim
  · exact p.elim
theorem op_kin2 {d : Addr} {keys : List Str} {es : Array DictEntry} {n : Nat} (D : KDict X.K X.w d es n) (hk : ∀ z ∈ keys, ∃ v, PySem.W.nsIn X.K d z = some (some v)) (ha : ∀ z, z ∉ keys → PySem.W.nsIn X.K d z = some none) : OpR X (compareOp .In) (rKin2 false d keys) := by
  intro pins s σ H x y v u Q I rx ry h
  obtain ⟨z, e1, e2, q⟩ := h
  by_cases hz : z ∈ keys
  · obtain ⟨v0, e3⟩ := hk z hz
    rw [decide_eq_true hz] at q
    exact op_in_kd D pins s σ H x y v u Q I rx ry ⟨z, some v0, e1, e2, e3, q⟩
  · rw [decide_eq_false hz] at q
    exact op_in_kd D pins s σ H x y v u Q I rx ry ⟨z, none, e1, e2, ha z hz, q⟩
theorem op_notKin2 {d : Addr} {keys : List Str} {es : Array DictEntry} {n : Nat} (D : KDict X.K X.w d es n) (hk : ∀ z ∈ keys, ∃ v, PySem.W.nsIn X.K d z = some (some v)) (ha : ∀ z, z ∉ keys → PySem.W.nsIn X.K d z = some none) : OpR X (compareOp .NotIn) (rKin2 true d keys) := by
  intro pins s σ H x y v u Q I rx ry h
  obtain ⟨z, e1, e2, q⟩ := h
  by_cases hz : z ∈ keys
  · obtain ⟨v0, e3⟩ := hk z hz
    rw [decide_eq_true hz] at q
    exact op_notIn_kd D pins s σ H x y v u Q I rx ry ⟨z, some v0, e1, e2, e3, q⟩
  · rw [decide_eq_false hz] at q
    exact op_notIn_kd D pins s σ H x y v u Q I rx ry ⟨z, none, e1, e2, ha z hz, q⟩
theorem op_kin2E {d : Addr} {keys : List Str} (D : ∃ es n, KDict X.K X.w d es n) (hk : ∀ z ∈ keys, ∃ v, PySem.W.nsIn X.K d z = some (some v)) (ha : ∀ z, z ∉ keys → PySem.W.nsIn X.K d z = some none) : OpR X (compareOp .In) (rKin2 false d keys) := by
  obtain ⟨es, n, D⟩ := D
  exact op_kin2 D hk ha
theorem op_notKin2E {d : Addr} {keys : List Str} (D : ∃ es n, KDict X.K X.w d es n) (hk : ∀ z ∈ keys, ∃ v, PySem.W.nsIn X.K d z = some (some v)) (ha : ∀ z, z ∉ keys → PySem.W.nsIn X.K d z = some none) : OpR X (compareOp .NotIn) (rKin2 true d keys) := by
  obtain ⟨es, n, D⟩ := D
  exact op_notKin2 D hk ha
end
end Z
set_option Elab.async false
set_option maxRecDepth 100000
set_option linter.unusedVariables false
set_option linter.unusedSimpArgs false
/-! ZQ4: len(set(xs)), xs a list of texts. -/
namespace ZS
open PySem PySem.Spec PyProof.Rows L2 PySem.Builtin PySem.Calls
section
variable {P : Program} {w : World} {A : Around} {E : Value → Shared → Prop} {s : Shared}
set_option maxHeartbeats 3200000 in
theorem set_lst {l : Addr} {items : Array Value} {xs : List Str} {Q : Value → Shared → Prop} (hh : A.handled = none) (hl : s.heap.IsList l items) (hi : StrsAre items.toList xs) (hb : xs.length + 1 < scanBound)
    (h : ∀ (h' : Heap) (tk : Nat), h'.SetOf (strKind P w) s.heap.objs.size (fun j => decide (j ∈ xs)) (dcnt xs) → (∀ b o, b < s.heap.objs.size → s.heap.get? b = some o → h'.get? b = some o) → Q (.ref s.heap.objs.size) { s with heap := h', toks := tk }) :
    wpAny (model P w) A (call (.type "set") [.ref l]) Q E s := by
  obtain ⟨c, tl, hmro⟩ := PySem.F.called_set.mro
  have f1 := PySem.F.called_set.made
  have f2 := PySem.F.called_set.sub
  have f3 := PySem.F.called_set.notType
  have f4 := PySem.F.called_set.canCreate
  have f5 := PySem.F.typeCall_set_1 (.ref l)
  have hsz : items.size = xs.length := by rw [← StrsAre.len_eq hi, Array.length_toList]
  have hval : ∀ (i : Nat) (v : Value), items[i]? = some v → ∃ x t, xs[i]? = some x ∧ v = .str x t := fun i v hv => by
    obtain ⟨t, e⟩ := SS.strs_at hi i v (by rw [Array.getElem?_toList]; exact hv)
    have lt : i < xs.length := by rw [← hsz]; exact (Array.getElem?_eq_some_iff.mp hv).1
    refine ⟨xs[i], t, List.getElem?_eq_getElem lt, ?_⟩
    rw [e, List.getD_eq_getElem?_getD, List.getElem?_eq_getElem lt] <;> rfl
  refine wpAny_call (codeAny_of_tree ?_)
  refine wpAny_pure (a := _) ⟨Code.quiet_builtin _ (by decide +kernel), codeAny_builtin PySem.F.entry_type_call ?_⟩
  rw [Around.under_plain (weight_type_call_type "set" [.ref l] []) rfl]
  repeat (any_goals (first | assumption | wp_step))
  refine codeAny_mono (code_set_new_1 (.ref l) (E := E) (Q₁ := fun v s₁ => ∃ led : Bool, v = .ref s.heap.objs.size ∧ s₁ = { s with heap := s.heap.push { cls := .type "set", dict := none, data := .set #[] 0 (.fresh 0 0 led) } }) fun led => ⟨led, rfl, rfl⟩) fun r s₁ hr => ?_
  match r, hr with
  | .error e, hr => exact hr
  | .ok .next, hr => exact hr.elim
  | .ok .brk, hr => exact hr.elim
  | .ok .cont, hr => exact hr.elim
  | .ok (.ret v), hr =>
  obtain ⟨led, rfl, rfl⟩ := hr
  have hS : (s.heap.push { cls := .type "set", dict := none, data := .set #[] 0 (.fresh 0 0 led) }).get? s.heap.objs.size = some { cls := .type "set", dict := none, data := .set #[] 0 (.fresh 0 0 led) } := Heap.get?_push_size _ rfl
  have hT : Shared.TypeIs { s with heap := s.heap.push { cls := .type "set", dict := none, data := .set #[] 0 (.fresh 0 0 led) } } (.ref s.heap.objs.size) "set" := ⟨_, hS, rfl⟩
  have f6 := PySem.F.called_set.init.lookup
  have f7 := PySem.F.called_set.init.bind (.ref s.heap.objs.size)
  repeat (any_goals (first | assumption | wp_step))
  refine codeAny_mono (codeAny_call_builtin (R := wants (fun r s₂ => r = .none ∧ ∃ h' tk, s₂ = { s with heap := h', toks := tk } ∧ h'.SetOf (strKind P w) s.heap.objs.size (fun j => decide (j ∈ xs)) (dcnt xs) ∧
    (∀ b o, b < s.heap.objs.size → s.heap.get? b = some o → h'.get? b = some o)) E) PySem.F.called_set.init.plain PySem.F.entry_set_init (check_set_init_1 hT ?_)) fun r₂ s₂ hr₂ => ?_
  · have hl1 : (s.heap.push { cls := .type "set", dict := none, data := .set #[] 0 (.fresh 0 0 led) }).IsList l items := hl.push _
    obtain ⟨⟨oc, od, dt, sl⟩, ho, h1, nl, h2⟩ := id hl1
    have hlS : l < s.heap.objs.size := by obtain ⟨_, e, _⟩ := hl; exact Heap.lt_size e
    simp only at h1 h2
    subst h1; subst h2
    have g1 := PySem.F.sub_list_set
    have g2 := PySem.F.sub_list_frozenset
    have g3 : (Value.type "list" == Value.type "dict") = false := by decide
    unfold Builtin.«set.__init__» noKeywords Builtin.Frozenset.updateFrom
    generalize hPI : pyIter = PI
    wp_walk
    subst hPI
    refine wpAny_pyIter_list (s := { s with heap := s.heap.push { cls := .type "set", dict := none, data := .set #[] 0 (.fresh 0 0 led) } }) hl1 ?_
    refine wpAny_bind (wpAny_runValue ?_)
    have z1 : (s.heap.push { cls := .type "set", dict := none, data := .set #[] 0 (.fresh 0 0 led) }).objs.size = s.heap.objs.size + 1 := Heap.size_push ..
    have ne1 : l ≠ (s.heap.push { cls := .type "set", dict := none, data := .set #[] 0 (.fresh 0 0 led) }).objs.size := by rw [z1]; exact Nat.ne_of_lt (Nat.lt_succ_of_lt hlS)
    have ne2 : s.heap.objs.size ∉ [(s.heap.push { cls := .type "set", dict := none, data := .set #[] 0 (.fresh 0 0 led) }).objs.size, l] := by
      rw [z1]
      simp only [List.mem_cons, List.not_mem_nil, or_false, not_or]
      exact ⟨Nat.ne_of_lt (Nat.lt_succ_self _), Nat.ne_of_gt hlS⟩
    have hh3 : A.in1.in1.in1.handled = none := by simp [hh]
    refine many ((Walks.list hh3 _ l ne1 items).toS) s.heap.objs.size ne2 xs hsz hb hval (items.size - 0) 0 _ (by omega) (Nat.zero_le _) ⟨⟨_, Heap.get?_push_size _ rfl, rfl, rfl⟩, hl1.push _⟩ ?_ ?_
    · have hget : ((s.heap.push { cls := .type "set", dict := none, data := .set #[] 0 (.fresh 0 0 led) }).push { cls := .type "list_iterator", data := .fields #[.ref l, .int 0 0] }).get? s.heap.objs.size = some { cls := .type "set", dict := none, data := .set #[] 0 (.fresh 0 0 led) } := Heap.get?_push_of_some _ hS
      exact SetOf_congr ((setObjOf_fresh (knd := strKind P w) led).setOf hget (by decide)) (fun _ => by simp) rfl
    · rintro ⟨h', g', d', tk', os'⟩ hm hS'
      obtain rfl : g' = s.gens := hm.gens
      obtain rfl : d' = s.drawn := hm.drawn
      obtain rfl : os' = s.os := hm.os
      refine wpAny_pure ?_
      refine wpAny_pure ⟨rfl, h', tk', rfl, hS', fun b o hb e => ?_⟩
      refine hm.heap b o ?_ (Heap.get?_push_of_some _ (Heap.get?_push_of_some _ e))
      rw [z1]
      simp only [List.mem_cons, List.not_mem_nil, or_false, not_or]
      exact ⟨Nat.ne_of_lt hb, Nat.ne_of_lt (Nat.lt_succ_of_lt hb)⟩
  · match r₂, hr₂ with
    | .error e, hr => exact hr
    | .ok .next, hr => exact hr.elim
    | .ok .brk, hr => exact hr.elim
    | .ok .cont, hr => exact hr.elim
    | .ok (.ret v), hr =>
      obtain ⟨rfl, h', tk, rfl, hS', hk'⟩ := hr
      repeat (any_goals (first | assumption | wp_step))
      exact h _ _ hS' hk'
end
end ZS
namespace Z
open PySem PySem.Spec PyProof.Rows L2
/-- len(set(t)), t a list of texts -/
def tLenSetsL (K : PySem.W.Frag) (ta : TE) : TE := fun σ H Q => ta σ H fun x H1 => ∃ l, ∃ xs : List Str, x = .ref l ∧ SqL K H1 l (xs.map V.str) ∧ xs.length + 1 < scanBound ∧ Q (.int (ZS.dcnt xs : Nat)) H1
theorem pe_lenSetsL {X : Cx} {a : Expr} {ta : TE} {p p2 q pos : Pos} (hc : X.calm = true) (hg : Gl X "len") (hm : X.mg "len" = none) (hg2 : Gl X "set") (hm2 : X.mg "set" = none) (ha : PE X a ta)
    (na : starEach [a] X.env = (false, eval a X.env) :: starEach [] X.env := by rfl) : PE X (.Call (.Name "len" p) [.Call (.Name "set" p2) [a] [] q] [] pos) (tLenSetsL X.K ta) := by
  refine ⟨fun pins s σ H Q I h => ?_⟩
  refine Call_ (ld_blt I hg hm boot_len ?_)
  refine PyProof.Rows.callWith_builtin1 (PyProof.Rows.args_cons ?_ rfl) rfl rfl
  refine Call_ (ld_blt I hg2 hm2 boot_set ?_)
  refine PyProof.Rows.callWith_type1 (PyProof.Rows.args_cons (thn (ha.run pins s σ H _ I h) fun v s1 ⟨x, H1, I1, r1, q1⟩ => PyProof.Rows.args_nil ?_) na) na rfl
  obtain ⟨l, xs, rfl, hq, hb, q1⟩ := q1
  cases r1
  obtain ⟨its, r, pl, hz⟩ := I1.list hq
  refine ZS.set_lst (I1.ok.hd hc) pl.isList (by simpa using strsAre_of r) hb fun h' tk hS hk => ?_
  refine PyProof.Rows.args_nil ?_
  obtain ⟨o, es, ep, t, ho, hex, hd, _, _, _, hf, hn⟩ := hS
  have I2 : Inv X pins σ H1 { s1 with heap := h', toks := tk } := I1.kept fun b o e => hk b o (Heap.lt_size e) e
  have hle := ZS.dcnt_le xs
  unfold scanBound at hb
  refine call_len_set ho hex hd hf (by rw [hn]; omega) ⟨.int (ZS.dcnt xs : Nat), H1, I2.tok _, ⟨_, by rw [hn]⟩, q1⟩
section
variable {X : Cx} {W : WX} {m : SE}
def uLsetL (w : Val) : M Val := fun h => match w with
  | .lst xs => match txts xs with
    | some ys => if ys.length + 1 < scanBound then .ok (.int (ZS.dcnt ys : Nat)) h else .bad
    | none => .bad
  | _ => .bad
theorem oe_lsetL {a : Expr} {p p2 q : Pos} (hc : X.calm = true) (hg : Gl X "len") (hm : X.mg "len" = none) (hg2 : Gl X "set") (hm2 : X.mg "set" = none) (ha : PE X a (tE X.K W m))
    (na : starEach [a] X.env = (false, eval a X.env) :: starEach [] X.env := by rfl) : PE X (.Call (.Name "len" p) [.Call (.Name "set" p2) [a] [] q] [] pos) (tE X.K W (sUn uLsetL m)) := by
  refine PE.weak (pe_lenSetsL hc hg hm hg2 hm2 ha na) ?_
  rintro sg H Q ⟨al, B, ro, h, S, p⟩
  refine ⟨al, B, ro, h, S, Po.mono (Po.bind p) fun v H1 ⟨al1, h1, w, st, hr, r1, q⟩ => ?_⟩
  unfold uLsetL at q
  split at q
  · cases r1 with
    | lst a l s =>
      split at q
      · rename_i e
        split at q
        · rename_i c
          have := txts_rep s e
          subst this
          exact ⟨_, _, rfl, SqL.of a.1, c, Po.now q hr (.int _)⟩
        · exact q.elim
      · exact q.elim
  · exact q.elim
end
theorem onlyN_ne {K : PySem.W.Frag} {C D : Addr} (self : PySem.W.exmOne K (.ref C) (.ref C) = some true) (h1 : PySem.W.subIn K (.ref C) (.type "BaseException") = some true) (hdct : PySem.W.hasDictIn K C = true) (ht : PySem.W.typeIn K (.ref C) = some (.type "type")) (hno : PySem.W.subIn K (.ref D) (.ref C) = some false) : C ≠ D := fun e => by
  subst e
  have := PySem.W.exm_ref h1 hdct ht hno
  rw [self] at this
  cases this
end Z
set_option Elab.async false
set_option maxRecDepth 100000
set_option linter.unusedVariables false
set_option linter.unusedSimpArgs false
/-! ZD: own dicts: made, read, asked, stored into, their length, their keys in order. -/
namespace Z
open PySem PySem.Spec PyProof.Rows L2
def keyOf : Val → Option Key
  | .int i => some (.inl i)
  | .str x => some (.inr x)
  | _ => none
def dval (kvs : List (Key × Val)) (k : Key) : Option Val := match kvs with
  | [] => none
  | kv :: r => if kv.1 = k then some kv.2 else dval r k
def drep (kvs : List (Key × Val)) (k : Key) (w : Val) : List (Key × Val) := kvs.map fun kv => if kv.1 = k then (kv.1, w) else kv
def dput (kvs : List (Key × Val)) (k : Key) (w : Val) : List (Key × Val) := match dval kvs k with
  | some _ => drep kvs k w
  | none => kvs ++ [(k, w)]
section
variable {K : PySem.W.Frag} {al B : List Addr} {H : Hp}
theorem keyOf_rep {w : Val} {v : V} {k : Key} (e : keyOf w = some k) (r : Rep K al B H w v) : v = kV k := by
  cases w with
  | int i => cases e; cases r; rfl
  | str x => cases e; cases r; rfl
  | _ => cases e
/-- entries that stand for entries -/
def DRs (K : PySem.W.Frag) (al B : List Addr) (H : Hp) (kvs : List (Key × Val)) (kws : List (Key × V)) : Prop := kvs.map (·.1) = kws.map (·.1) ∧ Reps K al B H (kvs.map (·.2)) (kws.map (·.2))
theorem DRs.nil : DRs K al B H [] [] := ⟨rfl, .nil⟩
theorem DRs.split {kv : Key × Val} {r : List (Key × Val)} {kws : List (Key × V)} (d : DRs K al B H (kv :: r) kws) : ∃ v r', kws = (kv.1, v) :: r' ∧ Rep K al B H kv.2 v ∧ DRs K al B H r r' := by
  obtain ⟨e, q⟩ := d
  cases kws with
  | nil => cases e
  | cons kw r' =>
    obtain ⟨k', v⟩ := kw
    rw [List.map_cons, List.map_cons] at e
    obtain ⟨e1, e2⟩ := List.cons.inj e
    rw [List.map_cons, List.map_cons] at q
    cases q with
    | cons a b => exact ⟨v, r', by rw [e1], a, e2, b⟩
theorem DRs.cons {k : Key} {w : Val} {v : V} {r : List (Key × Val)} {r' : List (Key × V)} (a : Rep K al B H w v) (d : DRs K al B H r r') : DRs K al B H ((k, w) :: r) ((k, v) :: r') :=
  ⟨by rw [List.map_cons, List.map_cons, d.1], .cons a d.2⟩
theorem DRs.get {k : Key} : ∀ {kvs : List (Key × Val)} {kws : List (Key × V)}, DRs K al B H kvs kws → (∀ w, dval kvs k = some w → ∃ v, valV kws k = some v ∧ Rep K al B H w v) ∧ (dval kvs k = none → valV kws k = none)
  | [], kws, d => by
    obtain ⟨e, _⟩ := d
    have : kws = [] := List.map_eq_nil_iff.mp e.symm
    subst this
    exact ⟨(fun w e => by cases e), fun _ => rfl⟩
  | kv :: r, kws, d => by
    obtain ⟨v, r', rfl, a, d'⟩ := d.split
    obtain ⟨i1, i2⟩ := DRs.get (k := k) d'
    unfold dval
    by_cases c : kv.1 = k
    · rw [if_pos c, valV_pos (p := (kv.1, v)) c]
      exact ⟨(fun w e => ⟨v, rfl, by cases e; exact a⟩), (fun e => by cases e)⟩
    · rw [if_neg c, valV_neg (p := (kv.1, v)) c]
      exact ⟨i1, i2⟩
theorem DRs.snoc {k : Key} {w : Val} {v : V} (a : Rep K al B H w v) : ∀ {kvs : List (Key × Val)} {kws : List (Key × V)}, DRs K al B H kvs kws → DRs K al B H (kvs ++ [(k, w)]) (kws ++ [(k, v)])
  | [], kws, d => by
    have : kws = [] := List.map_eq_nil_iff.mp d.1.symm
    subst this
    exact .cons a .nil
  | kv :: r, kws, d => by
    obtain ⟨v', r', rfl, a', d'⟩ := d.split
    exact .cons a' (DRs.snoc a d')
theorem DRs.rep {k : Key} {w : Val} {v : V} (a : Rep K al B H w v) : ∀ {kvs : List (Key × Val)} {kws : List (Key × V)}, DRs K al B H kvs kws → DRs K al B H (drep kvs k w) (kws.map fun kv => if kv.1 = k then (kv.1, v) else kv)
  | [], kws, d => by
    have : kws = [] := List.map_eq_nil_iff.mp d.1.symm
    subst this
    exact .nil
  | kv :: r, kws, d => by
    obtain ⟨v', r', rfl, a', d'⟩ := d.split
    have ih := DRs.rep (k := k) a d'
    obtain ⟨k1, w1⟩ := kv
    show DRs K al B H ((if k1 = k then (k1, w) else (k1, w1)) :: drep r k w) ((if k1 = k then (k1, v) else (k1, v')) :: _)
    by_cases c : k1 = k
    · rw [if_pos c, if_pos c]; exact .cons a ih
    · rw [if_neg c, if_neg c]; exact .cons a' ih
theorem DRs.put {k : Key} {w : Val} {v : V} (a : Rep K al B H w v) {kvs : List (Key × Val)} {kws : List (Key × V)} (d : DRs K al B H kvs kws) : DRs K al B H (dput kvs k w) (putK kws k v) := by
  obtain ⟨i1, i2⟩ := d.get (k := k)
  unfold dput putK
  rw [valV_any]
  cases e : dval kvs k with
  | none =>
    rw [i2 e]
    exact d.snoc a
  | some w0 =>
    obtain ⟨v0, e2, _⟩ := i1 w0 e
    rw [e2]
    exact d.rep a
theorem DRs.len {kvs : List (Key × Val)} {kws : List (Key × V)} (d : DRs K al B H kvs kws) : kvs.length = kws.length := by
  have := congrArg List.length d.1
  simpa using this
theorem DRs.mono {al' : List Addr} {H' : Hp} (s : Stp al H al' H') {kvs : List (Key × Val)} {kws : List (Key × V)} (d : DRs K al B H kvs kws) : DRs K al' B H' kvs kws := ⟨d.1, d.2.step s⟩
theorem own_dic {h : HH} {n : Nat} {a : Addr} {kvs : List (Key × Val)} (hr : HR K al B H h) (r : Rep K al B H (.ref n) (.ref a)) (e : h[n]? = some (.dic kvs)) : a ∈ al ∧ al[n]? = some a ∧ ∃ kws, H a = some (.dK kws) ∧ DRs K al B H kvs kws := by
  cases r with
  | ref q =>
    have o := hr.ob n a _ q e
    cases o with
    | dic e1 e2 e3 => exact ⟨List.mem_of_getElem? q, q, _, e1, e2, e3⟩
end
/-! ### the operations -/
def sDNew : SE := fun _ h => .ok (.ref h.length) (h ++ [.dic []])
def bDGet (w1 w2 : Val) : M Val := fun h => match w1 with
  | .ref n => match h[n]? with
    | some (.dic kvs) => match keyOf w2 with
      | some k => match dval kvs k with
        | some w => .ok w h
        | none => .bad
      | none => .bad
    | _ => .bad
  | _ => .bad
def bDIn (neg : Bool) (w1 w2 : Val) : M Val := fun h => match w2 with
  | .ref n => match h[n]? with
    | some (.dic kvs) => match keyOf w1 with
      | some k => .ok (.bl (neg ^^ (dval kvs k).isSome)) h
      | none => .bad
    | _ => .bad
  | _ => .bad
def mDPut (w1 w2 w : Val) : M Unit := fun h => match w1 with
  | .ref n => match h[n]? with
    | some (.dic kvs) => match keyOf w2 with
      | some k => if kvs.length < sizeLine then .ok () (h.set n (.dic (dput kvs k w))) else .bad
      | none => .bad
    | _ => .bad
  | _ => .bad
def nDPut (mo mi mv : SE) : SS := fun ro h => sbind (mv ro h) ro fun w h1 => sbind (mo ro h1) ro fun d h2 => sbind (mi ro h2) ro fun k h3 => sbind (mDPut d k w h3) ro fun _ h4 => .go .nx ro h4
def fLenD (ws : List Val) : M Val := fun h => match ws with
  | [.ref n] => match h[n]? with
    | some (.dic kvs) => .ok (.int (kvs.length : Nat)) h
    | _ => .bad
  | _ => .bad
section
variable {X : Cx} {W : WX} {o i e value : Expr} {pos pos' : Pos} {mo mi mv : SE}
theorem oe_dnew : PE X (.Dict [] [] pos) (tE X.K W sDNew) := by
  refine PE.weak pe_dnewK ?_
  rintro sg H Q ⟨al, B, ro, h, S, p⟩
  intro a ha
  refine p _ _ _ (Stp.new ha) (S.hr.new ha (.dic upd_same rfl .nil)) ?_
  exact .ref (by rw [← S.hr.len, List.getElem?_concat_length])
theorem oe_dget {k : Nat} (hr : Room k X.A) (ho : PE X o (tE X.K W mo)) (hi : PE X i (tE X.K W mi)) (hs : NoSl i) : PE X (.Subscript o i pos) (tE X.K W (sBin bDGet mo mi)) := by
  refine PE.weak (pe_dget (hu_of hr) ho hi hs) ?_
  rintro sg H Q ⟨al, B, ro, h, S, p⟩
  refine ⟨al, B, ro, h, S, Po.mono (Po.bind p) fun v1 H1 ⟨al1, h1, w1, st1, hr1, r1, p1⟩ => ?_⟩
  refine ⟨al1, B, ro, h1, S.step st1 hr1, Po.mono (Po.bind p1) fun v2 H2 ⟨al2, h2, w2, st2, hr2, r2, p2⟩ => ?_⟩
  have r1' := r1.step st2
  unfold bDGet at p2
  split at p2
  · rename_i n
    split at p2
    · rename_i kvs e1
      split at p2
      · rename_i key ek
        split at p2
        · rename_i w ew
          have rr := r1'
          cases r1' with
          | @ref _ a q =>
            obtain ⟨_, _, kws, hd, dr⟩ := own_dic hr2 rr e1
            obtain ⟨v, ev, rv⟩ := dr.get.1 w ew
            have ey := keyOf_rep ek r2
            subst ey
            exact ⟨a, v, rfl, by rw [← ev]; exact DGet.k hd, Po.now p2 hr2 rv⟩
        · exact p2.elim
      · exact p2.elim
    · exact p2.elim
  · exact p2.elim
theorem oe_din {k : Nat} (hr : Room k X.A) (hi : PE X i (tE X.K W mi)) (ho : PE X o (tE X.K W mo)) (hm : behindInMarks .In o = false) : PE X (.Compare i [.In] [o] pos) (tE X.K W (sBin (bDIn false) mi mo)) := by
  refine PE.weak (pe_cmp (pc_din (hu_of hr) hi ho) hm) ?_
  rintro sg H Q ⟨al, B, ro, h, S, p⟩
  refine ⟨al, B, ro, h, S, Po.mono (Po.bind p) fun v1 H1 ⟨al1, h1, w1, st1, hr1, r1, p1⟩ => ?_⟩
  refine ⟨al1, B, ro, h1, S.step st1 hr1, Po.mono (Po.bind p1) fun v2 H2 ⟨al2, h2, w2, st2, hr2, r2, p2⟩ => ?_⟩
  have r1' := r1.step st2
  unfold bDIn at p2
  split at p2
  · rename_i n
    split at p2
    · rename_i kvs e1
      split at p2
      · rename_i key ek
        have rr := r2
        cases r2 with
        | @ref _ a q =>
          obtain ⟨_, _, kws, hd, dr⟩ := own_dic hr2 rr e1
          have ey := keyOf_rep ek r1'
          subst ey
          refine ⟨a, valV kws key, rfl, DGet.k hd, ?_⟩
          have es : (dval kvs key).isSome = (valV kws key).isSome := by
            cases e5 : dval kvs key with
            | none => rw [dr.get.2 e5]; rfl
            | some w =>
              obtain ⟨v, ev, _⟩ := dr.get.1 w e5
              rw [ev]; rfl
          rw [← es]
          have e0 : (false ^^ (dval kvs key).isSome) = (dval kvs key).isSome := by cases (dval kvs key).isSome <;> rfl
          rw [e0] at p2
          exact Po.now p2 hr2 (.bl _)
      · exact p2.elim
    · exact p2.elim
  · exact p2.elim
theorem oe_dnin {k : Nat} (hr : Room k X.A) (hi : PE X i (tE X.K W mi)) (ho : PE X o (tE X.K W mo)) (hm : behindInMarks .NotIn o = false) : PE X (.Compare i [.NotIn] [o] pos) (tE X.K W (sBin (bDIn true) mi mo)) := by
  refine PE.weak (pe_cmp (pc_dnotin (hu_of hr) hi ho) hm) ?_
  rintro sg H Q ⟨al, B, ro, h, S, p⟩
  refine ⟨al, B, ro, h, S, Po.mono (Po.bind p) fun v1 H1 ⟨al1, h1, w1, st1, hr1, r1, p1⟩ => ?_⟩
  refine ⟨al1, B, ro, h1, S.step st1 hr1, Po.mono (Po.bind p1) fun v2 H2 ⟨al2, h2, w2, st2, hr2, r2, p2⟩ => ?_⟩
  have r1' := r1.step st2
  unfold bDIn at p2
  split at p2
  · rename_i n
    split at p2
    · rename_i kvs e1
      split at p2
      · rename_i key ek
        have rr := r2
        cases r2 with
        | @ref _ a q =>
          obtain ⟨_, _, kws, hd, dr⟩ := own_dic hr2 rr e1
          have ey := keyOf_rep ek r1'
          subst ey
          refine ⟨a, valV kws key, rfl, DGet.k hd, ?_⟩
          have es : (dval kvs key).isSome = (valV kws key).isSome := by
            cases e5 : dval kvs key with
            | none => rw [dr.get.2 e5]; rfl
            | some w =>
              obtain ⟨v, ev, _⟩ := dr.get.1 w e5
              rw [ev]; rfl
          rw [← es]
          have e0 : (true ^^ (dval kvs key).isSome) = !(dval kvs key).isSome := by cases (dval kvs key).isSome <;> rfl
          rw [e0] at p2
          exact Po.now p2 hr2 (.bl _)
      · exact p2.elim
    · exact p2.elim
  · exact p2.elim
theorem os_dput {k : Nat} (hr : Room k X.A) (ho : PE X o (tE X.K W mo)) (hi : PE X i (tE X.K W mi)) (hv : PE X value (tE X.K W mv)) (hs : swapsWith value (some (.Subscript o i pos')) pos.line X.env = pure false) :
    PS X (.Assign [.Subscript o i pos'] value pos) (tS X.K W (nDPut mo mi mv)) := by
  refine PS.weak (ps_dput (hu_of hr) ho hi hv hs) ?_
  rintro D sg H ⟨al, B, ro, h, S, p⟩
  refine ⟨al, B, ro, h, S, Po.mono (Ps.bind S p) fun v H1 ⟨al1, h1, w, st1, hr1, r1, p1⟩ => ?_⟩
  have S1 := S.step st1 hr1
  refine ⟨al1, B, ro, h1, S1, Po.mono (Ps.bind S1 p1) fun v2 H2 ⟨al2, h2, d, st2, hr2, r2, p2⟩ => ?_⟩
  have S2 := S1.step st2 hr2
  refine ⟨al2, B, ro, h2, S2, Po.mono (Ps.bind S2 p2) fun v3 H3 ⟨al3, h3, ky, st3, hr3, r3, p3⟩ => ?_⟩
  have S3 := S2.step st3 hr3
  have rd := r2.step st3
  have rw' := (r1.step st2).step st3
  unfold mDPut at p3
  split at p3
  · rename_i w0 n
    split at p3
    · rename_i kvs e1
      split at p3
      · rename_i key ek
        split at p3
        · rename_i lk
          have rr := rd
          cases rd with
          | @ref _ a q =>
            obtain ⟨ma, _, kws, hd, dr⟩ := own_dic hr3 rr e1
            have ey := keyOf_rep ek r3
            subst ey
            refine ⟨a, _, rfl, DPut.k hd (by rw [← dr.len]; exact lk), ?_⟩
            have sp : Stp al3 H3 al3 (upd H3 a (.dK (putK kws key v))) := Stp.put ma
            have dp := (dr.put (k := key) rw').mono sp
            have hp := hr3.put q (.dic upd_same dp.1 dp.2)
            exact p3 al3 sg _ sp (S3.step sp hp)
        · exact p3.elim
      · exact p3.elim
    · exact p3.elim
  · exact p3.elim
theorem lk_lenD {K : PySem.W.Frag} : Lks K fLenD (fun xs H Q => ∃ a kvs, xs = [V.ref a] ∧ H a = some (.dK kvs) ∧ Q (.int kvs.length) H) := by
  intro W al B sg H h ws vs Q hr r p
  unfold fLenD at p
  split at p
  · rename_i n
    obtain ⟨v, rfl, r1⟩ := r.one
    split at p
    · rename_i kvs e1
      have rr := r1
      cases r1 with
      | @ref _ a q =>
        obtain ⟨_, _, kws, hd, dr⟩ := own_dic hr rr e1
        refine ⟨a, kws, rfl, hd, ?_⟩
        rw [← dr.len]
        exact Po.now p hr (.int _)
    · exact p.elim
  · exact p.elim
end
/-! ### keys in order -/
def leS (a b : Str) : Bool := !ltCps b.cps.toList a.cps.toList
def srtS (xs : List Str) : List Str := xs.mergeSort leS
theorem leS_iff {a b : Str} : leS a b = true ↔ a.cps.toList ≤ b.cps.toList := by
  unfold leS
  rw [PyProof.Rows.ltCps_eq, Bool.not_eq_true', decide_eq_false_iff_not, List.not_lt]
theorem leS_trans (a b c : Str) (h1 : leS a b = true) (h2 : leS b c = true) : leS a c = true := by
  rw [leS_iff] at h1 h2 ⊢
  exact List.le_trans h1 h2
theorem leS_total (a b : Str) : (leS a b || leS b a) = true := by
  rw [Bool.or_eq_true, leS_iff, leS_iff]
  exact List.le_total _ _
theorem leS_anti {a b : Str} (h1 : leS a b = true) (h2 : leS b a = true) : a = b := by
  rw [leS_iff] at h1 h2
  exact TL.ext_tl (List.le_antisymm h1 h2)
theorem pair_of : ∀ {p : Str} {l : List Str}, risingS p l = true → (p :: l).Pairwise (fun a b => leS a b = true)
  | p, [], _ => List.pairwise_singleton _ _
  | p, x :: r, h => by
    have h' : (!ltCps x.cps.toList p.cps.toList && risingS x r) = true := h
    rw [Bool.and_eq_true] at h'
    have ih := pair_of h'.2
    have px : leS p x = true := h'.1
    refine List.pairwise_cons.mpr ⟨fun y hy => ?_, ih⟩
    rcases List.mem_cons.mp hy with rfl | hy
    · exact px
    · exact leS_trans _ _ _ px (List.rel_of_pairwise_cons ih hy)
theorem srt_is {ys xs : List Str} (hp : ys.Perm xs) (hs : sortedS ys = true) : ys = srtS xs := by
  have h1 : ys.Pairwise (fun a b => leS a b = true) := by
    cases ys with
    | nil => exact List.Pairwise.nil
    | cons y r => exact pair_of hs
  have h2 : (srtS xs).Pairwise (fun a b => leS a b = true) := List.pairwise_mergeSort (le := leS) leS_trans leS_total xs
  exact (hp.trans (List.mergeSort_perm xs leS).symm).eq_of_pairwise (fun a b _ _ => leS_anti) h1 h2
def strKs : List (Key × Val) → Option (List Str)
  | [] => some []
  | (.inr x, _) :: r => match strKs r with
    | some xs => some (x :: xs)
    | none => none
  | (.inl _, _) :: _ => none
theorem strKs_is : ∀ {kvs : List (Key × Val)} {xs : List Str}, strKs kvs = some xs → kvs.map (·.1) = xs.map Sum.inr
  | [], xs, e => by cases e; rfl
  | (.inr x, w) :: r, xs, e => by
    unfold strKs at e
    split at e
    · rename_i ys e2
      cases e
      rw [List.map_cons, List.map_cons, strKs_is e2]
    · cases e
  | (.inl _, _) :: _, xs, e => by cases e
/-- sorted(d), the keys texts -/
def fSrtD (ws : List Val) : M Val := fun h => match ws with
  | [.ref n] => match h[n]? with
    | some (.dic kvs) => match strKs kvs with
      | some xs => if xs.length < 64 then .ok (.lst ((srtS xs).map Val.str)) h else .bad
      | none => .bad
    | _ => .bad
  | _ => .bad
theorem reps_strs {K : PySem.W.Frag} {al B : List Addr} {H : Hp} : ∀ ys : List Str, Reps K al B H (ys.map Val.str) (ys.map V.str)
  | [] => .nil
  | y :: ys => .cons (.str y) (reps_strs ys)
theorem lk_srtD {K : PySem.W.Frag} : Lks K fSrtD (fun xs H Q => ∃ (a : Addr) (kvs : List (Key × V)) (ks : List Str), xs = [.ref a] ∧ Rd H a (.dK kvs) ∧ kvs.map (·.1) = ks.map Sum.inr ∧ ks.length < 64 ∧
    ∀ ys p, ys.Perm ks → sortedS ys = true → H p = none → Q (.ref p) (upd H p (.lst (ys.map V.str)))) := by
  intro W al B sg H h ws vs Q hr r p
  unfold fSrtD at p
  split at p
  · rename_i n
    obtain ⟨v, rfl, r1⟩ := r.one
    split at p
    · rename_i kvs e1
      split at p
      · rename_i xs e2
        split at p
        · rename_i l
          have rr := r1
          cases r1 with
          | @ref _ a q =>
            obtain ⟨_, _, kws, hd, dr⟩ := own_dic hr rr e1
            refine ⟨a, kws, xs, rfl, .inl hd, by rw [← dr.1, strKs_is e2], l, fun ys z hp hs hz => ?_⟩
            have ey := srt_is hp hs
            subst ey
            have ln : ((srtS xs).map Val.str).length ≤ sizeLine := by
              rw [List.length_map, hp.length_eq]
              have := sizeLine_eq
              omega
            exact p al _ _ (Stp.lay hz) (hr.lay hz) (.lst (At1.lay hr hz) ln (reps_strs _))
        · exact p.elim
      · exact p.elim
    · exact p.elim
  · exact p.elim
end Z
set_option Elab.async false
set_option linter.all false
set_option maxRecDepth 100000
set_option maxHeartbeats 2000000
/-! ZN0: own errors over other built-in classes than ValueError: what a first store into one does. -/
namespace PySem
namespace HandSPX
open Builtin Builtin.ObjectAttr
abbrev tlOverflowError : List Value := [.type "OverflowError", .type "ArithmeticError", .type "Exception", .type "BaseException", .type "object"]
abbrev tlIndexError : List Value := [.type "IndexError", .type "LookupError", .type "Exception", .type "BaseException", .type "object"]
abbrev tlException : List Value := [.type "Exception", .type "BaseException", .type "object"]
/-- own classes, then those of a built-in one -/
def refsT (tl : List Value) : List Value → Bool
  | .ref _ :: r => refsT tl r
  | l => l == tl
theorem refsT_ways {tl : List Value} (l : List Value) (e : refsT tl l = true) : (∃ c r, l = .ref c :: r ∧ refsT tl r = true) ∨ l = tl := by
  unfold refsT at e
  split at e
  · exact .inl ⟨_, _, rfl, e⟩
  · exact .inr (beq_iff_eq.mp e)
def Pass (tl : List Value) : Prop := ∀ self : Value, refuseLoop self "__setattr__" tl = pure ()
theorem tlOverflowError_pass : Pass tlOverflowError := F.store_OverflowError.passes
theorem tlIndexError_pass : Pass tlIndexError := F.store_IndexError.passes
theorem tlException_pass : Pass tlException := F.store_Exception.passes
theorem refsT_pass {tl : List Value} (ps : Pass tl) (nn : tl ≠ []) (self : Value) : ∀ l : List Value, refsT tl l = true → refuseLoop self "__setattr__" l = pure ()
  | [], e => by
    rcases refsT_ways [] e with ⟨_, _, q, _⟩ | q
    · cases q
    · exact absurd q.symm nn
  | x :: xs, e => by
    rcases refsT_ways (x :: xs) e with ⟨c, r, q, g⟩ | q
    · obtain ⟨rfl, rfl⟩ := List.cons.inj q
      rw [refuseLoop_ref]
      exact refsT_pass ps nn self xs g
    · rw [q]
      exact ps self
theorem refsT_contains {tl : List Value} (Y : String) : ∀ l : List Value, refsT tl l = true → l.contains (.type Y) = tl.contains (.type Y)
  | [], e => by
    rcases refsT_ways [] e with ⟨_, _, q, _⟩ | q
    · cases q
    · rw [q]
  | x :: xs, e => by
    rcases refsT_ways (x :: xs) e with ⟨c, r, q, g⟩ | q
    · obtain ⟨rfl, rfl⟩ := List.cons.inj q
      rw [List.contains_cons, refsT_contains Y xs g]
      rfl
    · rw [q]
section
variable {prog : Program} {w : World} {A : Around} {E : Value → Shared → Prop} {R : Result → Shared → Prop} {hh : Heap} {gg : Array GenState} {dd : Drawn} {tt : Nat} {oo : OsState}
theorem exc_osaT {tl : List Value} (ps : Pass tl) (nn : tl ≠ []) (ob : tl.contains (.type "object") = true) {K : W.Frag} {name : Str} {tk : Tok} {v : Value} {x C : Addr} {fv : Array Value} {cd : ClassData}
    (Y : K.In hh) (hx : hh.get? x = some { cls := .ref C, data := .fields fv }) (hc : W.clsIn K C = some cd) (hm : refsT tl cd.mro = true) (hd : cd.hasDict = true) (hn : W.findIn K (.ref C) name = some none)
    (go : ∀ h' tk' dx, (∀ b o, b ≠ x → hh.get? b = some o → h'.get? b = some o) → hh.objs.size ≤ dx → dx ≠ x → h'.get? x = some { cls := .ref C, dict := some dx, data := .fields fv } →
      h'.Ns1 dx (fun y => if y = name then some v else none) → R (.ok (.ret .none)) ⟨h', gg, dd, tk', oo⟩) :
    codeAny (model prog w) A (.call (.builtin "object.__setattr__") ⟨[.ref x, .str name tk, v], []⟩) R ⟨hh, gg, dd, tt, oo⟩ := by
  have J : W.InstAt hh x { cls := .ref C, data := .fields fv } C none := ⟨hx, rfl, rfl, trivial⟩
  have obj : cd.mro.contains (.type "object") = true := (refsT_contains "object" cd.mro hm).trans ob
  have ne : cd.mro.isEmpty = false := by
    cases q : cd.mro with
    | nil => rw [q] at obj; exact absurd obj (by decide)
    | cons _ _ => rfl
  have far : x ≠ hh.objs.size := Nat.ne_of_lt (Heap.lt_size hx)
  have under : W.Looks (model prog w) hh (isInstance (.ref x) (.type "object")) true := J.type.andThen (W.looks_mroIn Y (by unfold W.mroIn; rw [hc, Option.bind_some, if_neg (by rw [ne]; decide), obj]))
  refine codeAny_call_builtin F.store_object.slot.plain F.store_object.entry (@W.check_slot (model prog w) _ _ ⟨hh, gg, dd, tt, oo⟩ "object.__setattr__" "object" "__setattr__" (.ref x) [.str name tk, v] [] _ F.store_object.kind F.store_object.split under (F.store_object.args (.ref x) (.str name tk) v) ?_)
  have mr : W.Looks (model prog w) hh (mroOf (.ref C)) cd.mro := (W.looks_clsIn Y hc).andThen .now
  have none3 : W.Looks (model prog w) hh (storeTaker? none) none := .now
  have cl : W.Looks (model prog w) hh (classData C) cd := W.looks_clsIn Y hc
  rw [W.osa_eq, refuse_eq]
  refine wpAny_bind (wpAny_bind (J.type.at (wpAny_bind (mr.at ?_))))
  rw [refsT_pass ps nn _ _ hm]
  refine wpAny_pure (wpAny_bind (J.type.at (wpAny_bind ((W.looks_findIn Y hn).at (wpAny_bind (none3.at ?_))))))
  show wpAny _ _ (storeInOwnDict (.ref x) (.ref C) (.str name tk) name v false) _ _ _
  obtain ⟨n1, n2, n3, n4, n5, n6, n7, n8, n9, n10, n11⟩ := cd
  dsimp only at hd
  subst hd
  unfold storeInOwnDict
  unfold ownDictForStores
  repeat (first | with_reducible refine store_in_new ?_ ?_ | with_reducible refine wpAny_loadPart_at hx ?_ | with_reducible refine cl.at ?_ | wp_step)
  · exact ⟨_, #[], _, (Heap.get?_update_ne _ _ _ _ far.symm).trans (Heap.get?_push_at rfl rfl), rfl, fun e he => absurd he (by simp), fun _ => rfl⟩
  · intro h' tk' ns' same
    have hx2 : (hh.push { cls := .type "dict", data := .dict #[] }).get? x = some { cls := .ref C, data := .fields fv } := Heap.get?_push_of_some _ hx
    refine go h' tk' hh.objs.size (fun b o hb q => ?_) (Nat.le_refl _) far.symm ((same.2 x far).trans (Heap.get?_update_self _ hx2 rfl)) ns'
    exact (same.2 b (Nat.ne_of_lt (Heap.lt_size q))).trans ((Heap.get?_update_ne _ _ _ _ hb).trans (Heap.get?_push_of_some _ q))
end
end HandSPX
end PySem
set_option Elab.async false
set_option linter.all false
set_option maxRecDepth 100000
set_option maxHeartbeats 2000000
namespace PySem
namespace NX_TooLong
open PySem.W PySem.Calls PyProof.Rows PySem.HandSPX
/-! ### the text of __init__ -/
def iA (p1 p2 : Pos) : Arguments := { posonlyargs := [], args := [{ arg := "self", annotation := none, pos := p1 }, { arg := "many", annotation := none, pos := p2 }], vararg := none, kwonlyargs := [], kw_defaults := [], kwarg := none, defaults := [] }
def iB (q1 q2 q3 q4 : Pos) : List Stmt := [.Assign [.Attribute (.Name "self" q1) "many" q2] (.Name "many" q3) q4]
def iS : Scope := { kind := .function, names := [(PySem.Str.ofString "self", .local), (PySem.Str.ofString "many", .local)], isGenerator := false, isCoroutine := false, more := [] }
/-- what the written part says of TooLong, at C, and of its __init__, at fI -/
structure XTxt (K : Frag) (mg : Str → Option Value) (C fI : Addr) : Prop where
  gC : mg "TooLong" = some (.ref C)
  cls : ∃ nm q N bs bm sn sub ab col dd k0 k1 k2 k3 k5, K.lookup C = some (excClassObj nm q C N bs bm true sn sub ab col dd k0 k1 k2 k3 k5 "OverflowError.__new__") ∧ refsT tlOverflowError bm = true
  sa : findIn K (.ref C) "__setattr__" = some (some (.builtin "object.__setattr__"))
  ga : findIn K (.ref C) "__getattribute__" = some (some (.builtin "BaseException.__getattribute__"))
  gg : findIn K (.ref C) "__getattr__" = some none
  noN : findIn K (.ref C) "many" = some none
  iC : findIn K (.ref C) "__init__" = some (some (.ref fI))
  tC : typeIn K (.ref fI) = some (.type "function")
  kC : keepIn K (.ref C) = true
  exC : subIn K (.ref C) (.type "BaseException") = some true
  tyC : typeIn K (.ref C) = some (.type "type")
  hdC : hasDictIn K C = true
  te : exmOne K (.ref C) (.ref C) = some true
  fn : ∃ (oc : Value) (od : Option Addr) (doc pm : Value) (an : Option Addr) (cdv ct : Value) (osl : Array (Option Value)) (p1 p2 q1 q2 q3 q4 : Pos),
    K.lookup fI = some ⟨oc, od, .func (fnOf "__init__" "TooLong.__init__" (iA p1 p2) (iB q1 q2 q3 q4) iS .none .none doc pm an cdv ct), osl⟩ ∧ codeIn K cdv "TooLong.__init__" = true
theorem one_size (v : Value) : [v].length ≤ sizeLine := by
  rw [sizeLine_eq]
  exact (by decide : 1 ≤ 16777216)
theorem kept_but {K : Frag} {h h' : Heap} {x : Addr} (X : K.In h) (hx : K.lookup x = none) (k : ∀ b o, b ≠ x → h.get? b = some o → h'.get? b = some o) : K.In h' := fun a o e =>
  k a o (fun z => by rw [z, hx] at e; cases e) (X a o e)
theorem ldC {M : Model} {s : Shared} {name : Str} {scope : Scope} {L a : Addr} {cd : Value} {m : Str → Option Value} {x : Str} {pos : Pos} {v : Value} {Q : Value → Shared → Prop} {A : Around} {E : Value → Shared → Prop} (hn : s.heap.Ns L m) (hv : m x = some v) (h : Q v s)
    (hk : scope.kind = .function := by rfl) (hl : (envOfC name scope L a cd).kindOf x = some .local := by rfl) (hd : (x == ("__debug__" : Str)) = false := by decide) :
    wpAny M A (eval (.Name x pos) (envOfC name scope L a cd)) Q E s := wpAny_Name (wpAny_loadName_local hk hl hn hv h) hd
/-- what __init__ leaves of a fresh exception at x -/
structure InitEnd (h h' : Heap) (x C dx t1 : Addr) (v : Value) : Prop where
  keep : ∀ b o, b ≠ x → h.get? b = some o → h'.get? b = some o
  obj : h'.get? x = some { cls := .ref C, dict := some dx, data := .fields #[.ref t1, .none, .none, .none, .bool false, .none] }
  dbig : h.objs.size ≤ dx
  dne : dx ≠ x
  ns : h'.Ns1 dx (fun y => if y = "many" then some v else none)
/-- a made TooLong -/
structure OwnMade (h h' : Heap) (e C d : Addr) (v : Value) : Prop where
  keep : ∀ b o, h.get? b = some o → h'.get? b = some o
  new : h.objs.size ≤ e
  obj : ∃ oe vs, h'.get? e = some oe ∧ oe.cls = .ref C ∧ oe.dict = some d ∧ oe.data = .fields vs ∧ vs[1]? = some .none
  dbig : h.objs.size ≤ d
  dne : d ≠ e
  ns : h'.Ns1 d (fun y => if y = "many" then some v else none)
section
variable {prog : Program} {w : World} {A : Around} {E : Value → Shared → Prop} {R : Result → Shared → Prop} {s : Shared} {K : Frag} {mg : Str → Option Value} {C fI : Addr}
theorem x_init (T : XTxt K mg C fI) {x t0 : Addr} {v : Value} (X : K.In s.heap) (hlim : s.heap.NoLimit) (hx : s.heap.get? x = some (excO C t0)) (hnx : K.lookup x = none) (hroom : A.depth < recursionLimit)
    (hq : ∀ h' tk dx, InitEnd s.heap h' x C dx t0 v → R (.ok (.ret .none)) { s with heap := h', toks := tk }) :
    codeAny (model prog w) A (.call (.ref fI) ⟨[.ref x, v], []⟩) R s := by
  obtain ⟨oc, od, doc, pm, an, cdv, ct, osl, p1, p2, q1, q2, q3, q4, ho, hcd⟩ := T.fn
  obtain ⟨nm, q, N, bs, bm, sn, sub, ab, col, dd, k0, k1, k2, k3, k5, hC, hbm⟩ := T.cls
  have hcl : clsIn K C = some { name := nm, bases := bs, mro := .ref C :: bm, ns := N, qualname := q, hasDict := true, slotNames := sn, subclasses := sub, abstract := ab, collection := col, hasDel := false } := by unfold clsIn; rw [hC] <;> rfl
  refine Att.call_fn (binds := [("self", .ref x), ("many", v)]) X hlim ho hcd hroom (BindsTo.of_eq (by first | rfl | with_unfolding_all rfl)) (by first | rfl | decide | with_unfolding_all rfl) (fun s₁ IC => ?_) rfl rfl rfl
  obtain ⟨h₁, tk₁, rfl⟩ := IC.toInCall.same
  have k : ∀ b o, s.heap.get? b = some o → h₁.get? b = some o := IC.toInCall.keep
  have hn := IC.toInCall.ns
  have hxL : s.heap.objs.size ≠ x := Nat.ne_of_gt (Heap.lt_size hx)
  have X₁ : K.In h₁ := X.keeps k
  have hx₁ := k _ _ hx
  -- self.by = by
  show wpAny _ _ (execs _ _) _ _ _
  refine wpAny_execs_cons (plainObj_wpAny_Assign_Attribute ?_)
  refine ldC (v := v) hn (by first | rfl | with_unfolding_all rfl | kernel_rfl) (ldC (v := .ref x) hn (by first | rfl | with_unfolding_all rfl | kernel_rfl) ?_)
  refine set_plain X₁ (ox := excO C t0) (od := none) ⟨hx₁, rfl, rfl, trivial⟩ T.sa ?_
  refine exc_osaT tlOverflowError_pass (by decide) (by decide) X₁ hx₁ hcl (show refsT tlOverflowError (.ref C :: bm) = true from hbm) rfl T.noN (fun h₃ tk₃ dx k₃ dn dne hx₃ hn₃ => ?_)
  show wpAny _ _ (execs _ _) _ _ _
  have z : s.heap.objs.size < h₁.objs.size := hn.lt
  exact wpAny_execs_nil (hq h₃ tk₃ dx ⟨fun b o hb e => k₃ b o hb (k b o e), hx₃, Nat.le_of_lt (Nat.lt_of_lt_of_le z dn), dne, hn₃⟩)
theorem x_made (T : XTxt K mg C fI) {v : Value} (X : K.In s.heap) (hlim : s.heap.NoLimit) (hroom : A.depth + 1 < recursionLimit)
    (hq : ∀ h' tk e d, OwnMade s.heap h' e C d v → R (.ok (.ret (.ref e))) { s with heap := h', toks := tk }) :
    codeAny (model prog w) A (.call (.ref C) ⟨[v], []⟩) R s := by
  obtain ⟨nm, q, N, bs, bm, sn, sub, ab, col, dd, k0, k1, k2, k3, k5, hC, hbm⟩ := T.cls
  obtain ⟨hp, g, dr, tk, os⟩ := s
  have k : ∀ b o, hp.get? b = some o → ((hp.push (kdv_tup [v])).push (excO C hp.objs.size)).get? b = some o := fun b o e => Heap.get?_push_of_some _ (Heap.get?_push_of_some _ e)
  have hget : ((hp.push (kdv_tup [v])).push (excO C hp.objs.size)).get? (hp.objs.size + 1) = some (excO C hp.objs.size) := by heap_get
  have hnx : K.lookup (hp.objs.size + 1) = none := by
    cases e : K.lookup (hp.objs.size + 1) with
    | none => rfl
    | some o =>
      have z : hp.get? (hp.objs.size + 1) = some o := X _ _ e
      exact absurd (Nat.lt_of_succ_lt (Heap.lt_size z)) (Nat.lt_irrefl _)
  refine call_own F.excBase_OverflowError (fun X => refsT_contains X bm hbm) (X _ _ hC) (looks_findIn X T.iC) (fun self => bind_fn X self T.tC) (one_size v) ?_
  refine x_init (s := ⟨(hp.push (kdv_tup [v])).push (excO C hp.objs.size), g, dr, tk, os⟩) T (X.keeps k) (hlim.keeps k) hget hnx ?_ fun h' tk' dx ⟨k', hx, dn, dne, hns⟩ => ?_
  · show A.depth + 1 < recursionLimit
    exact hroom
  · have old : ∀ b o, hp.get? b = some o → h'.get? b = some o := fun b o e => k' b o (Nat.ne_of_lt (Nat.lt_succ_of_lt (Heap.lt_size e))) (k b o e)
    have z : hp.objs.size + 1 + 1 ≤ dx := by
      first
        | (simpa only [Heap.size_push] using dn)
        | exact dn
        | (have q := dn; rw [Heap.size_push, Heap.size_push] at q; exact q)
    exact ⟨rfl, hq h' tk' (hp.objs.size + 1) dx ⟨old, Nat.le_succ _, ⟨_, _, hx, rfl, rfl, rfl, rfl⟩, Nat.le_trans (Nat.le_trans (Nat.le_succ _) (Nat.le_succ _)) z, dne, hns⟩⟩
end
end NX_TooLong
end PySem
namespace L2
open PySem PySem.Spec PyProof.Rows
theorem relO_nt_TooLong {v : V} {v' : Value} (r : RelV v v') (f : Str) : RelO (List.lookup f [(("many" : Str), v)]) (if f = "many" then some v' else none) := by
  by_cases hw : f = "many"
  · subst hw
    rw [if_pos rfl]
    have q : List.lookup ("many" : Str) [(("many" : Str), v)] = some v := by simp [List.lookup]
    rw [q]
    exact r
  · rw [if_neg hw]
    have qw : (f == ("many" : Str)) = false := by simpa using hw
    have q2 : List.lookup f [(("many" : Str), v)] = none := by simp [List.lookup, qw]
    rw [q2]
    trivial
section
variable {X : Cx} {C fI : Addr}
/-- TooLong(e) -/
def tMkNt_TooLong (C : Addr) (ta : TA) : St → Hp → XK → Prop := fun σ H Q => ta σ H fun vs H1 => ∃ v, vs = [v] ∧ ∀ d, H1 d = none → Q (.ref C) (some d) (upd H1 d (.xd [(("many" : Str), v)]))
theorem pmk_nt_TooLong {a : Expr} {ta : TA} {p pos : Pos} {k : Nat} (T : PySem.NX_TooLong.XTxt X.K X.mg C fI) (hr : Room k X.A) (ha : PA X [a] ta) (hg : Gl X "TooLong" := by rfl)
    (he : starEach (a :: []) X.env = (false, eval a X.env) :: starEach [] X.env := by rfl) (hpl : (backTo pos (starEach [] X.env)).any (·.1) = false := by rfl) :
    PMk X (.Call (.Name "TooLong" p) [a] [] pos) (tMkNt_TooLong C ta) := by
  intro pins s σ H Q I h
  refine wpAny_Call_Name_kw (ld_glob I hg T.gC ?_)
  refine PySem.W.callWith_K (h₀ := X.base) I.ok.mod.kin T.kC (thn (ha.run pos pins s σ H _ I h) fun us s1 hh => ?_) he hpl
  obtain ⟨vs, H1, I1, r1, v, ev, q1⟩ := hh
  subst ev
  refine ⟨I1.kIn, ?_⟩
  cases r1 with
  | cons rv rn =>
    rename_i v' us'
    cases rn
    show wpAny _ _ (call (.ref C) [v']) _ _ _
    have hlim := I1.nolimit
    obtain ⟨hp, g, dr, tk, os⟩ := s1
    refine wpAny_call (PySem.NX_TooLong.x_made T I1.kIn hlim (by have := hr.dp; omega) fun h' tk' e d M => ?_)
    show MkP X pins σ Q (.ref e) ⟨h', g, dr, tk', os⟩
    obtain ⟨oe, fv, hoe, hc, hd, hdat, h1⟩ := M.obj
    have hns := M.ns
    obtain ⟨G', g1, g2⟩ := restrict h' fun b => decide (b ≠ e)
    have gk : ∀ b, b ≠ e → G'.get? b = h'.get? b := fun b hb => g1 b (decide_eq_true hb)
    have ge : G'.get? e = none := g2 e (by simp)
    have old : ∀ b o, hp.get? b = some o → G'.get? b = some o := fun b o q => (gk b (Nat.ne_of_lt (Nat.lt_of_lt_of_le (Heap.lt_size q) M.new))).trans (M.keep b o q)
    have ob : ObjOk X.prog X.w (upd H1 d (.xd [(("many" : Str), v)])) G' d (.xd [(("many" : Str), v)]) :=
      ⟨_, hns.at (fun o q => (gk d M.dne).trans q), fun f => relO_nt_TooLong rv f⟩
    have J : Inv X pins σ (upd H1 d (.xd [(("many" : Str), v)])) ⟨G', g, dr, tk', os⟩ := I1.laid (t' := tk') old M.dbig ob
    refine ⟨e, oe, fv, ⟨G', g, dr, tk', os⟩, _, .ref C, some d, rfl, J, fun b o q => ?_, ge, hoe, ⟨hc, hd⟩, hdat, h1, ?_, rfl, I1.bare, raises_own T.exC T.tyC, q1 d (I1.hok.fresh M.dbig)⟩
    · by_cases hb : b = e
      · have q' : G'.get? b = some o := q
        rw [hb, ge] at q'; cases q'
      · exact (gk b hb).symm.trans q
    · rw [upd_ne (Ne.symm M.dne)]
      exact I1.hok.fresh M.new
/-- raise TooLong(e) -/
def tRaiseNt_TooLong (C : Addr) (W : WX) (ta : TA) : TS := fun _ σ H => tMkNt_TooLong C ta σ H fun cls d H' => W cls d σ H'
theorem ps_raiseNt_TooLong {a : Expr} {ta : TA} {W : WX} {p pos pos2 : Pos} {k : Nat} (hc : X.calm = true) (T : PySem.NX_TooLong.XTxt X.K X.mg C fI) (hr : Room k X.A) (tk : Takes X W) (ha : PA X [a] ta) (hg : Gl X "TooLong" := by rfl)
    (he : starEach (a :: []) X.env = (false, eval a X.env) :: starEach [] X.env := by rfl) (hpl : (backTo pos (starEach [] X.env)).any (·.1) = false := by rfl) :
    PS X (.Raise (some (.Call (.Name "TooLong" p) [a] [] pos)) none pos2) (tRaiseNt_TooLong C W ta) := ps_raise hc tk (pmk_nt_TooLong T hr ha hg he hpl)
end
end L2
namespace Z
open PySem PySem.Spec PyProof.Rows L2
section
variable {X : Cx} {W : WX} {pos : Pos}
theorem os_raiseNt_TooLong {a : Expr} {C fI : Addr} {k : Nat} {p pos2 : Pos} {m : SE} (hc : X.calm = true) (T : PySem.NX_TooLong.XTxt X.K X.mg C fI) (hr : Room k X.A) (tk : Takes X W) (ha : PE X a (tE X.K W m)) (hg : Gl X "TooLong")
    (he : starEach (a :: []) X.env = (false, eval a X.env) :: starEach [] X.env) (hpl : (backTo pos (starEach [] X.env)).any (·.1) = false) :
    PS X (.Raise (some (.Call (.Name "TooLong" p) [a] [] pos)) none pos2) (tS X.K W (nRaiseF C "many" m)) := by
  refine PS.weak (ps_raiseNt_TooLong hc T hr tk (pa_cons ha pa_nil he) hg he hpl) ?_
  rintro D sg H ⟨al, B, ro, h, S, p⟩
  refine ⟨al, B, ro, h, S, Po.mono (Ps.bind S p) fun v H1 ⟨al1, h1, w, st, hr1, r, q⟩ => ?_⟩
  refine ⟨v, rfl, fun d hd => ?_⟩
  have st2 : Stp al1 H1 al1 (upd H1 d (.xd [(("many" : Str), v)])) := Stp.lay hd
  exact q al1 sg _ st2 ((S.step st hr1).step st2 (hr1.lay hd)) _ _ ⟨rfl, fun z => (by cases z), fun _ => ⟨d, _, rfl, upd_same, (hr1.fresh hd).1, (hr1.fresh hd).2, rfl, .cons (r.step st2) .nil⟩⟩
end
theorem fld_TooLong {K : PySem.W.Frag} {mg : Str → Option Value} {C fI : Addr} (T : PySem.NX_TooLong.XTxt K mg C fI) : XfC K C := ⟨T.ga, T.gg, T.exC, T.hdC⟩
end Z
set_option Elab.async false
/-! ZNA: sorted's name. -/
namespace Z
open PySem PySem.Spec PyProof.Rows L2
theorem zb_sorted : bootBuiltins "sorted" = some (.builtin "sorted") := by decide +kernel
theorem zb_OverflowError : bootBuiltins "OverflowError" = some (.type "OverflowError") := by decide +kernel
/-! ### turns, one by one -/
section
variable {g : GM} {body : SS} {x : Itm} {k i : Nat} {ro ro1 ro2 : En} {h h1 h2 : HH} {w v : Val} {e : Ex}
theorem turn_nx (e0 : nxt x i h = some (some w)) (e1 : g w ro h = .go .nx ro1 h1) (e2 : body ro1 h1 = .go .nx ro2 h2) : turns g body x (k + 1) i ro h = turns g body x k (i + 1) ro2 h2 := by
  conv => lhs; unfold turns
  rw [e0]
  simp only [e1, e2]
theorem turn_ret (e0 : nxt x i h = some (some w)) (e1 : g w ro h = .go .nx ro1 h1) (e2 : body ro1 h1 = .go (.ret v) ro2 h2) : turns g body x (k + 1) i ro h = .go (.ret v) ro2 h2 := by
  conv => lhs; unfold turns
  rw [e0]
  simp only [e1, e2]
theorem turn_ex (e0 : nxt x i h = some (some w)) (e1 : g w ro h = .go .nx ro1 h1) (e2 : body ro1 h1 = .go (.ex e) ro2 h2) : turns g body x (k + 1) i ro h = .go (.ex e) ro2 h2 := by
  conv => lhs; unfold turns
  rw [e0]
  simp only [e1, e2]
theorem turn_end (e0 : nxt x i h = some none) : turns g body x 0 i ro h = .go .nx ro h := by
  unfold turns
  rw [e0]
theorem nxt_st {xs : List Val} : nxt (.st xs) i h = some xs[i]? := rfl
end
end Z
set_option Elab.async false
set_option maxRecDepth 100000
set_option linter.unusedVariables false
namespace K08
open PySem PySem.Spec PyProof.Rows L2 Z
noncomputable section
/-! printed: evaluators of the defs -/
def keys_MADE : List Str := ["set", "say", "back", "throw", "if", "while", "try"]
def kv_MADE (C_rows_of_if C_rows_of_plain C_rows_of_set C_rows_of_try C_rows_of_while : Addr) : List (Str × Addr) := [("set", C_rows_of_set), ("say", C_rows_of_plain), ("back", C_rows_of_plain), ("throw", C_rows_of_plain), ("if", C_rows_of_if), ("while", C_rows_of_while), ("try", C_rows_of_try)]
def c_MOST_ROWS : Val := .int 60
def m_rows_of_value (R_rows_of_value : List Val → M Val) : SS := (nSeq (nIf (cV (sArgs fIsi (aCons (sVar 0) (aCons (sC (.ty "int")) aNil)))) (nSeq (nRet (sArgs fLst (aCons (sArgs fTup (aCons (sC (.str "put")) (aCons (sVar 0) aNil))) aNil))) nNext) nNext) (nSeq (nIf (cBin bEq (sBin bIx (sVar 0) (sC (.int 0))) (sC (.str "name"))) (nSeq (nRet (sArgs fLst (aCons (sArgs fTup (aCons (sC (.str "get")) (aCons (sBin bIx (sVar 0) (sC (.int 1))) aNil))) aNil))) nNext) nNext) (nSeq (nAsg (sVar 0) (gSt (gsCons (gNm 1) (gsCons (gNm 2) gsNil)))) (nSeq (nSet 3 (sArgs fTup (aCons (sVar 1) aNil))) (nSeq (nIf (cBin bEq (sVar 1) (sC (.str "call"))) (nSeq (nSet 3 (sArgs fTup (aCons (sVar 1) (aCons (sBin bIx (sVar 0) (sC (.int 1))) aNil)))) (nSeq (nSet 2 (sBin bIx (sVar 0) (sC (.int 2)))) nNext)) nNext) (nSeq (nRet (sBin bAdd (sLc2 (iVal (sVar 2)) (gNm 4) tYesZ (iVal (sCall R_rows_of_value 1 0 1 (fun ws _ => ws) (aCons (sVar 4) aNil) aNil)) (gNm 5) tYesZ (sVar 5) [4, 5] [5]) (sArgs fLst (aCons (sVar 3) aNil)))) nNext))))))
def G_rows_of_value : Nat → (List Val → M Val)
  | 0 => (fun _ => fail)
  | n + 1 => (runB 6 (m_rows_of_value (G_rows_of_value n)))
def F_rows_of_value (n : Nat) : List Val → M Val := (G_rows_of_value n)
theorem e_rows_of_value (n : Nat) (a0 : Val) (h : HH) : F_rows_of_value (n + 1) [a0] h = outOf (m_rows_of_value (F_rows_of_value n) [some a0, none, none, none, none, none] h) := rfl
def m_rows_of_plain : SS := (nSeq (nRet (sBin bAdd (sCall (F_rows_of_value 8) 1 0 1 (fun ws _ => ws) (aCons (sBin bIx (sVar 0) (sC (.int 1))) aNil) aNil) (sArgs fLst (aCons (sArgs fTup (aCons (sBin bIx (sVar 0) (sC (.int 0))) aNil)) aNil)))) nNext)
def F_rows_of_plain : List Val → M Val := runB 2 m_rows_of_plain
theorem e_rows_of_plain (a0 a1 : Val) (h : HH) : F_rows_of_plain [a0, a1] h = outOf (m_rows_of_plain [some a0, some a1] h) := rfl
def m_rows_of_set : SS := (nSeq (nRet (sBin bAdd (sCall (F_rows_of_value 8) 1 0 1 (fun ws _ => ws) (aCons (sBin bIx (sVar 0) (sC (.int 2))) aNil) aNil) (sArgs fLst (aCons (sArgs fTup (aCons (sC (.str "set")) (aCons (sBin bIx (sVar 0) (sC (.int 1))) aNil))) aNil)))) nNext)
def F_rows_of_set : List Val → M Val := runB 2 m_rows_of_set
theorem e_rows_of_set (a0 a1 : Val) (h : HH) : F_rows_of_set [a0, a1] h = outOf (m_rows_of_set [some a0, some a1] h) := rfl
def m_rows_of_if (C_MADE : Addr) (C_rows_of_if : Addr) (C_rows_of_plain : Addr) (C_rows_of_set : Addr) (C_rows_of_try : Addr) (C_rows_of_while : Addr) (R_rows_of_if R_rows_of_while R_rows_of_try R_rows_of_sayings : List Val → M Val) : SS := (nSeq (nSet 2 (sCall (F_rows_of_value 8) 1 0 1 (fun ws _ => ws) (aCons (sBin bIx (sVar 0) (sC (.int 1))) aNil) aNil)) (nSeq (nSet 3 (sCall R_rows_of_sayings 2 0 2 (fun ws _ => ws) (aCons (sBin bIx (sVar 0) (sC (.int 3))) (aCons (sBin bAdd (sBin bAdd (sVar 1) (sArgs fLen (aCons (sVar 2) aNil))) (sC (.int 1))) aNil)) aNil)) (nSeq (nSet 4 (sBin bAdd (sBin bAdd (sBin bAdd (sVar 1) (sArgs fLen (aCons (sVar 2) aNil))) (sArgs fLen (aCons (sVar 3) aNil))) (sC (.int 2)))) (nSeq (nSet 5 (sCall R_rows_of_sayings 2 0 2 (fun ws _ => ws) (aCons (sBin bIx (sVar 0) (sC (.int 2))) (aCons (sVar 4) aNil)) aNil)) (nSeq (nRet (sBin bAdd (sBin bAdd (sBin bAdd (sBin bAdd (sVar 2) (sArgs fLst (aCons (sArgs fTup (aCons (sC (.str "if")) (aCons (sVar 4) aNil))) aNil))) (sVar 3)) (sArgs fLst (aCons (sArgs fTup (aCons (sC (.str "go")) (aCons (sBin bAdd (sVar 4) (sArgs fLen (aCons (sVar 5) aNil))) aNil))) aNil))) (sVar 5))) nNext)))))
def m_rows_of_while (C_MADE : Addr) (C_rows_of_if : Addr) (C_rows_of_plain : Addr) (C_rows_of_set : Addr) (C_rows_of_try : Addr) (C_rows_of_while : Addr) (R_rows_of_if R_rows_of_while R_rows_of_try R_rows_of_sayings : List Val → M Val) : SS := (nSeq (nSet 2 (sCall (F_rows_of_value 8) 1 0 1 (fun ws _ => ws) (aCons (sBin bIx (sVar 0) (sC (.int 1))) aNil) aNil)) (nSeq (nSet 3 (sBin bAdd (sBin bAdd (sVar 1) (sArgs fLen (aCons (sVar 2) aNil))) (sC (.int 2)))) (nSeq (nSet 4 (sCall R_rows_of_sayings 2 0 2 (fun ws _ => ws) (aCons (sBin bIx (sVar 0) (sC (.int 2))) (aCons (sVar 3) aNil)) aNil)) (nSeq (nRet (sBin bAdd (sBin bAdd (sBin bAdd (sVar 2) (sArgs fLst (aCons (sArgs fTup (aCons (sC (.str "if")) (aCons (sVar 3) aNil))) (aCons (sArgs fTup (aCons (sC (.str "go")) (aCons (sBin bAdd (sBin bAdd (sVar 3) (sArgs fLen (aCons (sVar 4) aNil))) (sC (.int 1))) aNil))) aNil)))) (sVar 4)) (sArgs fLst (aCons (sArgs fTup (aCons (sC (.str "go")) (aCons (sVar 1) aNil))) aNil)))) nNext))))
def m_rows_of_try (C_MADE : Addr) (C_rows_of_if : Addr) (C_rows_of_plain : Addr) (C_rows_of_set : Addr) (C_rows_of_try : Addr) (C_rows_of_while : Addr) (R_rows_of_if R_rows_of_while R_rows_of_try R_rows_of_sayings : List Val → M Val) : SS := (nSeq (nAsg (sVar 0) (gTp 4 (gsCons (gNm 2) (gsCons (gNm 3) (gsCons (gNm 4) (gsCons (gNm 5) gsNil)))))) (nSeq (nSet 6 (sCall R_rows_of_sayings 2 0 2 (fun ws _ => ws) (aCons (sVar 3) (aCons (sBin bAdd (sVar 1) (sC (.int 1))) aNil)) aNil)) (nSeq (nSet 7 (sBin bAdd (sBin bAdd (sVar 1) (sArgs fLen (aCons (sVar 6) aNil))) (sC (.int 3)))) (nSeq (nSet 8 (sBin bAdd (sArgs fLst (aCons (sArgs fTup (aCons (sC (.str "set")) (aCons (sVar 4) aNil))) aNil)) (sCall R_rows_of_sayings 2 0 2 (fun ws _ => ws) (aCons (sVar 5) (aCons (sBin bAdd (sVar 7) (sC (.int 1))) aNil)) aNil))) (nSeq (nRet (sBin bAdd (sBin bAdd (sBin bAdd (sArgs fLst (aCons (sArgs fTup (aCons (sC (.str "try")) (aCons (sVar 7) aNil))) aNil)) (sVar 6)) (sArgs fLst (aCons (sArgs fTup (aCons (sC (.str "done")) aNil)) (aCons (sArgs fTup (aCons (sC (.str "go")) (aCons (sBin bAdd (sVar 7) (sArgs fLen (aCons (sVar 8) aNil))) aNil))) aNil)))) (sVar 8))) nNext)))))
def m_rows_of_sayings (C_MADE : Addr) (C_rows_of_if : Addr) (C_rows_of_plain : Addr) (C_rows_of_set : Addr) (C_rows_of_try : Addr) (C_rows_of_while : Addr) (R_rows_of_if R_rows_of_while R_rows_of_try R_rows_of_sayings : List Val → M Val) : SS := (nSeq (nSet 2 (sArgs fNew aNil)) (nSeq (nFor (iVal (sVar 0)) (gNm 3) (nSeq (nSet 4 (sBin (bKget C_MADE (kv_MADE C_rows_of_if C_rows_of_plain C_rows_of_set C_rows_of_try C_rows_of_while)) (sC (.glo C_MADE)) (sBin bIx (sVar 3) (sC (.int 0))))) (nSeq (nExpr (sMtL mExt (sVar 2) (aCons (sCallL 4 2 [(C_rows_of_set, F_rows_of_set), (C_rows_of_plain, F_rows_of_plain), (C_rows_of_if, R_rows_of_if), (C_rows_of_while, R_rows_of_while), (C_rows_of_try, R_rows_of_try)] (aCons (sVar 3) (aCons (sBin bAdd (sVar 1) (sArgs fLen (aCons (sVar 2) aNil))) aNil))) aNil))) nNext))) (nSeq (nRet (sVar 2)) nNext)))
def G_rows_of_if (C_MADE : Addr) (C_rows_of_if : Addr) (C_rows_of_plain : Addr) (C_rows_of_set : Addr) (C_rows_of_try : Addr) (C_rows_of_while : Addr) : Nat → (List Val → M Val) × (List Val → M Val) × (List Val → M Val) × (List Val → M Val)
  | 0 => (fun _ => fail, fun _ => fail, fun _ => fail, fun _ => fail)
  | n + 1 => (runB 6 (m_rows_of_if C_MADE C_rows_of_if C_rows_of_plain C_rows_of_set C_rows_of_try C_rows_of_while (G_rows_of_if C_MADE C_rows_of_if C_rows_of_plain C_rows_of_set C_rows_of_try C_rows_of_while n).1 (G_rows_of_if C_MADE C_rows_of_if C_rows_of_plain C_rows_of_set C_rows_of_try C_rows_of_while n).2.1 (G_rows_of_if C_MADE C_rows_of_if C_rows_of_plain C_rows_of_set C_rows_of_try C_rows_of_while n).2.2.1 (G_rows_of_if C_MADE C_rows_of_if C_rows_of_plain C_rows_of_set C_rows_of_try C_rows_of_while n).2.2.2), runB 5 (m_rows_of_while C_MADE C_rows_of_if C_rows_of_plain C_rows_of_set C_rows_of_try C_rows_of_while (G_rows_of_if C_MADE C_rows_of_if C_rows_of_plain C_rows_of_set C_rows_of_try C_rows_of_while n).1 (G_rows_of_if C_MADE C_rows_of_if C_rows_of_plain C_rows_of_set C_rows_of_try C_rows_of_while n).2.1 (G_rows_of_if C_MADE C_rows_of_if C_rows_of_plain C_rows_of_set C_rows_of_try C_rows_of_while n).2.2.1 (G_rows_of_if C_MADE C_rows_of_if C_rows_of_plain C_rows_of_set C_rows_of_try C_rows_of_while n).2.2.2), runB 9 (m_rows_of_try C_MADE C_rows_of_if C_rows_of_plain C_rows_of_set C_rows_of_try C_rows_of_while (G_rows_of_if C_MADE C_rows_of_if C_rows_of_plain C_rows_of_set C_rows_of_try C_rows_of_while n).1 (G_rows_of_if C_MADE C_rows_of_if C_rows_of_plain C_rows_of_set C_rows_of_try C_rows_of_while n).2.1 (G_rows_of_if C_MADE C_rows_of_if C_rows_of_plain C_rows_of_set C_rows_of_try C_rows_of_while n).2.2.1 (G_rows_of_if C_MADE C_rows_of_if C_rows_of_plain C_rows_of_set C_rows_of_try C_rows_of_while n).2.2.2), runB 5 (m_rows_of_sayings C_MADE C_rows_of_if C_rows_of_plain C_rows_of_set C_rows_of_try C_rows_of_while (G_rows_of_if C_MADE C_rows_of_if C_rows_of_plain C_rows_of_set C_rows_of_try C_rows_of_while n).1 (G_rows_of_if C_MADE C_rows_of_if C_rows_of_plain C_rows_of_set C_rows_of_try C_rows_of_while n).2.1 (G_rows_of_if C_MADE C_rows_of_if C_rows_of_plain C_rows_of_set C_rows_of_try C_rows_of_while n).2.2.1 (G_rows_of_if C_MADE C_rows_of_if C_rows_of_plain C_rows_of_set C_rows_of_try C_rows_of_while n).2.2.2))
def F_rows_of_if (C_MADE : Addr) (C_rows_of_if : Addr) (C_rows_of_plain : Addr) (C_rows_of_set : Addr) (C_rows_of_try : Addr) (C_rows_of_while : Addr) (n : Nat) : List Val → M Val := (G_rows_of_if C_MADE C_rows_of_if C_rows_of_plain C_rows_of_set C_rows_of_try C_rows_of_while n).1
def F_rows_of_while (C_MADE : Addr) (C_rows_of_if : Addr) (C_rows_of_plain : Addr) (C_rows_of_set : Addr) (C_rows_of_try : Addr) (C_rows_of_while : Addr) (n : Nat) : List Val → M Val := (G_rows_of_if C_MADE C_rows_of_if C_rows_of_plain C_rows_of_set C_rows_of_try C_rows_of_while n).2.1
def F_rows_of_try (C_MADE : Addr) (C_rows_of_if : Addr) (C_rows_of_plain : Addr) (C_rows_of_set : Addr) (C_rows_of_try : Addr) (C_rows_of_while : Addr) (n : Nat) : List Val → M Val := (G_rows_of_if C_MADE C_rows_of_if C_rows_of_plain C_rows_of_set C_rows_of_try C_rows_of_while n).2.2.1
def F_rows_of_sayings (C_MADE : Addr) (C_rows_of_if : Addr) (C_rows_of_plain : Addr) (C_rows_of_set : Addr) (C_rows_of_try : Addr) (C_rows_of_while : Addr) (n : Nat) : List Val → M Val := (G_rows_of_if C_MADE C_rows_of_if C_rows_of_plain C_rows_of_set C_rows_of_try C_rows_of_while n).2.2.2
theorem e_rows_of_if (C_MADE : Addr) (C_rows_of_if : Addr) (C_rows_of_plain : Addr) (C_rows_of_set : Addr) (C_rows_of_try : Addr) (C_rows_of_while : Addr) (n : Nat) (a0 a1 : Val) (h : HH) : F_rows_of_if C_MADE C_rows_of_if C_rows_of_plain C_rows_of_set C_rows_of_try C_rows_of_while (n + 1) [a0, a1] h = outOf (m_rows_of_if C_MADE C_rows_of_if C_rows_of_plain C_rows_of_set C_rows_of_try C_rows_of_while (F_rows_of_if C_MADE C_rows_of_if C_rows_of_plain C_rows_of_set C_rows_of_try C_rows_of_while n) (F_rows_of_while C_MADE C_rows_of_if C_rows_of_plain C_rows_of_set C_rows_of_try C_rows_of_while n) (F_rows_of_try C_MADE C_rows_of_if C_rows_of_plain C_rows_of_set C_rows_of_try C_rows_of_while n) (F_rows_of_sayings C_MADE C_rows_of_if C_rows_of_plain C_rows_of_set C_rows_of_try C_rows_of_while n) [some a0, some a1, none, none, none, none] h) := rfl
theorem e_rows_of_while (C_MADE : Addr) (C_rows_of_if : Addr) (C_rows_of_plain : Addr) (C_rows_of_set : Addr) (C_rows_of_try : Addr) (C_rows_of_while : Addr) (n : Nat) (a0 a1 : Val) (h : HH) : F_rows_of_while C_MADE C_rows_of_if C_rows_of_plain C_rows_of_set C_rows_of_try C_rows_of_while (n + 1) [a0, a1] h = outOf (m_rows_of_while C_MADE C_rows_of_if C_rows_of_plain C_rows_of_set C_rows_of_try C_rows_of_while (F_rows_of_if C_MADE C_rows_of_if C_rows_of_plain C_rows_of_set C_rows_of_try C_rows_of_while n) (F_rows_of_while C_MADE C_rows_of_if C_rows_of_plain C_rows_of_set C_rows_of_try C_rows_of_while n) (F_rows_of_try C_MADE C_rows_of_if C_rows_of_plain C_rows_of_set C_rows_of_try C_rows_of_while n) (F_rows_of_sayings C_MADE C_rows_of_if C_rows_of_plain C_rows_of_set C_rows_of_try C_rows_of_while n) [some a0, some a1, none, none, none] h) := rfl
theorem e_rows_of_try (C_MADE : Addr) (C_rows_of_if : Addr) (C_rows_of_plain : Addr) (C_rows_of_set : Addr) (C_rows_of_try : Addr) (C_rows_of_while : Addr) (n : Nat) (a0 a1 : Val) (h : HH) : F_rows_of_try C_MADE C_rows_of_if C_rows_of_plain C_rows_of_set C_rows_of_try C_rows_of_while (n + 1) [a0, a1] h = outOf (m_rows_of_try C_MADE C_rows_of_if C_rows_of_plain C_rows_of_set C_rows_of_try C_rows_of_while (F_rows_of_if C_MADE C_rows_of_if C_rows_of_plain C_rows_of_set C_rows_of_try C_rows_of_while n) (F_rows_of_while C_MADE C_rows_of_if C_rows_of_plain C_rows_of_set C_rows_of_try C_rows_of_while n) (F_rows_of_try C_MADE C_rows_of_if C_rows_of_plain C_rows_of_set C_rows_of_try C_rows_of_while n) (F_rows_of_sayings C_MADE C_rows_of_if C_rows_of_plain C_rows_of_set C_rows_of_try C_rows_of_while n) [some a0, some a1, none, none, none, none, none, none, none] h) := rfl
theorem e_rows_of_sayings (C_MADE : Addr) (C_rows_of_if : Addr) (C_rows_of_plain : Addr) (C_rows_of_set : Addr) (C_rows_of_try : Addr) (C_rows_of_while : Addr) (n : Nat) (a0 a1 : Val) (h : HH) : F_rows_of_sayings C_MADE C_rows_of_if C_rows_of_plain C_rows_of_set C_rows_of_try C_rows_of_while (n + 1) [a0, a1] h = outOf (m_rows_of_sayings C_MADE C_rows_of_if C_rows_of_plain C_rows_of_set C_rows_of_try C_rows_of_while (F_rows_of_if C_MADE C_rows_of_if C_rows_of_plain C_rows_of_set C_rows_of_try C_rows_of_while n) (F_rows_of_while C_MADE C_rows_of_if C_rows_of_plain C_rows_of_set C_rows_of_try C_rows_of_while n) (F_rows_of_try C_MADE C_rows_of_if C_rows_of_plain C_rows_of_set C_rows_of_try C_rows_of_while n) (F_rows_of_sayings C_MADE C_rows_of_if C_rows_of_plain C_rows_of_set C_rows_of_try C_rows_of_while n) [some a0, some a1, none, none, none] h) := rfl
def m_made (C_MADE : Addr) (C_TooLong : Addr) (C_rows_of_if : Addr) (C_rows_of_plain : Addr) (C_rows_of_set : Addr) (C_rows_of_try : Addr) (C_rows_of_while : Addr) : SS := (nSeq (nSet 1 (sArgs fNew aNil)) (nSeq (nFor (iVal (sVar 0)) (gTp 3 (gsCons (gNm 2) (gsCons (gNm 3) (gsCons (gNm 4) gsNil)))) (nSeq (nSet 5 (sBin bAdd (sCall (F_rows_of_sayings C_MADE C_rows_of_if C_rows_of_plain C_rows_of_set C_rows_of_try C_rows_of_while 24) 2 0 2 (fun ws _ => ws) (aCons (sVar 4) (aCons (sC (.int 0)) aNil)) aNil) (sArgs fLst (aCons (sArgs fTup (aCons (sC (.str "put")) (aCons (sC (.int 0)) aNil))) (aCons (sArgs fTup (aCons (sC (.str "back")) aNil)) aNil))))) (nSeq (nIf (cBin (bOrd fun i j => decide (j < i)) (sArgs fLen (aCons (sVar 5) aNil)) (sC c_MOST_ROWS)) (nSeq (nRaiseF C_TooLong "many" (sArgs fLen (aCons (sVar 5) aNil))) nNext) nNext) (nSeq (nExpr (sMtL mApp (sVar 1) (aCons (sArgs fTup (aCons (sVar 2) (aCons (sVar 3) (aCons (sArgs fTpl (aCons (sVar 5) aNil)) aNil)))) aNil))) nNext)))) (nSeq (nRet (sArgs fTpl (aCons (sVar 1) aNil))) nNext)))
def F_made (C_MADE : Addr) (C_TooLong : Addr) (C_rows_of_if : Addr) (C_rows_of_plain : Addr) (C_rows_of_set : Addr) (C_rows_of_try : Addr) (C_rows_of_while : Addr) : List Val → M Val := runB 6 (m_made C_MADE C_TooLong C_rows_of_if C_rows_of_plain C_rows_of_set C_rows_of_try C_rows_of_while)
theorem e_made (C_MADE : Addr) (C_TooLong : Addr) (C_rows_of_if : Addr) (C_rows_of_plain : Addr) (C_rows_of_set : Addr) (C_rows_of_try : Addr) (C_rows_of_while : Addr) (a0 : Val) (h : HH) : F_made C_MADE C_TooLong C_rows_of_if C_rows_of_plain C_rows_of_set C_rows_of_try C_rows_of_while [a0] h = outOf (m_made C_MADE C_TooLong C_rows_of_if C_rows_of_plain C_rows_of_set C_rows_of_try C_rows_of_while [some a0, none, none, none, none, none] h) := rfl
def m__law_bag : SS := (nSeq (nSet 2 (sC (.int 0))) (nSeq (nIf (cBin (bOrd fun i j => decide (i < j)) (sVar 1) (sArgs fLen (aCons (sVar 0) aNil))) (nSeq (nSet 2 (sArgs fAbs (aCons (sBin bIx (sVar 0) (sVar 1)) aNil))) nNext) nNext) (nSeq (nSet 3 (sBin bMod (sBin bPow (sBin bAdd (sBin bAdd (sBin bMod (sVar 2) (sC (.int 2147483629))) (sBin bMul (sC (.int 104729)) (sVar 1))) (sC (.int 17))) (sC (.int 5))) (sC (.int 2147483647)))) (nSeq (nFor (iRgN 1 (aCons (sArgs fMin (aCons (sArgs fLen (aCons (sVar 0) aNil)) (aCons (sC (.int 60)) aNil))) aNil)) (gNm 4) (nSeq (nSet 3 (sBin bMod (sBin bAdd (sBin bAdd (sBin bMul (sVar 3) (sC (.int 48271))) (sBin bMul (sBin bMod (sBin bIx (sVar 0) (sVar 4)) (sC (.int 2147483587))) (sBin bAdd (sVar 4) (sC (.int 3))))) (sVar 4)) (sC (.int 2147483629)))) nNext)) (nSeq (nIf (cBin (bOrd fun i j => decide (i < j)) (sVar 2) (sBin bPow (sC (.int 10)) (sC (.int 18)))) (nSeq (nSet 2 (sC (.int 0))) nNext) nNext) (nSeq (nRet (sArgs fNew (aCons (sVar 2) (aCons (sVar 3) aNil)))) nNext))))))
def F__law_bag : List Val → M Val := runB 5 m__law_bag
theorem e__law_bag (a0 a1 : Val) (h : HH) : F__law_bag [a0, a1] h = outOf (m__law_bag [some a0, some a1, none, none, none] h) := rfl
def m__law_take : SS := (nSeq (nIf (cBin (bOrd fun i j => decide (j < i)) (sBin bIx (sVar 0) (sC (.int 0))) (sC (.int 0))) (nSeq (nSet 2 (sBin bMod (sBin bIx (sVar 0) (sC (.int 0))) (sVar 1))) (nSeq (nAsg (sBin bDiv (sBin bIx (sVar 0) (sC (.int 0))) (sVar 1)) (gSb (sVar 0) (sC (.int 0)))) (nSeq (nRet (sVar 2)) nNext))) nNext) (nSeq (nAsg (sBin bMod (sBin bAdd (sBin bMul (sBin bIx (sVar 0) (sC (.int 1))) (sC (.int 48271))) (sC (.int 7919))) (sC (.int 2147483647))) (gSb (sVar 0) (sC (.int 1)))) (nSeq (nRet (sBin bMod (sBin bMod (sBin bMul (sBin bDiv (sBin bMod (sBin bPow (sBin bIx (sVar 0) (sC (.int 1))) (sC (.int 3))) (sC (.int 2147483587))) (sC (.int 7))) (sC (.int 69621))) (sC (.int 1073741789))) (sVar 1))) nNext)))
def F__law_take : List Val → M Val := runB 3 m__law_take
theorem e__law_take (a0 a1 : Val) (h : HH) : F__law_take [a0, a1] h = outOf (m__law_take [some a0, some a1, none] h) := rfl
def m__law_worth : SS := (nSeq (nSet 1 (sCall F__law_take 2 0 2 (fun ws _ => ws) (aCons (sVar 0) (aCons (sC (.int 8)) aNil)) aNil)) (nSeq (nIf (cBin (bOrd fun i j => decide (i < j)) (sVar 1) (sC (.int 7))) (nSeq (nRet (sBin bSub (sCall F__law_take 2 0 2 (fun ws _ => ws) (aCons (sVar 0) (aCons (sC (.int 9)) aNil)) aNil) (sC (.int 4)))) nNext) nNext) (nSeq (nSet 2 (sBin bIx (sArgs fLst (aCons (sBin bPow (sC (.int 10)) (sC (.int 12))) (aCons (sBin bPow (sC (.int 10)) (sC (.int 6))) (aCons (sBin bAdd (sBin bPow (sC (.int 10)) (sC (.int 11))) (sCall F__law_take 2 0 2 (fun ws _ => ws) (aCons (sVar 0) (aCons (sBin bPow (sC (.int 10)) (sC (.int 9))) aNil)) aNil)) aNil)))) (sCall F__law_take 2 0 2 (fun ws _ => ws) (aCons (sVar 0) (aCons (sC (.int 3)) aNil)) aNil))) (nSeq (nRet (sBin bMul (sVar 2) (sBin bIx (sArgs fLst (aCons (sC (.int 1)) (aCons (sUn uNeg (sC (.int 1))) aNil))) (sCall F__law_take 2 0 2 (fun ws _ => ws) (aCons (sVar 0) (aCons (sC (.int 2)) aNil)) aNil)))) nNext))))
def F__law_worth : List Val → M Val := runB 3 m__law_worth
theorem e__law_worth (a0 : Val) (h : HH) : F__law_worth [a0] h = outOf (m__law_worth [some a0, none, none] h) := rfl
def m__law_value (R__law_value : List Val → M Val) : SS := (nSeq (nSet 3 (sCall F__law_take 2 0 2 (fun ws _ => ws) (aCons (sVar 0) (aCons (sC (.int 12)) aNil)) aNil)) (nSeq (nIf (cBin (bOrd fun i j => decide (i < j)) (sVar 3) (sC (.int 3))) (nSeq (nRet (sCall F__law_worth 1 0 1 (fun ws _ => ws) (aCons (sVar 0) aNil) aNil)) nNext) nNext) (nSeq (nIf (cOr (cBin bEq (sVar 2) (sC (.int 1))) (cBin (bOrd fun i j => decide (i < j)) (sVar 3) (sC (.int 6)))) (nSeq (nRet (sArgs fTup (aCons (sC (.str "name")) (aCons (sBin bIx (sC (.str "nxyz")) (sCall F__law_take 2 0 2 (fun ws _ => ws) (aCons (sVar 0) (aCons (sC (.int 4)) aNil)) aNil)) aNil)))) nNext) nNext) (nSeq (nIf (cBin (bOrd fun i j => decide (i < j)) (sVar 3) (sC (.int 11))) (nSeq (nSet 5 (sBin bIx (sArgs fLst (aCons (sC (.str "add")) (aCons (sC (.str "less")) (aCons (sC (.str "times")) (aCons (sC (.str "over")) (aCons (sC (.str "same")) (aCons (sC (.str "below")) aNil))))))) (sCall F__law_take 2 0 2 (fun ws _ => ws) (aCons (sVar 0) (aCons (sC (.int 6)) aNil)) aNil))) (nSeq (nRet (sArgs fTup (aCons (sVar 5) (aCons (sCall R__law_value 3 0 3 (fun ws _ => ws) (aCons (sVar 0) (aCons (sVar 1) (aCons (sBin bSub (sVar 2) (sC (.int 1))) aNil))) aNil) (aCons (sCall R__law_value 3 0 3 (fun ws _ => ws) (aCons (sVar 0) (aCons (sVar 1) (aCons (sBin bSub (sVar 2) (sC (.int 1))) aNil))) aNil) aNil))))) nNext)) nNext) (nSeq (nSet 4 (sBin bIx (sArgs fSrtD (aCons (sVar 1) aNil)) (sCall F__law_take 2 0 2 (fun ws _ => ws) (aCons (sVar 0) (aCons (sArgs fLenD (aCons (sVar 1) aNil)) aNil)) aNil))) (nSeq (nRet (sArgs fTup (aCons (sC (.str "call")) (aCons (sVar 4) (aCons (sArgs fTpl (aCons (sLc (iRgN 1 (aCons (sBin bDGet (sVar 1) (sVar 4)) aNil)) (gNm 6) tYesZ (sCall R__law_value 3 0 3 (fun ws _ => ws) (aCons (sVar 0) (aCons (sVar 1) (aCons (sBin bSub (sVar 2) (sC (.int 1))) aNil))) aNil) [6]) aNil)) aNil))))) nNext))))))
def G__law_value : Nat → (List Val → M Val)
  | 0 => (fun _ => fail)
  | n + 1 => (runB 7 (m__law_value (G__law_value n)))
def F__law_value (n : Nat) : List Val → M Val := (G__law_value n)
theorem e__law_value (n : Nat) (a0 a1 a2 : Val) (h : HH) : F__law_value (n + 1) [a0, a1, a2] h = outOf (m__law_value (F__law_value n) [some a0, some a1, some a2, none, none, none, none] h) := rfl
def m__law_saying (R__law_saying R__law_sayings : List Val → M Val) : SS := (nSeq (nSet 4 (sCall F__law_take 2 0 2 (fun ws _ => ws) (aCons (sVar 0) (aCons (sC (.int 16)) aNil)) aNil)) (nSeq (nSet 5 (sCall (F__law_value 8) 3 0 3 (fun ws _ => ws) (aCons (sVar 0) (aCons (sVar 1) (aCons (sVar 3) aNil))) aNil)) (nSeq (nSet 6 (sBin bIx (sC (.str "nxyz")) (sCall F__law_take 2 0 2 (fun ws _ => ws) (aCons (sVar 0) (aCons (sC (.int 4)) aNil)) aNil))) (nSeq (nIf (cBin (bOrd fun i j => decide (i < j)) (sVar 4) (sC (.int 4))) (nSeq (nRet (sArgs fTup (aCons (sC (.str "set")) (aCons (sVar 6) (aCons (sVar 5) aNil))))) nNext) nNext) (nSeq (nIf (cOr (cBin (bOrd fun i j => decide (i < j)) (sVar 4) (sC (.int 7))) (cAnd (cBin bEq (sVar 2) (sC (.int 1))) (cBin (bOrd fun i j => decide (j < i)) (sVar 4) (sC (.int 8))))) (nSeq (nRet (sArgs fTup (aCons (sC (.str "say")) (aCons (sVar 5) aNil)))) nNext) nNext) (nSeq (nIf (cBin (bOrd fun i j => decide (i < j)) (sVar 4) (sC (.int 9))) (nSeq (nRet (sArgs fTup (aCons (sBin bIx (sArgs fLst (aCons (sC (.str "back")) (aCons (sC (.str "throw")) aNil))) (sBin bSub (sVar 4) (sC (.int 7)))) (aCons (sVar 5) aNil)))) nNext) nNext) (nSeq (nIf (cBin (bOrd fun i j => decide (i < j)) (sVar 4) (sC (.int 11))) (nSeq (nRet (sArgs fTup (aCons (sC (.str "if")) (aCons (sVar 5) (aCons (sCall R__law_sayings 4 0 4 (fun ws _ => ws) (aCons (sVar 0) (aCons (sVar 1) (aCons (sBin bSub (sVar 2) (sC (.int 1))) (aCons (sVar 3) aNil)))) aNil) (aCons (sCall R__law_sayings 4 0 4 (fun ws _ => ws) (aCons (sVar 0) (aCons (sVar 1) (aCons (sBin bSub (sVar 2) (sC (.int 1))) (aCons (sVar 3) aNil)))) aNil) aNil)))))) nNext) nNext) (nSeq (nIf (cBin bEq (sVar 4) (sC (.int 11))) (nSeq (nRet (sArgs fTup (aCons (sC (.str "while")) (aCons (sVar 5) (aCons (sCall R__law_sayings 4 0 4 (fun ws _ => ws) (aCons (sVar 0) (aCons (sVar 1) (aCons (sBin bSub (sVar 2) (sC (.int 1))) (aCons (sVar 3) aNil)))) aNil) aNil))))) nNext) nNext) (nSeq (nSet 7 (sCall R__law_sayings 4 0 4 (fun ws _ => ws) (aCons (sVar 0) (aCons (sVar 1) (aCons (sBin bSub (sVar 2) (sC (.int 1))) (aCons (sVar 3) aNil)))) aNil)) (nSeq (nIf (cBin (bOrd fun i j => decide (i < j)) (sVar 4) (sC (.int 14))) (nSeq (nRet (sArgs fTup (aCons (sC (.str "while")) (aCons (sArgs fTup (aCons (sC (.str "name")) (aCons (sVar 6) aNil))) (aCons (sBin bAdd (sSl (sVar 7) oNone (oSome (sC (.int 5)))) (sArgs fTup (aCons (sArgs fTup (aCons (sC (.str "set")) (aCons (sVar 6) (aCons (sArgs fTup (aCons (sC (.str "less")) (aCons (sArgs fTup (aCons (sC (.str "name")) (aCons (sVar 6) aNil))) (aCons (sC (.int 1)) aNil)))) aNil)))) aNil))) aNil))))) nNext) nNext) (nSeq (nRet (sArgs fTup (aCons (sC (.str "try")) (aCons (sVar 7) (aCons (sVar 6) (aCons (sCall R__law_sayings 4 0 4 (fun ws _ => ws) (aCons (sVar 0) (aCons (sVar 1) (aCons (sBin bSub (sVar 2) (sC (.int 1))) (aCons (sVar 3) aNil)))) aNil) aNil)))))) nNext)))))))))))
def m__law_sayings (R__law_saying R__law_sayings : List Val → M Val) : SS := (nSeq (nSet 4 (sCall F__law_take 2 0 2 (fun ws _ => ws) (aCons (sVar 0) (aCons (sBin bIx (sArgs fLst (aCons (sC (.int 4)) (aCons (sC (.int 4)) (aCons (sC (.int 4)) (aCons (sC (.int 3)) (aCons (sC (.int 3)) (aCons (sC (.int 3)) (aCons (sC (.int 3)) (aCons (sC (.int 7)) aNil))))))))) (sCall F__law_take 2 0 2 (fun ws _ => ws) (aCons (sVar 0) (aCons (sC (.int 8)) aNil)) aNil)) aNil)) aNil)) (nSeq (nRet (sArgs fTpl (aCons (sLc (iRgN 1 (aCons (sVar 4) aNil)) (gNm 5) tYesZ (sCall R__law_saying 4 0 4 (fun ws _ => ws) (aCons (sVar 0) (aCons (sVar 1) (aCons (sVar 2) (aCons (sVar 3) aNil)))) aNil) [5]) aNil))) nNext))
def G__law_saying : Nat → (List Val → M Val) × (List Val → M Val)
  | 0 => (fun _ => fail, fun _ => fail)
  | n + 1 => (runB 8 (m__law_saying (G__law_saying n).1 (G__law_saying n).2), runB 6 (m__law_sayings (G__law_saying n).1 (G__law_saying n).2))
def F__law_saying (n : Nat) : List Val → M Val := (G__law_saying n).1
def F__law_sayings (n : Nat) : List Val → M Val := (G__law_saying n).2
theorem e__law_saying (n : Nat) (a0 a1 a2 a3 : Val) (h : HH) : F__law_saying (n + 1) [a0, a1, a2, a3] h = outOf (m__law_saying (F__law_saying n) (F__law_sayings n) [some a0, some a1, some a2, some a3, none, none, none, none] h) := rfl
theorem e__law_sayings (n : Nat) (a0 a1 a2 a3 : Val) (h : HH) : F__law_sayings (n + 1) [a0, a1, a2, a3] h = outOf (m__law_sayings (F__law_saying n) (F__law_sayings n) [some a0, some a1, some a2, some a3, none, none] h) := rfl
def m__law_tree : SS := (nSeq (nSet 1 (sBin bIx (sArgs fLst (aCons (sC (.int 1)) (aCons (sC (.int 2)) (aCons (sC (.int 2)) (aCons (sC (.int 3)) (aCons (sC (.int 3)) (aCons (sC (.int 2)) (aCons (sC (.int 1)) (aCons (sC (.int 6)) aNil))))))))) (sCall F__law_take 2 0 2 (fun ws _ => ws) (aCons (sVar 0) (aCons (sC (.int 8)) aNil)) aNil))) (nSeq (nSet 2 (sSl (sArgs fLst (aCons (sC (.str "main")) (aCons (sC (.str "b")) (aCons (sC (.str "part")) (aCons (sC (.str "dd")) (aCons (sC (.str "eeeeeeee")) (aCons (sC (.str "f")) aNil))))))) oNone (oSome (sVar 1)))) (nSeq (nSet 3 sDNew) (nSeq (nFor (iVal (sVar 2)) (gNm 4) (nSeq (nDPut (sVar 3) (sVar 4) (sCall F__law_take 2 0 2 (fun ws _ => ws) (aCons (sVar 0) (aCons (sC (.int 4)) aNil)) aNil)) nNext)) (nSeq (nSet 5 (sArgs fNew aNil)) (nSeq (nFor (iVal (sVar 2)) (gNm 4) (nSeq (nAsg (sBin bIx (sArgs fLst (aCons (sArgs fTup (aCons (sC (.int 2)) (aCons (sC (.int 3)) aNil))) (aCons (sArgs fTup (aCons (sC (.int 3)) (aCons (sC (.int 2)) aNil))) (aCons (sArgs fTup (aCons (sC (.int 2)) (aCons (sC (.int 2)) aNil))) (aCons (sArgs fTup (aCons (sC (.int 1)) (aCons (sC (.int 4)) aNil))) (aCons (sArgs fTup (aCons (sC (.int 4)) (aCons (sC (.int 1)) aNil))) (aCons (sArgs fTup (aCons (sC (.int 2)) (aCons (sC (.int 3)) aNil))) aNil))))))) (sCall F__law_take 2 0 2 (fun ws _ => ws) (aCons (sVar 0) (aCons (sC (.int 6)) aNil)) aNil)) (gTp 2 (gsCons (gNm 6) (gsCons (gNm 7) gsNil)))) (nSeq (nSet 8 (sCall (F__law_sayings 16) 4 0 4 (fun ws _ => ws) (aCons (sVar 0) (aCons (sVar 3) (aCons (sVar 6) (aCons (sVar 7) aNil)))) aNil)) (nSeq (nIf (cBin bEq (sVar 8) (sArgs fTup aNil)) (nSeq (nSet 8 (sArgs fTup (aCons (sCall (F__law_saying 16) 4 0 4 (fun ws _ => ws) (aCons (sVar 0) (aCons (sVar 3) (aCons (sVar 6) (aCons (sVar 7) aNil)))) aNil) aNil))) nNext) nNext) (nSeq (nExpr (sMtL mApp (sVar 5) (aCons (sArgs fTup (aCons (sVar 4) (aCons (sSl (sArgs fTup (aCons (sC (.str "n")) (aCons (sC (.str "x")) (aCons (sC (.str "y")) aNil)))) oNone (oSome (sBin bDGet (sVar 3) (sVar 4)))) (aCons (sVar 8) aNil)))) aNil))) nNext))))) (nSeq (nRet (sArgs fTpl (aCons (sVar 5) aNil))) nNext)))))))
def F__law_tree : List Val → M Val := runB 9 m__law_tree
theorem e__law_tree (a0 : Val) (h : HH) : F__law_tree [a0] h = outOf (m__law_tree [some a0, none, none, none, none, none, none, none, none] h) := rfl
def m__law_emit_value (R__law_emit_value : List Val → M Val) : SS := (nSeq (nIf (cV (sArgs fIsi (aCons (sVar 1) (aCons (sC (.ty "int")) aNil)))) (nSeq (nExpr (sMtL mApp (sVar 0) (aCons (sArgs fTup (aCons (sC (.str "put")) (aCons (sVar 1) aNil))) aNil))) nNext) (nSeq (nIf (cBin bEq (sBin bIx (sVar 1) (sC (.int 0))) (sC (.str "name"))) (nSeq (nExpr (sMtL mApp (sVar 0) (aCons (sArgs fTup (aCons (sC (.str "get")) (aCons (sBin bIx (sVar 1) (sC (.int 1))) aNil))) aNil))) nNext) (nSeq (nIf (cBin bEq (sBin bIx (sVar 1) (sC (.int 0))) (sC (.str "call"))) (nSeq (nFor (iVal (sBin bIx (sVar 1) (sC (.int 2)))) (gNm 2) (nSeq (nExpr (sCall R__law_emit_value 2 0 2 (fun ws _ => ws) (aCons (sVar 0) (aCons (sVar 2) aNil)) aNil)) nNext)) (nSeq (nExpr (sMtL mApp (sVar 0) (aCons (sArgs fTup (aCons (sC (.str "call")) (aCons (sBin bIx (sVar 1) (sC (.int 1))) aNil))) aNil))) nNext)) (nSeq (nExpr (sCall R__law_emit_value 2 0 2 (fun ws _ => ws) (aCons (sVar 0) (aCons (sBin bIx (sVar 1) (sC (.int 1))) aNil)) aNil)) (nSeq (nExpr (sCall R__law_emit_value 2 0 2 (fun ws _ => ws) (aCons (sVar 0) (aCons (sBin bIx (sVar 1) (sC (.int 2))) aNil)) aNil)) (nSeq (nExpr (sMtL mApp (sVar 0) (aCons (sArgs fTup (aCons (sBin bIx (sVar 1) (sC (.int 0))) aNil)) aNil))) nNext)))) nNext)) nNext)) nNext)
def G__law_emit_value : Nat → (List Val → M Val)
  | 0 => (fun _ => fail)
  | n + 1 => (runB 3 (m__law_emit_value (G__law_emit_value n)))
def F__law_emit_value (n : Nat) : List Val → M Val := (G__law_emit_value n)
theorem e__law_emit_value (n : Nat) (a0 a1 : Val) (h : HH) : F__law_emit_value (n + 1) [a0, a1] h = outOf (m__law_emit_value (F__law_emit_value n) [some a0, some a1, none] h) := rfl
def m__law_emit_one (R__law_emit_one R__law_emit : List Val → M Val) : SS := (nSeq (nSet 2 (sBin bIx (sVar 1) (sC (.int 0)))) (nSeq (nSet 3 (sArgs fLen (aCons (sVar 0) aNil))) (nSeq (nIf (cBin bEq (sVar 2) (sC (.str "try"))) (nSeq (nExpr (sMtL mApp (sVar 0) (aCons (sC .non) aNil))) (nSeq (nExpr (sCall R__law_emit 2 0 2 (fun ws _ => ws) (aCons (sVar 0) (aCons (sBin bIx (sVar 1) (sC (.int 1))) aNil)) aNil)) (nSeq (nExpr (sMtL mExt (sVar 0) (aCons (sArgs fLst (aCons (sArgs fTup (aCons (sC (.str "done")) aNil)) (aCons (sC .non) (aCons (sArgs fTup (aCons (sC (.str "set")) (aCons (sBin bIx (sVar 1) (sC (.int 2))) aNil))) aNil)))) aNil))) (nSeq (nAsg (sArgs fTup (aCons (sC (.str "try")) (aCons (sBin bSub (sArgs fLen (aCons (sVar 0) aNil)) (sC (.int 1))) aNil))) (gSb (sVar 0) (sVar 3))) (nSeq (nSet 5 (sBin bSub (sArgs fLen (aCons (sVar 0) aNil)) (sC (.int 2)))) (nSeq (nExpr (sCall R__law_emit 2 0 2 (fun ws _ => ws) (aCons (sVar 0) (aCons (sBin bIx (sVar 1) (sC (.int 3))) aNil)) aNil)) (nSeq (nAsg (sArgs fTup (aCons (sC (.str "go")) (aCons (sArgs fLen (aCons (sVar 0) aNil)) aNil))) (gSb (sVar 0) (sVar 5))) (nSeq nRetN nNext)))))))) nNext) (nSeq (nExpr (sCall (F__law_emit_value 8) 2 0 2 (fun ws _ => ws) (aCons (sVar 0) (aCons (sBin bIx (sVar 1) (sBin bAdd (sC (.int 1)) (sArgs fInt (aCons (sBin bEq (sVar 2) (sC (.str "set"))) aNil)))) aNil)) aNil)) (nSeq (nSet 4 (sArgs fLen (aCons (sVar 0) aNil))) (nSeq (nIf (cBin bEq (sVar 2) (sC (.str "if"))) (nSeq (nExpr (sMtL mApp (sVar 0) (aCons (sC .non) aNil))) (nSeq (nExpr (sCall R__law_emit 2 0 2 (fun ws _ => ws) (aCons (sVar 0) (aCons (sBin bIx (sVar 1) (sC (.int 3))) aNil)) aNil)) (nSeq (nSet 5 (sArgs fLen (aCons (sVar 0) aNil))) (nSeq (nExpr (sMtL mApp (sVar 0) (aCons (sC .non) aNil))) (nSeq (nAsg (sArgs fTup (aCons (sC (.str "if")) (aCons (sArgs fLen (aCons (sVar 0) aNil)) aNil))) (gSb (sVar 0) (sVar 4))) (nSeq (nExpr (sCall R__law_emit 2 0 2 (fun ws _ => ws) (aCons (sVar 0) (aCons (sBin bIx (sVar 1) (sC (.int 2))) aNil)) aNil)) (nSeq (nAsg (sArgs fTup (aCons (sC (.str "go")) (aCons (sArgs fLen (aCons (sVar 0) aNil)) aNil))) (gSb (sVar 0) (sVar 5))) nNext))))))) (nSeq (nIf (cBin bEq (sVar 2) (sC (.str "while"))) (nSeq (nExpr (sMtL mExt (sVar 0) (aCons (sArgs fLst (aCons (sArgs fTup (aCons (sC (.str "if")) (aCons (sBin bAdd (sVar 4) (sC (.int 2))) aNil))) (aCons (sC .non) aNil))) aNil))) (nSeq (nExpr (sCall R__law_emit 2 0 2 (fun ws _ => ws) (aCons (sVar 0) (aCons (sBin bIx (sVar 1) (sC (.int 2))) aNil)) aNil)) (nSeq (nExpr (sMtL mApp (sVar 0) (aCons (sArgs fTup (aCons (sC (.str "go")) (aCons (sVar 3) aNil))) aNil))) (nSeq (nAsg (sArgs fTup (aCons (sC (.str "go")) (aCons (sArgs fLen (aCons (sVar 0) aNil)) aNil))) (gSb (sVar 0) (sBin bAdd (sVar 4) (sC (.int 1))))) nNext)))) (nSeq (nExpr (sMtL mApp (sVar 0) (aCons (sBin bAdd (sArgs fTup (aCons (sVar 2) aNil)) (sSl (sVar 1) (oSome (sC (.int 1))) (oSome (sUn uNeg (sC (.int 1)))))) aNil))) nNext)) nNext)) nNext))))))
def m__law_emit (R__law_emit_one R__law_emit : List Val → M Val) : SS := (nSeq (nFor (iVal (sVar 1)) (gNm 2) (nSeq (nExpr (sCall R__law_emit_one 2 0 2 (fun ws _ => ws) (aCons (sVar 0) (aCons (sVar 2) aNil)) aNil)) nNext)) nNext)
def G__law_emit_one : Nat → (List Val → M Val) × (List Val → M Val)
  | 0 => (fun _ => fail, fun _ => fail)
  | n + 1 => (runB 6 (m__law_emit_one (G__law_emit_one n).1 (G__law_emit_one n).2), runB 3 (m__law_emit (G__law_emit_one n).1 (G__law_emit_one n).2))
def F__law_emit_one (n : Nat) : List Val → M Val := (G__law_emit_one n).1
def F__law_emit (n : Nat) : List Val → M Val := (G__law_emit_one n).2
theorem e__law_emit_one (n : Nat) (a0 a1 : Val) (h : HH) : F__law_emit_one (n + 1) [a0, a1] h = outOf (m__law_emit_one (F__law_emit_one n) (F__law_emit n) [some a0, some a1, none, none, none, none] h) := rfl
theorem e__law_emit (n : Nat) (a0 a1 : Val) (h : HH) : F__law_emit (n + 1) [a0, a1] h = outOf (m__law_emit (F__law_emit_one n) (F__law_emit n) [some a0, some a1, none] h) := rfl
def m__law_rows : SS := (nSeq (nSet 1 (sArgs fNew aNil)) (nSeq (nExpr (sCall (F__law_emit 24) 2 0 2 (fun ws _ => ws) (aCons (sVar 1) (aCons (sVar 0) aNil)) aNil)) (nSeq (nRet (sArgs fTpl (aCons (sBin bAdd (sVar 1) (sArgs fLst (aCons (sArgs fTup (aCons (sC (.str "put")) (aCons (sC (.int 0)) aNil))) (aCons (sArgs fTup (aCons (sC (.str "back")) aNil)) aNil)))) aNil))) nNext)))
def F__law_rows : List Val → M Val := runB 2 m__law_rows
theorem e__law_rows (a0 : Val) (h : HH) : F__law_rows [a0] h = outOf (m__law_rows [some a0, none] h) := rfl
def m__law_short : SS := (nSeq (nSet 1 (sArgs fNew aNil)) (nSeq (nFor (iVal (sVar 0)) (gTp 3 (gsCons (gNm 2) (gsCons (gNm 3) (gsCons (gNm 4) gsNil)))) (nSeq (nWhile 9 (cBin (bOrd fun i j => decide (j < i)) (sArgs fLen (aCons (sCall F__law_rows 1 0 1 (fun ws _ => ws) (aCons (sVar 4) aNil) aNil) aNil)) (sC (.int 60))) (nSeq (nSet 4 (sSl (sVar 4) oNone (oSome (sUn uNeg (sC (.int 1)))))) nNext)) (nSeq (nExpr (sMtL mApp (sVar 1) (aCons (sArgs fTup (aCons (sVar 2) (aCons (sVar 3) (aCons (sVar 4) aNil)))) aNil))) nNext))) (nSeq (nRet (sArgs fTpl (aCons (sVar 1) aNil))) nNext)))
def F__law_short : List Val → M Val := runB 5 m__law_short
theorem e__law_short (a0 : Val) (h : HH) : F__law_short [a0] h = outOf (m__law_short [some a0, none, none, none, none] h) := rfl
def m__law_told (C_Busy : Addr) (C_MADE : Addr) (C_NoHook : Addr) (C_NoMark : Addr) (C_NoNumbers : Addr) (C_NoPart : Addr) (C_NoProgram : Addr) (C_NoRow : Addr) (C_NoText : Addr) (C_NoWord : Addr) (C_TooLong : Addr) (C_TooMany : Addr) (C_Unsound : Addr) (C_rows_of_if : Addr) (C_rows_of_plain : Addr) (C_rows_of_set : Addr) (C_rows_of_try : Addr) (C_rows_of_while : Addr) : SS := (nSeq (nTryM (nSeq (nRet (sCall (F_made C_MADE C_TooLong C_rows_of_if C_rows_of_plain C_rows_of_set C_rows_of_try C_rows_of_while) 1 0 1 (fun ws _ => ws) (aCons (sVar 0) aNil) aNil)) nNext) ((onlyN C_TooLong [], 1, fun e a dd => (nSeq (nSet 2 (sArgs (fIsX e a dd [(.glo C_NoHook), (.glo C_NoMark), (.glo C_NoNumbers), (.glo C_NoPart), (.glo C_NoProgram), (.glo C_NoRow), (.glo C_NoText), (.glo C_NoWord), (.glo C_TooMany), (.glo C_Busy)] false) (aCons (sVar 1) (aCons (sArgs fTup (aCons (sC (.glo C_NoHook)) (aCons (sC (.glo C_NoMark)) (aCons (sC (.glo C_NoNumbers)) (aCons (sC (.glo C_NoPart)) (aCons (sC (.glo C_NoProgram)) (aCons (sC (.glo C_NoRow)) (aCons (sC (.glo C_NoText)) (aCons (sC (.glo C_NoWord)) (aCons (sC (.glo C_TooMany)) (aCons (sC (.glo C_Busy)) aNil))))))))))) aNil)))) (nSeq (nIf (cOr (cV (sVar 2)) (cOr (cV (sArgs (fIsX e a dd [(.glo C_Unsound)] false) (aCons (sVar 1) (aCons (sC (.glo C_Unsound)) aNil)))) (cNot (cV (sArgs (fIsX e a dd [(.ty "OverflowError")] true) (aCons (sVar 1) (aCons (sC (.ty "OverflowError")) aNil))))))) (nSeq (nRet (sC (.str "another"))) nNext) nNext) (nSeq (nRet (sFld e a dd "many" (sVar 1))) nNext)))) :: [])) nNext)
def F__law_told (C_Busy : Addr) (C_MADE : Addr) (C_NoHook : Addr) (C_NoMark : Addr) (C_NoNumbers : Addr) (C_NoPart : Addr) (C_NoProgram : Addr) (C_NoRow : Addr) (C_NoText : Addr) (C_NoWord : Addr) (C_TooLong : Addr) (C_TooMany : Addr) (C_Unsound : Addr) (C_rows_of_if : Addr) (C_rows_of_plain : Addr) (C_rows_of_set : Addr) (C_rows_of_try : Addr) (C_rows_of_while : Addr) : List Val → M Val := runB 3 (m__law_told C_Busy C_MADE C_NoHook C_NoMark C_NoNumbers C_NoPart C_NoProgram C_NoRow C_NoText C_NoWord C_TooLong C_TooMany C_Unsound C_rows_of_if C_rows_of_plain C_rows_of_set C_rows_of_try C_rows_of_while)
theorem e__law_told (C_Busy : Addr) (C_MADE : Addr) (C_NoHook : Addr) (C_NoMark : Addr) (C_NoNumbers : Addr) (C_NoPart : Addr) (C_NoProgram : Addr) (C_NoRow : Addr) (C_NoText : Addr) (C_NoWord : Addr) (C_TooLong : Addr) (C_TooMany : Addr) (C_Unsound : Addr) (C_rows_of_if : Addr) (C_rows_of_plain : Addr) (C_rows_of_set : Addr) (C_rows_of_try : Addr) (C_rows_of_while : Addr) (a0 : Val) (h : HH) : F__law_told C_Busy C_MADE C_NoHook C_NoMark C_NoNumbers C_NoPart C_NoProgram C_NoRow C_NoText C_NoWord C_TooLong C_TooMany C_Unsound C_rows_of_if C_rows_of_plain C_rows_of_set C_rows_of_try C_rows_of_while [a0] h = outOf (m__law_told C_Busy C_MADE C_NoHook C_NoMark C_NoNumbers C_NoPart C_NoProgram C_NoRow C_NoText C_NoWord C_TooLong C_TooMany C_Unsound C_rows_of_if C_rows_of_plain C_rows_of_set C_rows_of_try C_rows_of_while [some a0, none, none] h) := rfl
def m__law_due : SS := (nSeq (nSet 1 (sArgs fNew aNil)) (nSeq (nFor (iVal (sVar 0)) (gTp 3 (gsCons (gNm 2) (gsCons (gNm 3) (gsCons (gNm 4) gsNil)))) (nSeq (nSet 5 (sCall F__law_rows 1 0 1 (fun ws _ => ws) (aCons (sVar 4) aNil) aNil)) (nSeq (nIf (cBin (bOrd fun i j => decide (j < i)) (sArgs fLen (aCons (sVar 5) aNil)) (sC (.int 60))) (nSeq (nRet (sArgs fLen (aCons (sVar 5) aNil))) nNext) nNext) (nSeq (nExpr (sMtL mApp (sVar 1) (aCons (sArgs fTup (aCons (sVar 2) (aCons (sVar 3) (aCons (sVar 5) aNil)))) aNil))) nNext)))) (nSeq (nRet (sArgs fTpl (aCons (sVar 1) aNil))) nNext)))
def F__law_due : List Val → M Val := runB 6 m__law_due
theorem e__law_due (a0 : Val) (h : HH) : F__law_due [a0] h = outOf (m__law_due [some a0, none, none, none, none, none] h) := rfl
def m__law_right (C_Busy : Addr) (C_MADE : Addr) (C_NoHook : Addr) (C_NoMark : Addr) (C_NoNumbers : Addr) (C_NoPart : Addr) (C_NoProgram : Addr) (C_NoRow : Addr) (C_NoText : Addr) (C_NoWord : Addr) (C_TooLong : Addr) (C_TooMany : Addr) (C_Unsound : Addr) (C_rows_of_if : Addr) (C_rows_of_plain : Addr) (C_rows_of_set : Addr) (C_rows_of_try : Addr) (C_rows_of_while : Addr) : SS := (nSeq (nSet 1 (sArgs fRepr (aCons (sCall F__law_due 1 0 1 (fun ws _ => ws) (aCons (sVar 0) aNil) aNil) aNil))) (nSeq (nSet 2 (sArgs fRepr (aCons (sVar 0) aNil))) (nSeq (nRet (sAnd (sBin bEq (sLc (iRgN 1 (aCons (sC (.int 2)) aNil)) (gNm 3) tYesZ (sArgs fRepr (aCons (sCall (F__law_told C_Busy C_MADE C_NoHook C_NoMark C_NoNumbers C_NoPart C_NoProgram C_NoRow C_NoText C_NoWord C_TooLong C_TooMany C_Unsound C_rows_of_if C_rows_of_plain C_rows_of_set C_rows_of_try C_rows_of_while) 1 0 1 (fun ws _ => ws) (aCons (sVar 0) aNil) aNil) aNil)) [3]) (sArgs fLst (aCons (sVar 1) (aCons (sVar 1) aNil)))) (sBin bEq (sArgs fRepr (aCons (sVar 0) aNil)) (sVar 2)))) nNext)))
def F__law_right (C_Busy : Addr) (C_MADE : Addr) (C_NoHook : Addr) (C_NoMark : Addr) (C_NoNumbers : Addr) (C_NoPart : Addr) (C_NoProgram : Addr) (C_NoRow : Addr) (C_NoText : Addr) (C_NoWord : Addr) (C_TooLong : Addr) (C_TooMany : Addr) (C_Unsound : Addr) (C_rows_of_if : Addr) (C_rows_of_plain : Addr) (C_rows_of_set : Addr) (C_rows_of_try : Addr) (C_rows_of_while : Addr) : List Val → M Val := runB 4 (m__law_right C_Busy C_MADE C_NoHook C_NoMark C_NoNumbers C_NoPart C_NoProgram C_NoRow C_NoText C_NoWord C_TooLong C_TooMany C_Unsound C_rows_of_if C_rows_of_plain C_rows_of_set C_rows_of_try C_rows_of_while)
theorem e__law_right (C_Busy : Addr) (C_MADE : Addr) (C_NoHook : Addr) (C_NoMark : Addr) (C_NoNumbers : Addr) (C_NoPart : Addr) (C_NoProgram : Addr) (C_NoRow : Addr) (C_NoText : Addr) (C_NoWord : Addr) (C_TooLong : Addr) (C_TooMany : Addr) (C_Unsound : Addr) (C_rows_of_if : Addr) (C_rows_of_plain : Addr) (C_rows_of_set : Addr) (C_rows_of_try : Addr) (C_rows_of_while : Addr) (a0 : Val) (h : HH) : F__law_right C_Busy C_MADE C_NoHook C_NoMark C_NoNumbers C_NoPart C_NoProgram C_NoRow C_NoText C_NoWord C_TooLong C_TooMany C_Unsound C_rows_of_if C_rows_of_plain C_rows_of_set C_rows_of_try C_rows_of_while [a0] h = outOf (m__law_right C_Busy C_MADE C_NoHook C_NoMark C_NoNumbers C_NoPart C_NoProgram C_NoRow C_NoText C_NoWord C_TooLong C_TooMany C_Unsound C_rows_of_if C_rows_of_plain C_rows_of_set C_rows_of_try C_rows_of_while [some a0, none, none, none] h) := rfl
def m__law_balanced (R__law_balanced : List Val → M Val) : SS := (nSeq (nIf (cBin bEq (sVar 0) (sC (.int 1))) (nSeq (nRet (sArgs fTup (aCons (sC (.str "name")) (aCons (sC (.str "n")) aNil)))) nNext) nNext) (nSeq (nRet (sArgs fTup (aCons (sC (.str "less")) (aCons (sCall R__law_balanced 1 0 1 (fun ws _ => ws) (aCons (sBin bDiv (sVar 0) (sC (.int 2))) aNil) aNil) (aCons (sCall R__law_balanced 1 0 1 (fun ws _ => ws) (aCons (sBin bSub (sVar 0) (sBin bDiv (sVar 0) (sC (.int 2)))) aNil) aNil) aNil))))) nNext))
def G__law_balanced : Nat → (List Val → M Val)
  | 0 => (fun _ => fail)
  | n + 1 => (runB 1 (m__law_balanced (G__law_balanced n)))
def F__law_balanced (n : Nat) : List Val → M Val := (G__law_balanced n)
theorem e__law_balanced (n : Nat) (a0 : Val) (h : HH) : F__law_balanced (n + 1) [a0] h = outOf (m__law_balanced (F__law_balanced n) [some a0] h) := rfl
def m_law (C_Busy : Addr) (C_MADE : Addr) (C_NoHook : Addr) (C_NoMark : Addr) (C_NoNumbers : Addr) (C_NoPart : Addr) (C_NoProgram : Addr) (C_NoRow : Addr) (C_NoText : Addr) (C_NoWord : Addr) (C_TooLong : Addr) (C_TooMany : Addr) (C_Unsound : Addr) (C_rows_of_if : Addr) (C_rows_of_plain : Addr) (C_rows_of_set : Addr) (C_rows_of_try : Addr) (C_rows_of_while : Addr) : SS := (nSeq (nFor (iRgN 1 (aCons (sArgs fMax (aCons (sC (.int 2)) (aCons (sArgs fMin (aCons (sC (.int 4)) (aCons (sArgs fLen (aCons (sVar 0) aNil)) aNil))) aNil))) aNil)) (gNm 1) (nSeq (nSet 5 (sCall F__law_tree 1 0 1 (fun ws _ => ws) (aCons (sCall F__law_bag 2 0 2 (fun ws _ => ws) (aCons (sVar 0) (aCons (sVar 1) aNil)) aNil) aNil) aNil)) (nSeq (nSet 6 (sCall F__law_short 1 0 1 (fun ws _ => ws) (aCons (sVar 5) aNil) aNil)) (nSeq (nIf (cOr (cNot (cV (sCall (F__law_right C_Busy C_MADE C_NoHook C_NoMark C_NoNumbers C_NoPart C_NoProgram C_NoRow C_NoText C_NoWord C_TooLong C_TooMany C_Unsound C_rows_of_if C_rows_of_plain C_rows_of_set C_rows_of_try C_rows_of_while) 1 0 1 (fun ws _ => ws) (aCons (sVar 5) aNil) aNil))) (cOr (cNot (cV (sCall (F__law_right C_Busy C_MADE C_NoHook C_NoMark C_NoNumbers C_NoPart C_NoProgram C_NoRow C_NoText C_NoWord C_TooLong C_TooMany C_Unsound C_rows_of_if C_rows_of_plain C_rows_of_set C_rows_of_try C_rows_of_while) 1 0 1 (fun ws _ => ws) (aCons (sVar 6) aNil) aNil))) (cNot (cV (sArgs fIsi (aCons (sCall (F__law_told C_Busy C_MADE C_NoHook C_NoMark C_NoNumbers C_NoPart C_NoProgram C_NoRow C_NoText C_NoWord C_TooLong C_TooMany C_Unsound C_rows_of_if C_rows_of_plain C_rows_of_set C_rows_of_try C_rows_of_while) 1 0 1 (fun ws _ => ws) (aCons (sVar 6) aNil) aNil) (aCons (sC (.ty "tuple")) aNil))))))) (nSeq (nRet (sC (.bl false))) nNext) nNext) nNext)))) (nSeq (nSet 2 (sBin bMulT (sArgs fTup (aCons (sArgs fTup (aCons (sC (.str "say")) (aCons (sCall (F__law_balanced 6) 1 0 1 (fun ws _ => ws) (aCons (sC (.int 8)) aNil) aNil) aNil))) aNil)) (sC (.int 3)))) (nSeq (nSet 3 (sArgs fLst (aCons (sArgs fTup (aCons (sC (.str "say")) (aCons (sCall (F__law_balanced 6) 1 0 1 (fun ws _ => ws) (aCons (sC (.int 5)) aNil) aNil) aNil))) (aCons (sArgs fTup (aCons (sC (.str "if")) (aCons (sCall (F__law_balanced 6) 1 0 1 (fun ws _ => ws) (aCons (sC (.int 5)) aNil) aNil) (aCons (sArgs fTup aNil) (aCons (sArgs fTup aNil) aNil))))) (aCons (sArgs fTup (aCons (sC (.str "while")) (aCons (sCall (F__law_balanced 6) 1 0 1 (fun ws _ => ws) (aCons (sC (.int 4)) aNil) aNil) (aCons (sArgs fTup aNil) aNil)))) aNil))))) (nSeq (nSet 3 (sBin bAdd (sVar 3) (sArgs fLst (aCons (sArgs fTup (aCons (sC (.str "while")) (aCons (sCall (F__law_balanced 6) 1 0 1 (fun ws _ => ws) (aCons (sC (.int 5)) aNil) aNil) (aCons (sArgs fTup aNil) aNil)))) (aCons (sArgs fTup (aCons (sC (.str "try")) (aCons (sVar 2) (aCons (sC (.str "n")) (aCons (sSl (sVar 2) oNone (oSome (sC (.int 1)))) aNil))))) (aCons (sArgs fTup (aCons (sC (.str "if")) (aCons (sC (.int 1)) (aCons (sVar 2) (aCons (sArgs fTup aNil) aNil))))) aNil)))))) (nSeq (nFor (iVal (sVar 3)) (gNm 4) (nSeq (nSet 7 (sArgs fTup (aCons (sC (.str "main")) (aCons (sArgs fTup (aCons (sC (.str "n")) aNil)) (aCons (sBin bAdd (sVar 2) (sArgs fTup (aCons (sVar 4) aNil))) aNil))))) (nSeq (nSet 8 (sArgs fTup (aCons (sC (.str "b")) (aCons (sArgs fTup aNil) (aCons (sBin bAdd (sVar 2) (sVar 2)) aNil))))) (nSeq (nFor (iVal (sArgs fLst (aCons (sArgs fTup (aCons (sVar 7) aNil)) (aCons (sArgs fTup (aCons (sVar 7) (aCons (sArgs fTup (aCons (sC (.str "b")) (aCons (sArgs fTup aNil) (aCons (sArgs fTup aNil) aNil)))) aNil))) (aCons (sArgs fTup (aCons (sVar 7) (aCons (sVar 8) aNil))) (aCons (sArgs fTup (aCons (sVar 8) (aCons (sVar 7) aNil))) (aCons (sArgs fTup (aCons (sArgs fTup (aCons (sC (.str "b")) (aCons (sArgs fTup aNil) (aCons (sSl (sVar 2) oNone (oSome (sC (.int 1)))) aNil)))) (aCons (sVar 7) aNil))) aNil))))))) (gNm 5) (nSeq (nIf (cNot (cV (sCall (F__law_right C_Busy C_MADE C_NoHook C_NoMark C_NoNumbers C_NoPart C_NoProgram C_NoRow C_NoText C_NoWord C_TooLong C_TooMany C_Unsound C_rows_of_if C_rows_of_plain C_rows_of_set C_rows_of_try C_rows_of_while) 1 0 1 (fun ws _ => ws) (aCons (sVar 5) aNil) aNil))) (nSeq (nRet (sC (.bl false))) nNext) nNext) nNext)) nNext)))) (nSeq (nRet (sC (.bl true))) nNext))))))
def F_law (C_Busy : Addr) (C_MADE : Addr) (C_NoHook : Addr) (C_NoMark : Addr) (C_NoNumbers : Addr) (C_NoPart : Addr) (C_NoProgram : Addr) (C_NoRow : Addr) (C_NoText : Addr) (C_NoWord : Addr) (C_TooLong : Addr) (C_TooMany : Addr) (C_Unsound : Addr) (C_rows_of_if : Addr) (C_rows_of_plain : Addr) (C_rows_of_set : Addr) (C_rows_of_try : Addr) (C_rows_of_while : Addr) : List Val → M Val := runB 9 (m_law C_Busy C_MADE C_NoHook C_NoMark C_NoNumbers C_NoPart C_NoProgram C_NoRow C_NoText C_NoWord C_TooLong C_TooMany C_Unsound C_rows_of_if C_rows_of_plain C_rows_of_set C_rows_of_try C_rows_of_while)
theorem e_law (C_Busy : Addr) (C_MADE : Addr) (C_NoHook : Addr) (C_NoMark : Addr) (C_NoNumbers : Addr) (C_NoPart : Addr) (C_NoProgram : Addr) (C_NoRow : Addr) (C_NoText : Addr) (C_NoWord : Addr) (C_TooLong : Addr) (C_TooMany : Addr) (C_Unsound : Addr) (C_rows_of_if : Addr) (C_rows_of_plain : Addr) (C_rows_of_set : Addr) (C_rows_of_try : Addr) (C_rows_of_while : Addr) (a0 : Val) (h : HH) : F_law C_Busy C_MADE C_NoHook C_NoMark C_NoNumbers C_NoPart C_NoProgram C_NoRow C_NoText C_NoWord C_TooLong C_TooMany C_Unsound C_rows_of_if C_rows_of_plain C_rows_of_set C_rows_of_try C_rows_of_while [a0] h = outOf (m_law C_Busy C_MADE C_NoHook C_NoMark C_NoNumbers C_NoPart C_NoProgram C_NoRow C_NoText C_NoWord C_TooLong C_TooMany C_Unsound C_rows_of_if C_rows_of_plain C_rows_of_set C_rows_of_try C_rows_of_while [some a0, none, none, none, none, none, none, none, none] h) := rfl
end
end K08
set_option Elab.async false
set_option maxRecDepth 100000
set_option linter.unusedVariables false
namespace K08
open PySem PySem.Spec PyProof.Rows L2 Z
def top (i : Nat) : Stmt := PySem.Challenge.pw_watchedrun_k08_trees_made.main.body.getD i (.Pass ⟨0, 0, 0, 0⟩)
set_option maxHeartbeats 0
def D15 : {s : Stmt // s = top 15} := ⟨_, by conv => { rhs; whnf }⟩
def D16 : {s : Stmt // s = top 16} := ⟨_, by conv => { rhs; whnf }⟩
def D17 : {s : Stmt // s = top 17} := ⟨_, by conv => { rhs; whnf }⟩
def D18 : {s : Stmt // s = top 18} := ⟨_, by conv => { rhs; whnf }⟩
def D19 : {s : Stmt // s = top 19} := ⟨_, by conv => { rhs; whnf }⟩
def D20 : {s : Stmt // s = top 20} := ⟨_, by conv => { rhs; whnf }⟩
def D22 : {s : Stmt // s = top 22} := ⟨_, by conv => { rhs; whnf }⟩
def D23 : {s : Stmt // s = top 23} := ⟨_, by conv => { rhs; whnf }⟩
def D25 : {s : Stmt // s = top 25} := ⟨_, by conv => { rhs; whnf }⟩
def D26 : {s : Stmt // s = top 26} := ⟨_, by conv => { rhs; whnf }⟩
def D27 : {s : Stmt // s = top 27} := ⟨_, by conv => { rhs; whnf }⟩
def D28 : {s : Stmt // s = top 28} := ⟨_, by conv => { rhs; whnf }⟩
def D29 : {s : Stmt // s = top 29} := ⟨_, by conv => { rhs; whnf }⟩
def D30 : {s : Stmt // s = top 30} := ⟨_, by conv => { rhs; whnf }⟩
def D31 : {s : Stmt // s = top 31} := ⟨_, by conv => { rhs; whnf }⟩
def D33 : {s : Stmt // s = top 33} := ⟨_, by conv => { rhs; whnf }⟩
def D34 : {s : Stmt // s = top 34} := ⟨_, by conv => { rhs; whnf }⟩
def D35 : {s : Stmt // s = top 35} := ⟨_, by conv => { rhs; whnf }⟩
def D36 : {s : Stmt // s = top 36} := ⟨_, by conv => { rhs; whnf }⟩
def D37 : {s : Stmt // s = top 37} := ⟨_, by conv => { rhs; whnf }⟩
def D38 : {s : Stmt // s = top 38} := ⟨_, by conv => { rhs; whnf }⟩
def D39 : {s : Stmt // s = top 39} := ⟨_, by conv => { rhs; whnf }⟩
def D40 : {s : Stmt // s = top 40} := ⟨_, by conv => { rhs; whnf }⟩
def D41 : {s : Stmt // s = top 41} := ⟨_, by conv => { rhs; whnf }⟩
def D42 : {s : Stmt // s = top 42} := ⟨_, by conv => { rhs; whnf }⟩
structure Txt (w : World) (K : PySem.W.Frag) (mg : Str → Option Value) where
  g_OverflowError : mg "OverflowError" = none
  g_abs : mg "abs" = none
  g_int : mg "int" = none
  g_isinstance : mg "isinstance" = none
  g_len : mg "len" = none
  g_max : mg "max" = none
  g_min : mg "min" = none
  g_range : mg "range" = none
  g_repr : mg "repr" = none
  g_sorted : mg "sorted" = none
  g_tuple : mg "tuple" = none
  k_MOST_ROWS : Cst K mg "MOST_ROWS" c_MOST_ROWS
  C_MADE : Addr
  g_MADE : mg "MADE" = some (.ref C_MADE)
  d_MADE : ∃ es n, L2.KDict K w C_MADE es n
  da_MADE : ∀ z, z ∉ keys_MADE → PySem.W.nsIn K C_MADE z = some none
  C_TooLong : Addr
  n_TooLong : mg "TooLong" = some (.ref C_TooLong)
  C_Unsound : Addr
  n_Unsound : mg "Unsound" = some (.ref C_Unsound)
  C_NoHook : Addr
  n_NoHook : mg "NoHook" = some (.ref C_NoHook)
  C_NoMark : Addr
  n_NoMark : mg "NoMark" = some (.ref C_NoMark)
  C_NoNumbers : Addr
  n_NoNumbers : mg "NoNumbers" = some (.ref C_NoNumbers)
  C_NoPart : Addr
  n_NoPart : mg "NoPart" = some (.ref C_NoPart)
  C_NoProgram : Addr
  n_NoProgram : mg "NoProgram" = some (.ref C_NoProgram)
  C_NoRow : Addr
  n_NoRow : mg "NoRow" = some (.ref C_NoRow)
  C_NoText : Addr
  n_NoText : mg "NoText" = some (.ref C_NoText)
  C_NoWord : Addr
  n_NoWord : mg "NoWord" = some (.ref C_NoWord)
  C_TooMany : Addr
  n_TooMany : mg "TooMany" = some (.ref C_TooMany)
  C_Busy : Addr
  n_Busy : mg "Busy" = some (.ref C_Busy)
  I_TooLong : Addr
  nt_TooLong : PySem.NX_TooLong.XTxt K mg C_TooLong I_TooLong
  x_TooLong : L2.ExcC K C_TooLong
  i_0 : PySem.W.kitAny K (.ref C_TooLong) [.ref C_Unsound] = some false
  i_1 : PySem.W.kitAny K (.ref C_TooLong) [.type "OverflowError"] = some true
  i_2 : PySem.W.kitAny K (.ref C_TooLong) [.ref C_NoHook, .ref C_NoMark, .ref C_NoNumbers, .ref C_NoPart, .ref C_NoProgram, .ref C_NoRow, .ref C_NoText, .ref C_NoWord, .ref C_TooMany, .ref C_Busy] = some false
  a_rows_of_value : Addr
  d_rows_of_value : FuncData
  F_rows_of_value : Fun K "rows_of_value" "rows_of_value" D15.1 a_rows_of_value d_rows_of_value
  g_rows_of_value : mg "rows_of_value" = some (.ref a_rows_of_value)
  a_rows_of_plain : Addr
  d_rows_of_plain : FuncData
  F_rows_of_plain : Fun K "rows_of_plain" "rows_of_plain" D16.1 a_rows_of_plain d_rows_of_plain
  g_rows_of_plain : mg "rows_of_plain" = some (.ref a_rows_of_plain)
  a_rows_of_set : Addr
  d_rows_of_set : FuncData
  F_rows_of_set : Fun K "rows_of_set" "rows_of_set" D17.1 a_rows_of_set d_rows_of_set
  g_rows_of_set : mg "rows_of_set" = some (.ref a_rows_of_set)
  a_rows_of_if : Addr
  d_rows_of_if : FuncData
  F_rows_of_if : Fun K "rows_of_if" "rows_of_if" D18.1 a_rows_of_if d_rows_of_if
  g_rows_of_if : mg "rows_of_if" = some (.ref a_rows_of_if)
  a_rows_of_while : Addr
  d_rows_of_while : FuncData
  F_rows_of_while : Fun K "rows_of_while" "rows_of_while" D19.1 a_rows_of_while d_rows_of_while
  g_rows_of_while : mg "rows_of_while" = some (.ref a_rows_of_while)
  a_rows_of_try : Addr
  d_rows_of_try : FuncData
  F_rows_of_try : Fun K "rows_of_try" "rows_of_try" D20.1 a_rows_of_try d_rows_of_try
  g_rows_of_try : mg "rows_of_try" = some (.ref a_rows_of_try)
  a_rows_of_sayings : Addr
  d_rows_of_sayings : FuncData
  F_rows_of_sayings : Fun K "rows_of_sayings" "rows_of_sayings" D22.1 a_rows_of_sayings d_rows_of_sayings
  g_rows_of_sayings : mg "rows_of_sayings" = some (.ref a_rows_of_sayings)
  a_made : Addr
  d_made : FuncData
  F_made : Fun K "made" "made" D23.1 a_made d_made
  g_made : mg "made" = some (.ref a_made)
  a__law_bag : Addr
  d__law_bag : FuncData
  F__law_bag : Fun K "_law_bag" "_law_bag" D25.1 a__law_bag d__law_bag
  g__law_bag : mg "_law_bag" = some (.ref a__law_bag)
  a__law_take : Addr
  d__law_take : FuncData
  F__law_take : Fun K "_law_take" "_law_take" D26.1 a__law_take d__law_take
  g__law_take : mg "_law_take" = some (.ref a__law_take)
  a__law_worth : Addr
  d__law_worth : FuncData
  F__law_worth : Fun K "_law_worth" "_law_worth" D27.1 a__law_worth d__law_worth
  g__law_worth : mg "_law_worth" = some (.ref a__law_worth)
  a__law_value : Addr
  d__law_value : FuncData
  F__law_value : Fun K "_law_value" "_law_value" D28.1 a__law_value d__law_value
  g__law_value : mg "_law_value" = some (.ref a__law_value)
  a__law_saying : Addr
  d__law_saying : FuncData
  F__law_saying : Fun K "_law_saying" "_law_saying" D29.1 a__law_saying d__law_saying
  g__law_saying : mg "_law_saying" = some (.ref a__law_saying)
  a__law_sayings : Addr
  d__law_sayings : FuncData
  F__law_sayings : Fun K "_law_sayings" "_law_sayings" D30.1 a__law_sayings d__law_sayings
  g__law_sayings : mg "_law_sayings" = some (.ref a__law_sayings)
  a__law_tree : Addr
  d__law_tree : FuncData
  F__law_tree : Fun K "_law_tree" "_law_tree" D31.1 a__law_tree d__law_tree
  g__law_tree : mg "_law_tree" = some (.ref a__law_tree)
  a__law_emit_value : Addr
  d__law_emit_value : FuncData
  F__law_emit_value : Fun K "_law_emit_value" "_law_emit_value" D33.1 a__law_emit_value d__law_emit_value
  g__law_emit_value : mg "_law_emit_value" = some (.ref a__law_emit_value)
  a__law_emit_one : Addr
  d__law_emit_one : FuncData
  F__law_emit_one : Fun K "_law_emit_one" "_law_emit_one" D34.1 a__law_emit_one d__law_emit_one
  g__law_emit_one : mg "_law_emit_one" = some (.ref a__law_emit_one)
  a__law_emit : Addr
  d__law_emit : FuncData
  F__law_emit : Fun K "_law_emit" "_law_emit" D35.1 a__law_emit d__law_emit
  g__law_emit : mg "_law_emit" = some (.ref a__law_emit)
  a__law_rows : Addr
  d__law_rows : FuncData
  F__law_rows : Fun K "_law_rows" "_law_rows" D36.1 a__law_rows d__law_rows
  g__law_rows : mg "_law_rows" = some (.ref a__law_rows)
  a__law_short : Addr
  d__law_short : FuncData
  F__law_short : Fun K "_law_short" "_law_short" D37.1 a__law_short d__law_short
  g__law_short : mg "_law_short" = some (.ref a__law_short)
  a__law_told : Addr
  d__law_told : FuncData
  F__law_told : Fun K "_law_told" "_law_told" D38.1 a__law_told d__law_told
  g__law_told : mg "_law_told" = some (.ref a__law_told)
  a__law_due : Addr
  d__law_due : FuncData
  F__law_due : Fun K "_law_due" "_law_due" D39.1 a__law_due d__law_due
  g__law_due : mg "_law_due" = some (.ref a__law_due)
  a__law_right : Addr
  d__law_right : FuncData
  F__law_right : Fun K "_law_right" "_law_right" D40.1 a__law_right d__law_right
  g__law_right : mg "_law_right" = some (.ref a__law_right)
  a__law_balanced : Addr
  d__law_balanced : FuncData
  F__law_balanced : Fun K "_law_balanced" "_law_balanced" D41.1 a__law_balanced d__law_balanced
  g__law_balanced : mg "_law_balanced" = some (.ref a__law_balanced)
  a_law : Addr
  d_law : FuncData
  F_law : Fun K "law" "law" D42.1 a_law d_law
  g_law : mg "law" = some (.ref a_law)
  y_MADE_set : PySem.W.nsIn K C_MADE "set" = some (some (.ref a_rows_of_set))
  y_MADE_say : PySem.W.nsIn K C_MADE "say" = some (some (.ref a_rows_of_plain))
  y_MADE_back : PySem.W.nsIn K C_MADE "back" = some (some (.ref a_rows_of_plain))
  y_MADE_throw : PySem.W.nsIn K C_MADE "throw" = some (some (.ref a_rows_of_plain))
  y_MADE_if : PySem.W.nsIn K C_MADE "if" = some (some (.ref a_rows_of_if))
  y_MADE_while : PySem.W.nsIn K C_MADE "while" = some (some (.ref a_rows_of_while))
  y_MADE_try : PySem.W.nsIn K C_MADE "try" = some (some (.ref a_rows_of_try))
set_option maxHeartbeats 400000
theorem kvs_MADE {w : World} {K : PySem.W.Frag} {mg : Str → Option Value} (T : Txt w K mg) : ∀ q ∈ kv_MADE T.a_rows_of_if T.a_rows_of_plain T.a_rows_of_set T.a_rows_of_try T.a_rows_of_while, PySem.W.nsIn K T.C_MADE q.1 = some (some (.ref q.2)) := by
  intro q hq
  simp only [kv_MADE, List.mem_cons, List.not_mem_nil, or_false] at hq
  rcases hq with rfl | rfl | rfl | rfl | rfl | rfl | rfl
  · exact T.y_MADE_set
  · exact T.y_MADE_say
  · exact T.y_MADE_back
  · exact T.y_MADE_throw
  · exact T.y_MADE_if
  · exact T.y_MADE_while
  · exact T.y_MADE_try
section
variable {P : Program} {w : World} {K : PySem.W.Frag} {mg : Str → Option Value} {base : Heap}
theorem s_rows_of_value : FnScope ["value", "word", "within", "last", "one", "row"] ["value"] (defScope D15.1) := ⟨rfl, rfl, rfl, by decide +kernel, rfl, by decide +kernel, by decide +kernel⟩
theorem bz_rows_of_value (T : Txt w K mg) : KBz K T.d_rows_of_value ["value"] 1 [] (fun ws _ => ws) := kbz_pos (T.F_rows_of_value.binds fun _ _ _ _ _ _ us hl => match us, hl with | [_], _ => rfl)
theorem okg_rows_of_value (T : Txt w K mg) : ∀ n, FnG P w K mg base (L2.CX P w) (1 + n) T.a_rows_of_value T.d_rows_of_value ["value"] (spF K ["value"].length (F_rows_of_value n))
  | 0 => ⟨fun _ _ _ _ ⟨_, _, _, _, _, _, _, p⟩ => p.elim, fun _ _ _ _ _ _ _ _ _ _ _ _ _ ⟨_, _, _, _, _, _, _, p⟩ => p.elim⟩
  | n + 1 => by
    have ih_rows_of_value := okg_rows_of_value T n
    · have S := s_rows_of_value
      refine fn_ok (N := ["value", "word", "within", "last", "one", "row"]) (ps := ["value"]) (n := 6) (k := 1 + n) (m := m_rows_of_value (F_rows_of_value n)) T.F_rows_of_value S rfl (fun cdv A outer s H E hr => ?_)
      exact (os_cons (os_if (ot_val (oe_callB call_isi lk_isi rfl T.g_isinstance zb_isinstance (oa_cons (ov 0) (oa_cons (oe_ty rfl T.g_int zb_int) oa_nil rfl) rfl) (by decide) (by decide) rfl rfl) (fun _ => rfl)) (os_cons (os_ret (oe_lst (oa_cons (oe_tup (oa_cons oe_str (oa_cons (ov 0) oa_nil rfl) rfl)) oa_nil rfl))) os_nil) os_nil) (os_cons (os_if (ot_cmp (op_eqZ (hr.mono (Nat.zero_le _)).units) lk_eq rfl (oe_ix ix_seq lk_ix (fun _ _ => rfl) (ov 0) oe_int) oe_str) (os_cons (os_ret (oe_lst (oa_cons (oe_tup (oa_cons oe_str (oa_cons (oe_ix ix_seq lk_ix (fun _ _ => rfl) (ov 0) oe_int) oa_nil rfl) rfl)) oa_nil rfl))) os_nil) os_nil) (os_cons (os_asg (ov 0) (og_star rfl (ogs_cons (og_name (i := 1) S.nd rfl (by first | exact Or.inl rfl | exact Or.inr rfl) (by first | exact Or.inl rfl | exact Or.inr rfl)) (ogs_cons (og_name (i := 2) S.nd rfl (by first | exact Or.inl rfl | exact Or.inr rfl) (by first | exact Or.inl rfl | exact Or.inr rfl)) ogs_nil rfl) rfl) rfl rfl) rfl rfl rfl) (os_cons (os_set (i := 3) S.nd rfl (by first | exact Or.inl rfl | exact Or.inr rfl) (oe_tup (oa_cons (ov 1) oa_nil rfl)) rfl (by first | exact Or.inl rfl | exact Or.inr rfl)) (os_cons (os_if (ot_cmp (op_eqZ (hr.mono (Nat.zero_le _)).units) lk_eq rfl (ov 1) oe_str) (os_cons (os_set (i := 3) S.nd rfl (by first | exact Or.inl rfl | exact Or.inr rfl) (oe_tup (oa_cons (ov 1) (oa_cons (oe_ix ix_seq lk_ix (fun _ _ => rfl) (ov 0) oe_int) oa_nil rfl) rfl)) rfl (by first | exact Or.inl rfl | exact Or.inr rfl)) (os_cons (os_set (i := 2) S.nd rfl (by first | exact Or.inl rfl | exact Or.inr rfl) (oe_ix ix_seq lk_ix (fun _ _ => rfl) (ov 0) oe_int) rfl (by first | exact Or.inl rfl | exact Or.inr rfl)) os_nil)) os_nil) (os_cons (os_ret (oe_op op_addZ lk_add (oe_lc2 (own := [("one", 4), ("row", 5)]) (vs1 := [5]) (sl := [4]) (sl1 := [5]) rfl S.nd (oi_val (ov 2)) (blkOk_by (N := ["value", "word", "within", "last", "one", "row"]) (sc := defScope D15.1) (own := [("one", 4), ("row", 5)]) (by decide +kernel)) (by decide) (by decide) (by decide) (fun _ _ _ _ _ => (og_name (i := 4) S.nd rfl (by first | exact Or.inl rfl | exact Or.inr rfl) (by first | exact Or.inl rfl | exact Or.inr rfl))) (fun _ _ _ _ _ => ots_nil) (fun _ _ _ _ _ => (oi_val (oe_call ih_rows_of_value (hr.mono (by first | decide | omega)) rfl T.g_rows_of_value T.F_rows_of_value.kp (bz_rows_of_value T) takesW (oa_cons (ov 4) oa_nil rfl) ok_nil rfl rfl rfl rfl (by decide) rfl rfl))) (fun _ _ _ _ _ => (og_name (i := 5) S.nd rfl (by first | exact Or.inl rfl | exact Or.inr rfl) (by first | exact Or.inl rfl | exact Or.inr rfl))) (fun _ _ _ _ _ => ots_nil) (fun _ _ _ _ _ => (ov 5)) (fun _ => rfl) (fun _ _ => rfl)) (oe_lst (oa_cons (ov 3) oa_nil rfl)))) os_nil))))))
theorem ok_rows_of_value (T : Txt w K mg) : FnG P w K mg base (L2.CX P w) 9 T.a_rows_of_value T.d_rows_of_value ["value"] (spF K ["value"].length (F_rows_of_value 8)) := (okg_rows_of_value T 8)
theorem s_rows_of_plain : FnScope ["saying", "at"] ["saying", "at"] (defScope D16.1) := ⟨rfl, rfl, rfl, by decide +kernel, rfl, by decide +kernel, by decide +kernel⟩
theorem bz_rows_of_plain (T : Txt w K mg) : KBz K T.d_rows_of_plain ["saying", "at"] 2 [] (fun ws _ => ws) := kbz_pos (T.F_rows_of_plain.binds fun _ _ _ _ _ _ us hl => match us, hl with | [_, _], _ => rfl)
theorem ok_rows_of_plain (T : Txt w K mg) : FnG P w K mg base (L2.CX P w) 10 T.a_rows_of_plain T.d_rows_of_plain ["saying", "at"] (spF K ["saying", "at"].length F_rows_of_plain) := by
  have S := s_rows_of_plain
  refine fn_ok (N := ["saying", "at"]) (ps := ["saying", "at"]) (n := 2) (k := 9) (m := m_rows_of_plain) T.F_rows_of_plain S rfl (fun cdv A outer s H E hr => ?_)
  exact (os_cons (os_ret (oe_op op_addZ lk_add (oe_call (ok_rows_of_value T) (hr.mono (by first | decide | omega)) rfl T.g_rows_of_value T.F_rows_of_value.kp (bz_rows_of_value T) (takes_of rfl rfl rfl rfl) (oa_cons (oe_ix ix_seq lk_ix (fun _ _ => rfl) (ov 0) oe_int) oa_nil rfl) ok_nil rfl rfl rfl rfl (by decide) rfl rfl) (oe_lst (oa_cons (oe_tup (oa_cons (oe_ix ix_seq lk_ix (fun _ _ => rfl) (ov 0) oe_int) oa_nil rfl)) oa_nil rfl)))) os_nil)
theorem s_rows_of_set : FnScope ["saying", "at"] ["saying", "at"] (defScope D17.1) := ⟨rfl, rfl, rfl, by decide +kernel, rfl, by decide +kernel, by decide +kernel⟩
theorem bz_rows_of_set (T : Txt w K mg) : KBz K T.d_rows_of_set ["saying", "at"] 2 [] (fun ws _ => ws) := kbz_pos (T.F_rows_of_set.binds fun _ _ _ _ _ _ us hl => match us, hl with | [_, _], _ => rfl)
theorem ok_rows_of_set (T : Txt w K mg) : FnG P w K mg base (L2.CX P w) 10 T.a_rows_of_set T.d_rows_of_set ["saying", "at"] (spF K ["saying", "at"].length F_rows_of_set) := by
  have S := s_rows_of_set
  refine fn_ok (N := ["saying", "at"]) (ps := ["saying", "at"]) (n := 2) (k := 9) (m := m_rows_of_set) T.F_rows_of_set S rfl (fun cdv A outer s H E hr => ?_)
  exact (os_cons (os_ret (oe_op op_addZ lk_add (oe_call (ok_rows_of_value T) (hr.mono (by first | decide | omega)) rfl T.g_rows_of_value T.F_rows_of_value.kp (bz_rows_of_value T) (takes_of rfl rfl rfl rfl) (oa_cons (oe_ix ix_seq lk_ix (fun _ _ => rfl) (ov 0) oe_int) oa_nil rfl) ok_nil rfl rfl rfl rfl (by decide) rfl rfl) (oe_lst (oa_cons (oe_tup (oa_cons oe_str (oa_cons (oe_ix ix_seq lk_ix (fun _ _ => rfl) (ov 0) oe_int) oa_nil rfl) rfl)) oa_nil rfl)))) os_nil)
theorem s_rows_of_if : FnScope ["saying", "at", "head", "other", "there", "first"] ["saying", "at"] (defScope D18.1) := ⟨rfl, rfl, rfl, by decide +kernel, rfl, by decide +kernel, by decide +kernel⟩
theorem bz_rows_of_if (T : Txt w K mg) : KBz K T.d_rows_of_if ["saying", "at"] 2 [] (fun ws _ => ws) := kbz_pos (T.F_rows_of_if.binds fun _ _ _ _ _ _ us hl => match us, hl with | [_, _], _ => rfl)
theorem s_rows_of_while : FnScope ["saying", "at", "head", "there", "inner"] ["saying", "at"] (defScope D19.1) := ⟨rfl, rfl, rfl, by decide +kernel, rfl, by decide +kernel, by decide +kernel⟩
theorem bz_rows_of_while (T : Txt w K mg) : KBz K T.d_rows_of_while ["saying", "at"] 2 [] (fun ws _ => ws) := kbz_pos (T.F_rows_of_while.binds fun _ _ _ _ _ _ us hl => match us, hl with | [_, _], _ => rfl)
theorem s_rows_of_try : FnScope ["saying", "at", "word", "first", "name", "second", "tried", "there", "taken"] ["saying", "at"] (defScope D20.1) := ⟨rfl, rfl, rfl, by decide +kernel, rfl, by decide +kernel, by decide +kernel⟩
theorem bz_rows_of_try (T : Txt w K mg) : KBz K T.d_rows_of_try ["saying", "at"] 2 [] (fun ws _ => ws) := kbz_pos (T.F_rows_of_try.binds fun _ _ _ _ _ _ us hl => match us, hl with | [_, _], _ => rfl)
theorem s_rows_of_sayings : FnScope ["sayings", "at", "found", "saying", "make"] ["sayings", "at"] (defScope D22.1) := ⟨rfl, rfl, rfl, by decide +kernel, rfl, by decide +kernel, by decide +kernel⟩
theorem bz_rows_of_sayings (T : Txt w K mg) : KBz K T.d_rows_of_sayings ["sayings", "at"] 2 [] (fun ws _ => ws) := kbz_pos (T.F_rows_of_sayings.binds fun _ _ _ _ _ _ us hl => match us, hl with | [_, _], _ => rfl)
theorem okg_rows_of_if (T : Txt w K mg) : ∀ n, FnG P w K mg base (L2.CX P w) (11 + n) T.a_rows_of_if T.d_rows_of_if ["saying", "at"] (spF K ["saying", "at"].length (F_rows_of_if T.C_MADE T.a_rows_of_if T.a_rows_of_plain T.a_rows_of_set T.a_rows_of_try T.a_rows_of_while n)) ∧
      FnG P w K mg base (L2.CX P w) (11 + n) T.a_rows_of_while T.d_rows_of_while ["saying", "at"] (spF K ["saying", "at"].length (F_rows_of_while T.C_MADE T.a_rows_of_if T.a_rows_of_plain T.a_rows_of_set T.a_rows_of_try T.a_rows_of_while n)) ∧
      FnG P w K mg base (L2.CX P w) (11 + n) T.a_rows_of_try T.d_rows_of_try ["saying", "at"] (spF K ["saying", "at"].length (F_rows_of_try T.C_MADE T.a_rows_of_if T.a_rows_of_plain T.a_rows_of_set T.a_rows_of_try T.a_rows_of_while n)) ∧
      FnG P w K mg base (L2.CX P w) (11 + n) T.a_rows_of_sayings T.d_rows_of_sayings ["sayings", "at"] (spF K ["sayings", "at"].length (F_rows_of_sayings T.C_MADE T.a_rows_of_if T.a_rows_of_plain T.a_rows_of_set T.a_rows_of_try T.a_rows_of_while n))
  | 0 => ⟨⟨fun _ _ _ _ ⟨_, _, _, _, _, _, _, p⟩ => p.elim, fun _ _ _ _ _ _ _ _ _ _ _ _ _ ⟨_, _, _, _, _, _, _, p⟩ => p.elim⟩, ⟨fun _ _ _ _ ⟨_, _, _, _, _, _, _, p⟩ => p.elim, fun _ _ _ _ _ _ _ _ _ _ _ _ _ ⟨_, _, _, _, _, _, _, p⟩ => p.elim⟩, ⟨fun _ _ _ _ ⟨_, _, _, _, _, _, _, p⟩ => p.elim, fun _ _ _ _ _ _ _ _ _ _ _ _ _ ⟨_, _, _, _, _, _, _, p⟩ => p.elim⟩, ⟨fun _ _ _ _ ⟨_, _, _, _, _, _, _, p⟩ => p.elim, fun _ _ _ _ _ _ _ _ _ _ _ _ _ ⟨_, _, _, _, _, _, _, p⟩ => p.elim⟩⟩
  | n + 1 => by
    obtain ⟨ih_rows_of_if, ih_rows_of_while, ih_rows_of_try, ih_rows_of_sayings⟩ := okg_rows_of_if T n
    refine ⟨?_, ?_, ?_, ?_⟩
    · have S := s_rows_of_if
      refine fn_ok (N := ["saying", "at", "head", "other", "there", "first"]) (ps := ["saying", "at"]) (n := 6) (k := 11 + n) (m := m_rows_of_if T.C_MADE T.a_rows_of_if T.a_rows_of_plain T.a_rows_of_set T.a_rows_of_try T.a_rows_of_while (F_rows_of_if T.C_MADE T.a_rows_of_if T.a_rows_of_plain T.a_rows_of_set T.a_rows_of_try T.a_rows_of_while n) (F_rows_of_while T.C_MADE T.a_rows_of_if T.a_rows_of_plain T.a_rows_of_set T.a_rows_of_try T.a_rows_of_while n) (F_rows_of_try T.C_MADE T.a_rows_of_if T.a_rows_of_plain T.a_rows_of_set T.a_rows_of_try T.a_rows_of_while n) (F_rows_of_sayings T.C_MADE T.a_rows_of_if T.a_rows_of_plain T.a_rows_of_set T.a_rows_of_try T.a_rows_of_while n)) T.F_rows_of_if S rfl (fun cdv A outer s H E hr => ?_)
      exact (os_cons (os_set (i := 2) S.nd rfl (by first | exact Or.inl rfl | exact Or.inr rfl) (oe_call (ok_rows_of_value T) (hr.mono (by first | decide | omega)) rfl T.g_rows_of_value T.F_rows_of_value.kp (bz_rows_of_value T) (takes_of rfl rfl rfl rfl) (oa_cons (oe_ix ix_seq lk_ix (fun _ _ => rfl) (ov 0) oe_int) oa_nil rfl) ok_nil rfl rfl rfl rfl (by decide) rfl rfl) rfl (by first | exact Or.inl rfl | exact Or.inr rfl)) (os_cons (os_set (i := 3) S.nd rfl (by first | exact Or.inl rfl | exact Or.inr rfl) (oe_call ih_rows_of_sayings (hr.mono (by first | decide | omega)) rfl T.g_rows_of_sayings T.F_rows_of_sayings.kp (bz_rows_of_sayings T) (takes_of rfl rfl rfl rfl) (oa_cons (oe_ix ix_seq lk_ix (fun _ _ => rfl) (ov 0) oe_int) (oa_cons (oe_op op_addZ lk_add (oe_op op_addZ lk_add (ov 1) (oe_callB call_len lk_len rfl T.g_len zb_len (oa_cons (ov 2) oa_nil rfl) (by decide) (by decide) rfl rfl)) oe_int) oa_nil rfl) rfl) ok_nil rfl rfl rfl rfl (by decide) rfl rfl) rfl (by first | exact Or.inl rfl | exact Or.inr rfl)) (os_cons (os_set (i := 4) S.nd rfl (by first | exact Or.inl rfl | exact Or.inr rfl) (oe_op op_addZ lk_add (oe_op op_addZ lk_add (oe_op op_addZ lk_add (ov 1) (oe_callB call_len lk_len rfl T.g_len zb_len (oa_cons (ov 2) oa_nil rfl) (by decide) (by decide) rfl rfl)) (oe_callB call_len lk_len rfl T.g_len zb_len (oa_cons (ov 3) oa_nil rfl) (by decide) (by decide) rfl rfl)) oe_int) rfl (by first | exact Or.inl rfl | exact Or.inr rfl)) (os_cons (os_set (i := 5) S.nd rfl (by first | exact Or.inl rfl | exact Or.inr rfl) (oe_call ih_rows_of_sayings (hr.mono (by first | decide | omega)) rfl T.g_rows_of_sayings T.F_rows_of_sayings.kp (bz_rows_of_sayings T) (takes_of rfl rfl rfl rfl) (oa_cons (oe_ix ix_seq lk_ix (fun _ _ => rfl) (ov 0) oe_int) (oa_cons (ov 4) oa_nil rfl) rfl) ok_nil rfl rfl rfl rfl (by decide) rfl rfl) rfl (by first | exact Or.inl rfl | exact Or.inr rfl)) (os_cons (os_ret (oe_op op_addZ lk_add (oe_op op_addZ lk_add (oe_op op_addZ lk_add (oe_op op_addZ lk_add (ov 2) (oe_lst (oa_cons (oe_tup (oa_cons oe_str (oa_cons (ov 4) oa_nil rfl) rfl)) oa_nil rfl))) (ov 3)) (oe_lst (oa_cons (oe_tup (oa_cons oe_str (oa_cons (oe_op op_addZ lk_add (ov 4) (oe_callB call_len lk_len rfl T.g_len zb_len (oa_cons (ov 5) oa_nil rfl) (by decide) (by decide) rfl rfl)) oa_nil rfl) rfl)) oa_nil rfl))) (ov 5))) os_nil)))))
    · have S := s_rows_of_while
      refine fn_ok (N := ["saying", "at", "head", "there", "inner"]) (ps := ["saying", "at"]) (n := 5) (k := 11 + n) (m := m_rows_of_while T.C_MADE T.a_rows_of_if T.a_rows_of_plain T.a_rows_of_set T.a_rows_of_try T.a_rows_of_while (F_rows_of_if T.C_MADE T.a_rows_of_if T.a_rows_of_plain T.a_rows_of_set T.a_rows_of_try T.a_rows_of_while n) (F_rows_of_while T.C_MADE T.a_rows_of_if T.a_rows_of_plain T.a_rows_of_set T.a_rows_of_try T.a_rows_of_while n) (F_rows_of_try T.C_MADE T.a_rows_of_if T.a_rows_of_plain T.a_rows_of_set T.a_rows_of_try T.a_rows_of_while n) (F_rows_of_sayings T.C_MADE T.a_rows_of_if T.a_rows_of_plain T.a_rows_of_set T.a_rows_of_try T.a_rows_of_while n)) T.F_rows_of_while S rfl (fun cdv A outer s H E hr => ?_)
      exact (os_cons (os_set (i := 2) S.nd rfl (by first | exact Or.inl rfl | exact Or.inr rfl) (oe_call (ok_rows_of_value T) (hr.mono (by first | decide | omega)) rfl T.g_rows_of_value T.F_rows_of_value.kp (bz_rows_of_value T) (takes_of rfl rfl rfl rfl) (oa_cons (oe_ix ix_seq lk_ix (fun _ _ => rfl) (ov 0) oe_int) oa_nil rfl) ok_nil rfl rfl rfl rfl (by decide) rfl rfl) rfl (by first | exact Or.inl rfl | exact Or.inr rfl)) (os_cons (os_set (i := 3) S.nd rfl (by first | exact Or.inl rfl | exact Or.inr rfl) (oe_op op_addZ lk_add (oe_op op_addZ lk_add (ov 1) (oe_callB call_len lk_len rfl T.g_len zb_len (oa_cons (ov 2) oa_nil rfl) (by decide) (by decide) rfl rfl)) oe_int) rfl (by first | exact Or.inl rfl | exact Or.inr rfl)) (os_cons (os_set (i := 4) S.nd rfl (by first | exact Or.inl rfl | exact Or.inr rfl) (oe_call ih_rows_of_sayings (hr.mono (by first | decide | omega)) rfl T.g_rows_of_sayings T.F_rows_of_sayings.kp (bz_rows_of_sayings T) (takes_of rfl rfl rfl rfl) (oa_cons (oe_ix ix_seq lk_ix (fun _ _ => rfl) (ov 0) oe_int) (oa_cons (ov 3) oa_nil rfl) rfl) ok_nil rfl rfl rfl rfl (by decide) rfl rfl) rfl (by first | exact Or.inl rfl | exact Or.inr rfl)) (os_cons (os_ret (oe_op op_addZ lk_add (oe_op op_addZ lk_add (oe_op op_addZ lk_add (ov 2) (oe_lst (oa_cons (oe_tup (oa_cons oe_str (oa_cons (ov 3) oa_nil rfl) rfl)) (oa_cons (oe_tup (oa_cons oe_str (oa_cons (oe_op op_addZ lk_add (oe_op op_addZ lk_add (ov 3) (oe_callB call_len lk_len rfl T.g_len zb_len (oa_cons (ov 4) oa_nil rfl) (by decide) (by decide) rfl rfl)) oe_int) oa_nil rfl) rfl)) oa_nil rfl) rfl))) (ov 4)) (oe_lst (oa_cons (oe_tup (oa_cons oe_str (oa_cons (ov 1) oa_nil rfl) rfl)) oa_nil rfl)))) os_nil))))
    · have S := s_rows_of_try
      refine fn_ok (N := ["saying", "at", "word", "first", "name", "second", "tried", "there", "taken"]) (ps := ["saying", "at"]) (n := 9) (k := 11 + n) (m := m_rows_of_try T.C_MADE T.a_rows_of_if T.a_rows_of_plain T.a_rows_of_set T.a_rows_of_try T.a_rows_of_while (F_rows_of_if T.C_MADE T.a_rows_of_if T.a_rows_of_plain T.a_rows_of_set T.a_rows_of_try T.a_rows_of_while n) (F_rows_of_while T.C_MADE T.a_rows_of_if T.a_rows_of_plain T.a_rows_of_set T.a_rows_of_try T.a_rows_of_while n) (F_rows_of_try T.C_MADE T.a_rows_of_if T.a_rows_of_plain T.a_rows_of_set T.a_rows_of_try T.a_rows_of_while n) (F_rows_of_sayings T.C_MADE T.a_rows_of_if T.a_rows_of_plain T.a_rows_of_set T.a_rows_of_try T.a_rows_of_while n)) T.F_rows_of_try S rfl (fun cdv A outer s H E hr => ?_)
      exact (os_cons (os_asg (ov 0) (og_tup rfl (ogs_cons (og_name (i := 2) S.nd rfl (by first | exact Or.inl rfl | exact Or.inr rfl) (by first | exact Or.inl rfl | exact Or.inr rfl)) (ogs_cons (og_name (i := 3) S.nd rfl (by first | exact Or.inl rfl | exact Or.inr rfl) (by first | exact Or.inl rfl | exact Or.inr rfl)) (ogs_cons (og_name (i := 4) S.nd rfl (by first | exact Or.inl rfl | exact Or.inr rfl) (by first | exact Or.inl rfl | exact Or.inr rfl)) (ogs_cons (og_name (i := 5) S.nd rfl (by first | exact Or.inl rfl | exact Or.inr rfl) (by first | exact Or.inl rfl | exact Or.inr rfl)) ogs_nil rfl) rfl) rfl) rfl) rfl rfl) rfl rfl rfl) (os_cons (os_set (i := 6) S.nd rfl (by first | exact Or.inl rfl | exact Or.inr rfl) (oe_call ih_rows_of_sayings (hr.mono (by first | decide | omega)) rfl T.g_rows_of_sayings T.F_rows_of_sayings.kp (bz_rows_of_sayings T) (takes_of rfl rfl rfl rfl) (oa_cons (ov 3) (oa_cons (oe_op op_addZ lk_add (ov 1) oe_int) oa_nil rfl) rfl) ok_nil rfl rfl rfl rfl (by decide) rfl rfl) rfl (by first | exact Or.inl rfl | exact Or.inr rfl)) (os_cons (os_set (i := 7) S.nd rfl (by first | exact Or.inl rfl | exact Or.inr rfl) (oe_op op_addZ lk_add (oe_op op_addZ lk_add (ov 1) (oe_callB call_len lk_len rfl T.g_len zb_len (oa_cons (ov 6) oa_nil rfl) (by decide) (by decide) rfl rfl)) oe_int) rfl (by first | exact Or.inl rfl | exact Or.inr rfl)) (os_cons (os_set (i := 8) S.nd rfl (by first | exact Or.inl rfl | exact Or.inr rfl) (oe_op op_addZ lk_add (oe_lst (oa_cons (oe_tup (oa_cons oe_str (oa_cons (ov 4) oa_nil rfl) rfl)) oa_nil rfl)) (oe_call ih_rows_of_sayings (hr.mono (by first | decide | omega)) rfl T.g_rows_of_sayings T.F_rows_of_sayings.kp (bz_rows_of_sayings T) (takes_of rfl rfl rfl rfl) (oa_cons (ov 5) (oa_cons (oe_op op_addZ lk_add (ov 7) oe_int) oa_nil rfl) rfl) ok_nil rfl rfl rfl rfl (by decide) rfl rfl)) rfl (by first | exact Or.inl rfl | exact Or.inr rfl)) (os_cons (os_ret (oe_op op_addZ lk_add (oe_op op_addZ lk_add (oe_op op_addZ lk_add (oe_lst (oa_cons (oe_tup (oa_cons oe_str (oa_cons (ov 7) oa_nil rfl) rfl)) oa_nil rfl)) (ov 6)) (oe_lst (oa_cons (oe_tup (oa_cons oe_str oa_nil rfl)) (oa_cons (oe_tup (oa_cons oe_str (oa_cons (oe_op op_addZ lk_add (ov 7) (oe_callB call_len lk_len rfl T.g_len zb_len (oa_cons (ov 8) oa_nil rfl) (by decide) (by decide) rfl rfl)) oa_nil rfl) rfl)) oa_nil rfl) rfl))) (ov 8))) os_nil)))))
    · have S := s_rows_of_sayings
      refine fn_ok (N := ["sayings", "at", "found", "saying", "make"]) (ps := ["sayings", "at"]) (n := 5) (k := 11 + n) (m := m_rows_of_sayings T.C_MADE T.a_rows_of_if T.a_rows_of_plain T.a_rows_of_set T.a_rows_of_try T.a_rows_of_while (F_rows_of_if T.C_MADE T.a_rows_of_if T.a_rows_of_plain T.a_rows_of_set T.a_rows_of_try T.a_rows_of_while n) (F_rows_of_while T.C_MADE T.a_rows_of_if T.a_rows_of_plain T.a_rows_of_set T.a_rows_of_try T.a_rows_of_while n) (F_rows_of_try T.C_MADE T.a_rows_of_if T.a_rows_of_plain T.a_rows_of_set T.a_rows_of_try T.a_rows_of_while n) (F_rows_of_sayings T.C_MADE T.a_rows_of_if T.a_rows_of_plain T.a_rows_of_set T.a_rows_of_try T.a_rows_of_while n)) T.F_rows_of_sayings S rfl (fun cdv A outer s H E hr => ?_)
      exact (os_cons (os_set (i := 2) S.nd rfl (by first | exact Or.inl rfl | exact Or.inr rfl) (oe_new oa_nil) rfl (by first | exact Or.inl rfl | exact Or.inr rfl)) (os_cons (os_for (passes_of rfl) rfl (oi_val (ov 0)) (og_name (i := 3) S.nd rfl (by first | exact Or.inl rfl | exact Or.inr rfl) (by first | exact Or.inl rfl | exact Or.inr rfl)) (os_cons (os_set (i := 4) S.nd rfl (by first | exact Or.inl rfl | exact Or.inr rfl) (oe_ix (ix_kgetE T.d_MADE (kvs_MADE T)) (lk_kget _ _) (fun _ _ => rfl) (oe_glob (v := .ref T.C_MADE) rfl T.g_MADE rfl (fun _ _ _ => .glo _) (by decide)) (oe_ix ix_seq lk_ix (fun _ _ => rfl) (ov 3) oe_int)) rfl (by first | exact Or.inl rfl | exact Or.inr rfl)) (os_cons (os_expr (oe_mtL PySem.F.slot_list_extend PySem.F.type_list_extend mt_extend lk_ext (ov 2) (oa_cons (oe_callL (k := 11 + n) (hr.mono (by first | decide | omega)) (takes_of rfl rfl rfl rfl) (fun a F hm => by simp only [List.mem_cons, List.not_mem_nil, or_false, Prod.mk.injEq] at hm; rcases hm with ⟨rfl, rfl⟩ | ⟨rfl, rfl⟩ | ⟨rfl, rfl⟩ | ⟨rfl, rfl⟩ | ⟨rfl, rfl⟩ <;> first | exact ⟨_, _, rfl, (ok_rows_of_set T).mono (by first | decide | omega), T.F_rows_of_set.kp, bz_rows_of_set T⟩ | exact ⟨_, _, rfl, (ok_rows_of_plain T).mono (by first | decide | omega), T.F_rows_of_plain.kp, bz_rows_of_plain T⟩ | exact ⟨_, _, rfl, ih_rows_of_if.mono (Nat.le_refl _), T.F_rows_of_if.kp, bz_rows_of_if T⟩ | exact ⟨_, _, rfl, ih_rows_of_while.mono (Nat.le_refl _), T.F_rows_of_while.kp, bz_rows_of_while T⟩ | exact ⟨_, _, rfl, ih_rows_of_try.mono (Nat.le_refl _), T.F_rows_of_try.kp, bz_rows_of_try T⟩) (ov 4) (oa_cons (ov 3) (oa_cons (oe_op op_addZ lk_add (ov 1) (oe_callB call_len lk_len rfl T.g_len zb_len (oa_cons (ov 2) oa_nil rfl) (by decide) (by decide) rfl rfl)) oa_nil rfl) rfl) rfl rfl) oa_nil rfl)) rfl) os_nil)) (fun _ => rfl)) (os_cons (os_ret (ov 2)) os_nil)))
theorem ok_rows_of_if (T : Txt w K mg) : FnG P w K mg base (L2.CX P w) 35 T.a_rows_of_if T.d_rows_of_if ["saying", "at"] (spF K ["saying", "at"].length (F_rows_of_if T.C_MADE T.a_rows_of_if T.a_rows_of_plain T.a_rows_of_set T.a_rows_of_try T.a_rows_of_while 24)) := (okg_rows_of_if T 24).1
theorem ok_rows_of_while (T : Txt w K mg) : FnG P w K mg base (L2.CX P w) 35 T.a_rows_of_while T.d_rows_of_while ["saying", "at"] (spF K ["saying", "at"].length (F_rows_of_while T.C_MADE T.a_rows_of_if T.a_rows_of_plain T.a_rows_of_set T.a_rows_of_try T.a_rows_of_while 24)) := (okg_rows_of_if T 24).2.1
theorem ok_rows_of_try (T : Txt w K mg) : FnG P w K mg base (L2.CX P w) 35 T.a_rows_of_try T.d_rows_of_try ["saying", "at"] (spF K ["saying", "at"].length (F_rows_of_try T.C_MADE T.a_rows_of_if T.a_rows_of_plain T.a_rows_of_set T.a_rows_of_try T.a_rows_of_while 24)) := (okg_rows_of_if T 24).2.2.1
theorem ok_rows_of_sayings (T : Txt w K mg) : FnG P w K mg base (L2.CX P w) 35 T.a_rows_of_sayings T.d_rows_of_sayings ["sayings", "at"] (spF K ["sayings", "at"].length (F_rows_of_sayings T.C_MADE T.a_rows_of_if T.a_rows_of_plain T.a_rows_of_set T.a_rows_of_try T.a_rows_of_while 24)) := (okg_rows_of_if T 24).2.2.2
theorem s_made : FnScope ["tree", "found", "name", "names", "sayings", "rows"] ["tree"] (defScope D23.1) := ⟨rfl, rfl, rfl, by decide +kernel, rfl, by decide +kernel, by decide +kernel⟩
theorem bz_made (T : Txt w K mg) : KBz K T.d_made ["tree"] 1 [] (fun ws _ => ws) := kbz_pos (T.F_made.binds fun _ _ _ _ _ _ us hl => match us, hl with | [_], _ => rfl)
theorem ok_made (T : Txt w K mg) : FnG P w K mg base (L2.CX P w) 36 T.a_made T.d_made ["tree"] (spF K ["tree"].length (F_made T.C_MADE T.C_TooLong T.a_rows_of_if T.a_rows_of_plain T.a_rows_of_set T.a_rows_of_try T.a_rows_of_while)) := by
  have S := s_made
  refine fn_ok (N := ["tree", "found", "name", "names", "sayings", "rows"]) (ps := ["tree"]) (n := 6) (k := 35) (m := m_made T.C_MADE T.C_TooLong T.a_rows_of_if T.a_rows_of_plain T.a_rows_of_set T.a_rows_of_try T.a_rows_of_while) T.F_made S rfl (fun cdv A outer s H E hr => ?_)
  exact (os_cons (os_set (i := 1) S.nd rfl (by first | exact Or.inl rfl | exact Or.inr rfl) (oe_new oa_nil) rfl (by first | exact Or.inl rfl | exact Or.inr rfl)) (os_cons (os_for (passes_of rfl) rfl (oi_val (ov 0)) (og_tup rfl (ogs_cons (og_name (i := 2) S.nd rfl (by first | exact Or.inl rfl | exact Or.inr rfl) (by first | exact Or.inl rfl | exact Or.inr rfl)) (ogs_cons (og_name (i := 3) S.nd rfl (by first | exact Or.inl rfl | exact Or.inr rfl) (by first | exact Or.inl rfl | exact Or.inr rfl)) (ogs_cons (og_name (i := 4) S.nd rfl (by first | exact Or.inl rfl | exact Or.inr rfl) (by first | exact Or.inl rfl | exact Or.inr rfl)) ogs_nil rfl) rfl) rfl) rfl rfl) (os_cons (os_set (i := 5) S.nd rfl (by first | exact Or.inl rfl | exact Or.inr rfl) (oe_op op_addZ lk_add (oe_call (ok_rows_of_sayings T) (hr.mono (by first | decide | omega)) rfl T.g_rows_of_sayings T.F_rows_of_sayings.kp (bz_rows_of_sayings T) (takes_of rfl rfl rfl rfl) (oa_cons (ov 4) (oa_cons oe_int oa_nil rfl) rfl) ok_nil rfl rfl rfl rfl (by decide) rfl rfl) (oe_lst (oa_cons (oe_tup (oa_cons oe_str (oa_cons oe_int oa_nil rfl) rfl)) (oa_cons (oe_tup (oa_cons oe_str oa_nil rfl)) oa_nil rfl) rfl))) rfl (by first | exact Or.inl rfl | exact Or.inr rfl)) (os_cons (os_if (ot_cmp op_gt lk_ord rfl (oe_callB call_len lk_len rfl T.g_len zb_len (oa_cons (ov 5) oa_nil rfl) (by decide) (by decide) rfl rfl) (oe_gl rfl T.k_MOST_ROWS)) (os_cons (os_raiseNt_TooLong rfl T.nt_TooLong hr.toRoom (takes_of rfl rfl rfl rfl) (oe_callB call_len lk_len rfl T.g_len zb_len (oa_cons (ov 5) oa_nil rfl) (by decide) (by decide) rfl rfl) rfl rfl rfl) os_nil) os_nil) (os_cons (os_expr (oe_mtL PySem.F.slot_list_append PySem.F.type_list_append mt_append lk_app (ov 1) (oa_cons (oe_tup (oa_cons (ov 2) (oa_cons (ov 3) (oa_cons (oe_callTy call_tupleF lk_tpl rfl T.g_tuple zb_tuple (oa_cons (ov 5) oa_nil rfl) (by decide) (by decide) rfl rfl) oa_nil rfl) rfl) rfl)) oa_nil rfl)) rfl) os_nil))) (fun _ => rfl)) (os_cons (os_ret (oe_callTy call_tupleF lk_tpl rfl T.g_tuple zb_tuple (oa_cons (ov 1) oa_nil rfl) (by decide) (by decide) rfl rfl)) os_nil)))
theorem s__law_bag : FnScope ["_law_script", "_law_at", "_law_cell", "_law_mix", "_law_k"] ["_law_script", "_law_at"] (defScope D25.1) := ⟨rfl, rfl, rfl, by decide +kernel, rfl, by decide +kernel, by decide +kernel⟩
theorem bz__law_bag (T : Txt w K mg) : KBz K T.d__law_bag ["_law_script", "_law_at"] 2 [] (fun ws _ => ws) := kbz_pos (T.F__law_bag.binds fun _ _ _ _ _ _ us hl => match us, hl with | [_, _], _ => rfl)
theorem ok__law_bag (T : Txt w K mg) : FnG P w K mg base (L2.CX P w) 1 T.a__law_bag T.d__law_bag ["_law_script", "_law_at"] (spF K ["_law_script", "_law_at"].length F__law_bag) := by
  have S := s__law_bag
  refine fn_ok (N := ["_law_script", "_law_at", "_law_cell", "_law_mix", "_law_k"]) (ps := ["_law_script", "_law_at"]) (n := 5) (k := 0) (m := m__law_bag) T.F__law_bag S rfl (fun cdv A outer s H E hr => ?_)
  exact (os_cons (os_set (i := 2) S.nd rfl (by first | exact Or.inl rfl | exact Or.inr rfl) oe_int rfl (by first | exact Or.inl rfl | exact Or.inr rfl)) (os_cons (os_if (ot_cmp op_lt lk_ord rfl (ov 1) (oe_callB call_len lk_len rfl T.g_len zb_len (oa_cons (ov 0) oa_nil rfl) (by decide) (by decide) rfl rfl)) (os_cons (os_set (i := 2) S.nd rfl (by first | exact Or.inl rfl | exact Or.inr rfl) (oe_callB call_abs lk_abs rfl T.g_abs zb_abs (oa_cons (oe_ix ix_seq lk_ix (fun _ _ => rfl) (ov 0) (ov 1)) oa_nil rfl) (by decide) (by decide) rfl rfl) rfl (by first | exact Or.inl rfl | exact Or.inr rfl)) os_nil) os_nil) (os_cons (os_set (i := 3) S.nd rfl (by first | exact Or.inl rfl | exact Or.inr rfl) (oe_op op_modZ lk_mod (oe_op op_powW lk_pow (oe_op op_addZ lk_add (oe_op op_addZ lk_add (oe_op op_modZ lk_mod (ov 2) oe_int) (oe_op op_mulZ lk_mul oe_int (ov 1))) oe_int) oe_int) oe_int) rfl (by first | exact Or.inl rfl | exact Or.inr rfl)) (os_cons (os_for (passes_of rfl) rfl (oi_rg1 rfl T.g_range (oa_cons (oe_callB (call_min2 rfl) lk_min rfl T.g_min zb_min (oa_cons (oe_callB call_len lk_len rfl T.g_len zb_len (oa_cons (ov 0) oa_nil rfl) (by decide) (by decide) rfl rfl) (oa_cons oe_int oa_nil rfl) rfl) (by decide) (by decide) rfl rfl) oa_nil rfl)) (og_name (i := 4) S.nd rfl (by first | exact Or.inl rfl | exact Or.inr rfl) (by first | exact Or.inl rfl | exact Or.inr rfl)) (os_cons (os_set (i := 3) S.nd rfl (by first | exact Or.inl rfl | exact Or.inr rfl) (oe_op op_modZ lk_mod (oe_op op_addZ lk_add (oe_op op_addZ lk_add (oe_op op_mulZ lk_mul (ov 3) oe_int) (oe_op op_mulZ lk_mul (oe_op op_modZ lk_mod (oe_ix ix_seq lk_ix (fun _ _ => rfl) (ov 0) (ov 4)) oe_int) (oe_op op_addZ lk_add (ov 4) oe_int))) (ov 4)) oe_int) rfl (by first | exact Or.inl rfl | exact Or.inr rfl)) os_nil) (fun _ => rfl)) (os_cons (os_if (ot_cmp op_lt lk_ord rfl (ov 2) (oe_op op_powW lk_pow oe_int oe_int)) (os_cons (os_set (i := 2) S.nd rfl (by first | exact Or.inl rfl | exact Or.inr rfl) oe_int rfl (by first | exact Or.inl rfl | exact Or.inr rfl)) os_nil) os_nil) (os_cons (os_ret (oe_new (oa_cons (ov 2) (oa_cons (ov 3) oa_nil rfl) rfl))) os_nil))))))
theorem s__law_take : FnScope ["_law_bag_here", "_law_many", "_law_digit"] ["_law_bag_here", "_law_many"] (defScope D26.1) := ⟨rfl, rfl, rfl, by decide +kernel, rfl, by decide +kernel, by decide +kernel⟩
theorem bz__law_take (T : Txt w K mg) : KBz K T.d__law_take ["_law_bag_here", "_law_many"] 2 [] (fun ws _ => ws) := kbz_pos (T.F__law_take.binds fun _ _ _ _ _ _ us hl => match us, hl with | [_, _], _ => rfl)
theorem ok__law_take (T : Txt w K mg) : FnG P w K mg base (L2.CX P w) 1 T.a__law_take T.d__law_take ["_law_bag_here", "_law_many"] (spF K ["_law_bag_here", "_law_many"].length F__law_take) := by
  have S := s__law_take
  refine fn_ok (N := ["_law_bag_here", "_law_many", "_law_digit"]) (ps := ["_law_bag_here", "_law_many"]) (n := 3) (k := 0) (m := m__law_take) T.F__law_take S rfl (fun cdv A outer s H E hr => ?_)
  exact (os_cons (os_if (ot_cmp op_gt lk_ord rfl (oe_ix ix_seq lk_ix (fun _ _ => rfl) (ov 0) oe_int) oe_int) (os_cons (os_set (i := 2) S.nd rfl (by first | exact Or.inl rfl | exact Or.inr rfl) (oe_op op_modZ lk_mod (oe_ix ix_seq lk_ix (fun _ _ => rfl) (ov 0) oe_int) (ov 1)) rfl (by first | exact Or.inl rfl | exact Or.inr rfl)) (os_cons (os_asg (oe_op op_divZ lk_div (oe_ix ix_seq lk_ix (fun _ _ => rfl) (ov 0) oe_int) (ov 1)) (og_sub (ov 0) oe_int) rfl rfl rfl) (os_cons (os_ret (ov 2)) os_nil))) os_nil) (os_cons (os_asg (oe_op op_modZ lk_mod (oe_op op_addZ lk_add (oe_op op_mulZ lk_mul (oe_ix ix_seq lk_ix (fun _ _ => rfl) (ov 0) oe_int) oe_int) oe_int) oe_int) (og_sub (ov 0) oe_int) rfl rfl rfl) (os_cons (os_ret (oe_op op_modZ lk_mod (oe_op op_modZ lk_mod (oe_op op_mulZ lk_mul (oe_op op_divZ lk_div (oe_op op_modZ lk_mod (oe_op op_powW lk_pow (oe_ix ix_seq lk_ix (fun _ _ => rfl) (ov 0) oe_int) oe_int) oe_int) oe_int) oe_int) oe_int) (ov 1))) os_nil)))
theorem s__law_worth : FnScope ["_law_bag_here", "_law_way", "_law_great"] ["_law_bag_here"] (defScope D27.1) := ⟨rfl, rfl, rfl, by decide +kernel, rfl, by decide +kernel, by decide +kernel⟩
theorem bz__law_worth (T : Txt w K mg) : KBz K T.d__law_worth ["_law_bag_here"] 1 [] (fun ws _ => ws) := kbz_pos (T.F__law_worth.binds fun _ _ _ _ _ _ us hl => match us, hl with | [_], _ => rfl)
theorem ok__law_worth (T : Txt w K mg) : FnG P w K mg base (L2.CX P w) 2 T.a__law_worth T.d__law_worth ["_law_bag_here"] (spF K ["_law_bag_here"].length F__law_worth) := by
  have S := s__law_worth
  refine fn_ok (N := ["_law_bag_here", "_law_way", "_law_great"]) (ps := ["_law_bag_here"]) (n := 3) (k := 1) (m := m__law_worth) T.F__law_worth S rfl (fun cdv A outer s H E hr => ?_)
  exact (os_cons (os_set (i := 1) S.nd rfl (by first | exact Or.inl rfl | exact Or.inr rfl) (oe_call (ok__law_take T) (hr.mono (by first | decide | omega)) rfl T.g__law_take T.F__law_take.kp (bz__law_take T) (takes_of rfl rfl rfl rfl) (oa_cons (ov 0) (oa_cons oe_int oa_nil rfl) rfl) ok_nil rfl rfl rfl rfl (by decide) rfl rfl) rfl (by first | exact Or.inl rfl | exact Or.inr rfl)) (os_cons (os_if (ot_cmp op_lt lk_ord rfl (ov 1) oe_int) (os_cons (os_ret (oe_op op_sub lk_sub (oe_call (ok__law_take T) (hr.mono (by first | decide | omega)) rfl T.g__law_take T.F__law_take.kp (bz__law_take T) (takes_of rfl rfl rfl rfl) (oa_cons (ov 0) (oa_cons oe_int oa_nil rfl) rfl) ok_nil rfl rfl rfl rfl (by decide) rfl rfl) oe_int)) os_nil) os_nil) (os_cons (os_set (i := 2) S.nd rfl (by first | exact Or.inl rfl | exact Or.inr rfl) (oe_ix ix_seq lk_ix (fun _ _ => rfl) (oe_lst (oa_cons (oe_op op_powW lk_pow oe_int oe_int) (oa_cons (oe_op op_powW lk_pow oe_int oe_int) (oa_cons (oe_op op_addZ lk_add (oe_op op_powW lk_pow oe_int oe_int) (oe_call (ok__law_take T) (hr.mono (by first | decide | omega)) rfl T.g__law_take T.F__law_take.kp (bz__law_take T) (takes_of rfl rfl rfl rfl) (oa_cons (ov 0) (oa_cons (oe_op op_powW lk_pow oe_int oe_int) oa_nil rfl) rfl) ok_nil rfl rfl rfl rfl (by decide) rfl rfl)) oa_nil rfl) rfl) rfl)) (oe_call (ok__law_take T) (hr.mono (by first | decide | omega)) rfl T.g__law_take T.F__law_take.kp (bz__law_take T) (takes_of rfl rfl rfl rfl) (oa_cons (ov 0) (oa_cons oe_int oa_nil rfl) rfl) ok_nil rfl rfl rfl rfl (by decide) rfl rfl)) rfl (by first | exact Or.inl rfl | exact Or.inr rfl)) (os_cons (os_ret (oe_op op_mulZ lk_mul (ov 2) (oe_ix ix_seq lk_ix (fun _ _ => rfl) (oe_lst (oa_cons oe_int (oa_cons (oe_un un_neg lk_neg oe_int) oa_nil rfl) rfl)) (oe_call (ok__law_take T) (hr.mono (by first | decide | omega)) rfl T.g__law_take T.F__law_take.kp (bz__law_take T) (takes_of rfl rfl rfl rfl) (oa_cons (ov 0) (oa_cons oe_int oa_nil rfl) rfl) ok_nil rfl rfl rfl rfl (by decide) rfl rfl)))) os_nil))))
theorem s__law_value : FnScope ["_law_bag_here", "_law_heads", "_law_deep", "_law_way", "_law_name", "_law_op", "_law_k"] ["_law_bag_here", "_law_heads", "_law_deep"] (defScope D28.1) := ⟨rfl, rfl, rfl, by decide +kernel, rfl, by decide +kernel, by decide +kernel⟩
theorem bz__law_value (T : Txt w K mg) : KBz K T.d__law_value ["_law_bag_here", "_law_heads", "_law_deep"] 3 [] (fun ws _ => ws) := kbz_pos (T.F__law_value.binds fun _ _ _ _ _ _ us hl => match us, hl with | [_, _, _], _ => rfl)
theorem okg__law_value (T : Txt w K mg) : ∀ n, FnG P w K mg base (L2.CX P w) (3 + n) T.a__law_value T.d__law_value ["_law_bag_here", "_law_heads", "_law_deep"] (spF K ["_law_bag_here", "_law_heads", "_law_deep"].length (F__law_value n))
  | 0 => ⟨fun _ _ _ _ ⟨_, _, _, _, _, _, _, p⟩ => p.elim, fun _ _ _ _ _ _ _ _ _ _ _ _ _ ⟨_, _, _, _, _, _, _, p⟩ => p.elim⟩
  | n + 1 => by
    have ih__law_value := okg__law_value T n
    · have S := s__law_value
      refine fn_ok (N := ["_law_bag_here", "_law_heads", "_law_deep", "_law_way", "_law_name", "_law_op", "_law_k"]) (ps := ["_law_bag_here", "_law_heads", "_law_deep"]) (n := 7) (k := 3 + n) (m := m__law_value (F__law_value n)) T.F__law_value S rfl (fun cdv A outer s H E hr => ?_)
      exact (os_cons (os_set (i := 3) S.nd rfl (by first | exact Or.inl rfl | exact Or.inr rfl) (oe_call (ok__law_take T) (hr.mono (by first | decide | omega)) rfl T.g__law_take T.F__law_take.kp (bz__law_take T) (takes_of rfl rfl rfl rfl) (oa_cons (ov 0) (oa_cons oe_int oa_nil rfl) rfl) ok_nil rfl rfl rfl rfl (by decide) rfl rfl) rfl (by first | exact Or.inl rfl | exact Or.inr rfl)) (os_cons (os_if (ot_cmp op_lt lk_ord rfl (ov 3) oe_int) (os_cons (os_ret (oe_call (ok__law_worth T) (hr.mono (by first | decide | omega)) rfl T.g__law_worth T.F__law_worth.kp (bz__law_worth T) (takes_of rfl rfl rfl rfl) (oa_cons (ov 0) oa_nil rfl) ok_nil rfl rfl rfl rfl (by decide) rfl rfl)) os_nil) os_nil) (os_cons (os_if (PW.pt (ow_or (ot_cmp (op_eqZ (hr.mono (Nat.zero_le _)).units) lk_eq rfl (ov 2) oe_int) (ow_or1 (ot_cmp op_lt lk_ord rfl (ov 3) oe_int)))) (os_cons (os_ret (oe_tup (oa_cons oe_str (oa_cons (oe_ix ix_seq lk_ix (fun _ _ => rfl) oe_str (oe_call (ok__law_take T) (hr.mono (by first | decide | omega)) rfl T.g__law_take T.F__law_take.kp (bz__law_take T) (takes_of rfl rfl rfl rfl) (oa_cons (ov 0) (oa_cons oe_int oa_nil rfl) rfl) ok_nil rfl rfl rfl rfl (by decide) rfl rfl)) oa_nil rfl) rfl))) os_nil) os_nil) (os_cons (os_if (ot_cmp op_lt lk_ord rfl (ov 3) oe_int) (os_cons (os_set (i := 5) S.nd rfl (by first | exact Or.inl rfl | exact Or.inr rfl) (oe_ix ix_seq lk_ix (fun _ _ => rfl) (oe_lst (oa_cons oe_str (oa_cons oe_str (oa_cons oe_str (oa_cons oe_str (oa_cons oe_str (oa_cons oe_str oa_nil rfl) rfl) rfl) rfl) rfl) rfl)) (oe_call (ok__law_take T) (hr.mono (by first | decide | omega)) rfl T.g__law_take T.F__law_take.kp (bz__law_take T) (takes_of rfl rfl rfl rfl) (oa_cons (ov 0) (oa_cons oe_int oa_nil rfl) rfl) ok_nil rfl rfl rfl rfl (by decide) rfl rfl)) rfl (by first | exact Or.inl rfl | exact Or.inr rfl)) (os_cons (os_ret (oe_tup (oa_cons (ov 5) (oa_cons (oe_call ih__law_value (hr.mono (by first | decide | omega)) rfl T.g__law_value T.F__law_value.kp (bz__law_value T) (takes_of rfl rfl rfl rfl) (oa_cons (ov 0) (oa_cons (ov 1) (oa_cons (oe_op op_sub lk_sub (ov 2) oe_int) oa_nil rfl) rfl) rfl) ok_nil rfl rfl rfl rfl (by decide) rfl rfl) (oa_cons (oe_call ih__law_value (hr.mono (by first | decide | omega)) rfl T.g__law_value T.F__law_value.kp (bz__law_value T) (takes_of rfl rfl rfl rfl) (oa_cons (ov 0) (oa_cons (ov 1) (oa_cons (oe_op op_sub lk_sub (ov 2) oe_int) oa_nil rfl) rfl) rfl) ok_nil rfl rfl rfl rfl (by decide) rfl rfl) oa_nil rfl) rfl) rfl))) os_nil)) os_nil) (os_cons (os_set (i := 4) S.nd rfl (by first | exact Or.inl rfl | exact Or.inr rfl) (oe_ix ix_seq lk_ix (fun _ _ => rfl) (oe_callB (call_sortedD rfl) lk_srtD rfl T.g_sorted zb_sorted (oa_cons (ov 1) oa_nil rfl) (by decide) (by decide) rfl rfl) (oe_call (ok__law_take T) (hr.mono (by first | decide | omega)) rfl T.g__law_take T.F__law_take.kp (bz__law_take T) (takes_of rfl rfl rfl rfl) (oa_cons (ov 0) (oa_cons (oe_callB call_lenD lk_lenD rfl T.g_len zb_len (oa_cons (ov 1) oa_nil rfl) (by decide) (by decide) rfl rfl) oa_nil rfl) rfl) ok_nil rfl rfl rfl rfl (by decide) rfl rfl)) rfl (by first | exact Or.inl rfl | exact Or.inr rfl)) (os_cons (os_ret (oe_tup (oa_cons oe_str (oa_cons (ov 4) (oa_cons (oe_callTy call_tupleF lk_tpl rfl T.g_tuple zb_tuple (oa_cons (oe_lc (own := [("_law_k", 6)]) (sl := [6]) rfl S.nd (oi_rg1 rfl T.g_range (oa_cons (oe_dget hr.toRoom (ov 1) (ov 4) (fun _ _ => rfl)) oa_nil rfl)) (blkOk_by (N := ["_law_bag_here", "_law_heads", "_law_deep", "_law_way", "_law_name", "_law_op", "_law_k"]) (sc := defScope D28.1) (own := [("_law_k", 6)]) (by decide +kernel)) (by decide) (fun _ _ _ _ _ => (og_name (i := 6) S.nd rfl (by first | exact Or.inl rfl | exact Or.inr rfl) (by first | exact Or.inl rfl | exact Or.inr rfl))) (fun _ _ _ _ _ => ots_nil) (fun _ _ _ _ _ => (oe_call ih__law_value (hr.mono (by first | decide | omega)) rfl T.g__law_value T.F__law_value.kp (bz__law_value T) takesW (oa_cons (ov 0) (oa_cons (ov 1) (oa_cons (oe_op op_sub lk_sub (ov 2) oe_int) oa_nil rfl) rfl) rfl) ok_nil rfl rfl rfl rfl (by decide) rfl rfl)) (fun _ => rfl)) oa_nil rfl) (by decide) (by decide) rfl rfl) oa_nil rfl) rfl) rfl))) os_nil))))))
theorem ok__law_value (T : Txt w K mg) : FnG P w K mg base (L2.CX P w) 11 T.a__law_value T.d__law_value ["_law_bag_here", "_law_heads", "_law_deep"] (spF K ["_law_bag_here", "_law_heads", "_law_deep"].length (F__law_value 8)) := (okg__law_value T 8)
theorem s__law_saying : FnScope ["_law_bag_here", "_law_heads", "_law_deep", "_law_wide", "_law_way", "_law_some", "_law_name", "_law_inner"] ["_law_bag_here", "_law_heads", "_law_deep", "_law_wide"] (defScope D29.1) := ⟨rfl, rfl, rfl, by decide +kernel, rfl, by decide +kernel, by decide +kernel⟩
theorem bz__law_saying (T : Txt w K mg) : KBz K T.d__law_saying ["_law_bag_here", "_law_heads", "_law_deep", "_law_wide"] 4 [] (fun ws _ => ws) := kbz_pos (T.F__law_saying.binds fun _ _ _ _ _ _ us hl => match us, hl with | [_, _, _, _], _ => rfl)
theorem s__law_sayings : FnScope ["_law_bag_here", "_law_heads", "_law_deep", "_law_wide", "_law_many", "_law_k"] ["_law_bag_here", "_law_heads", "_law_deep", "_law_wide"] (defScope D30.1) := ⟨rfl, rfl, rfl, by decide +kernel, rfl, by decide +kernel, by decide +kernel⟩
theorem bz__law_sayings (T : Txt w K mg) : KBz K T.d__law_sayings ["_law_bag_here", "_law_heads", "_law_deep", "_law_wide"] 4 [] (fun ws _ => ws) := kbz_pos (T.F__law_sayings.binds fun _ _ _ _ _ _ us hl => match us, hl with | [_, _, _, _], _ => rfl)
theorem okg__law_saying (T : Txt w K mg) : ∀ n, FnG P w K mg base (L2.CX P w) (12 + n) T.a__law_saying T.d__law_saying ["_law_bag_here", "_law_heads", "_law_deep", "_law_wide"] (spF K ["_law_bag_here", "_law_heads", "_law_deep", "_law_wide"].length (F__law_saying n)) ∧
      FnG P w K mg base (L2.CX P w) (12 + n) T.a__law_sayings T.d__law_sayings ["_law_bag_here", "_law_heads", "_law_deep", "_law_wide"] (spF K ["_law_bag_here", "_law_heads", "_law_deep", "_law_wide"].length (F__law_sayings n))
  | 0 => ⟨⟨fun _ _ _ _ ⟨_, _, _, _, _, _, _, p⟩ => p.elim, fun _ _ _ _ _ _ _ _ _ _ _ _ _ ⟨_, _, _, _, _, _, _, p⟩ => p.elim⟩, ⟨fun _ _ _ _ ⟨_, _, _, _, _, _, _, p⟩ => p.elim, fun _ _ _ _ _ _ _ _ _ _ _ _ _ ⟨_, _, _, _, _, _, _, p⟩ => p.elim⟩⟩
  | n + 1 => by
    obtain ⟨ih__law_saying, ih__law_sayings⟩ := okg__law_saying T n
    refine ⟨?_, ?_⟩
    · have S := s__law_saying
      refine fn_ok (N := ["_law_bag_here", "_law_heads", "_law_deep", "_law_wide", "_law_way", "_law_some", "_law_name", "_law_inner"]) (ps := ["_law_bag_here", "_law_heads", "_law_deep", "_law_wide"]) (n := 8) (k := 12 + n) (m := m__law_saying (F__law_saying n) (F__law_sayings n)) T.F__law_saying S rfl (fun cdv A outer s H E hr => ?_)
      exact (os_cons (os_set (i := 4) S.nd rfl (by first | exact Or.inl rfl | exact Or.inr rfl) (oe_call (ok__law_take T) (hr.mono (by first | decide | omega)) rfl T.g__law_take T.F__law_take.kp (bz__law_take T) (takes_of rfl rfl rfl rfl) (oa_cons (ov 0) (oa_cons oe_int oa_nil rfl) rfl) ok_nil rfl rfl rfl rfl (by decide) rfl rfl) rfl (by first | exact Or.inl rfl | exact Or.inr rfl)) (os_cons (os_set (i := 5) S.nd rfl (by first | exact Or.inl rfl | exact Or.inr rfl) (oe_call (ok__law_value T) (hr.mono (by first | decide | omega)) rfl T.g__law_value T.F__law_value.kp (bz__law_value T) (takes_of rfl rfl rfl rfl) (oa_cons (ov 0) (oa_cons (ov 1) (oa_cons (ov 3) oa_nil rfl) rfl) rfl) ok_nil rfl rfl rfl rfl (by decide) rfl rfl) rfl (by first | exact Or.inl rfl | exact Or.inr rfl)) (os_cons (os_set (i := 6) S.nd rfl (by first | exact Or.inl rfl | exact Or.inr rfl) (oe_ix ix_seq lk_ix (fun _ _ => rfl) oe_str (oe_call (ok__law_take T) (hr.mono (by first | decide | omega)) rfl T.g__law_take T.F__law_take.kp (bz__law_take T) (takes_of rfl rfl rfl rfl) (oa_cons (ov 0) (oa_cons oe_int oa_nil rfl) rfl) ok_nil rfl rfl rfl rfl (by decide) rfl rfl)) rfl (by first | exact Or.inl rfl | exact Or.inr rfl)) (os_cons (os_if (ot_cmp op_lt lk_ord rfl (ov 4) oe_int) (os_cons (os_ret (oe_tup (oa_cons oe_str (oa_cons (ov 6) (oa_cons (ov 5) oa_nil rfl) rfl) rfl))) os_nil) os_nil) (os_cons (os_if (PW.pt (ow_or (ot_cmp op_lt lk_ord rfl (ov 4) oe_int) (ow_or1 (PW.pt (ow_and (ot_cmp (op_eqZ (hr.mono (Nat.zero_le _)).units) lk_eq rfl (ov 2) oe_int) (ow_and1 (ot_cmp op_gt lk_ord rfl (ov 4) oe_int))))))) (os_cons (os_ret (oe_tup (oa_cons oe_str (oa_cons (ov 5) oa_nil rfl) rfl))) os_nil) os_nil) (os_cons (os_if (ot_cmp op_lt lk_ord rfl (ov 4) oe_int) (os_cons (os_ret (oe_tup (oa_cons (oe_ix ix_seq lk_ix (fun _ _ => rfl) (oe_lst (oa_cons oe_str (oa_cons oe_str oa_nil rfl) rfl)) (oe_op op_sub lk_sub (ov 4) oe_int)) (oa_cons (ov 5) oa_nil rfl) rfl))) os_nil) os_nil) (os_cons (os_if (ot_cmp op_lt lk_ord rfl (ov 4) oe_int) (os_cons (os_ret (oe_tup (oa_cons oe_str (oa_cons (ov 5) (oa_cons (oe_call ih__law_sayings (hr.mono (by first | decide | omega)) rfl T.g__law_sayings T.F__law_sayings.kp (bz__law_sayings T) (takes_of rfl rfl rfl rfl) (oa_cons (ov 0) (oa_cons (ov 1) (oa_cons (oe_op op_sub lk_sub (ov 2) oe_int) (oa_cons (ov 3) oa_nil rfl) rfl) rfl) rfl) ok_nil rfl rfl rfl rfl (by decide) rfl rfl) (oa_cons (oe_call ih__law_sayings (hr.mono (by first | decide | omega)) rfl T.g__law_sayings T.F__law_sayings.kp (bz__law_sayings T) (takes_of rfl rfl rfl rfl) (oa_cons (ov 0) (oa_cons (ov 1) (oa_cons (oe_op op_sub lk_sub (ov 2) oe_int) (oa_cons (ov 3) oa_nil rfl) rfl) rfl) rfl) ok_nil rfl rfl rfl rfl (by decide) rfl rfl) oa_nil rfl) rfl) rfl) rfl))) os_nil) os_nil) (os_cons (os_if (ot_cmp (op_eqZ (hr.mono (Nat.zero_le _)).units) lk_eq rfl (ov 4) oe_int) (os_cons (os_ret (oe_tup (oa_cons oe_str (oa_cons (ov 5) (oa_cons (oe_call ih__law_sayings (hr.mono (by first | decide | omega)) rfl T.g__law_sayings T.F__law_sayings.kp (bz__law_sayings T) (takes_of rfl rfl rfl rfl) (oa_cons (ov 0) (oa_cons (ov 1) (oa_cons (oe_op op_sub lk_sub (ov 2) oe_int) (oa_cons (ov 3) oa_nil rfl) rfl) rfl) rfl) ok_nil rfl rfl rfl rfl (by decide) rfl rfl) oa_nil rfl) rfl) rfl))) os_nil) os_nil) (os_cons (os_set (i := 7) S.nd rfl (by first | exact Or.inl rfl | exact Or.inr rfl) (oe_call ih__law_sayings (hr.mono (by first | decide | omega)) rfl T.g__law_sayings T.F__law_sayings.kp (bz__law_sayings T) (takes_of rfl rfl rfl rfl) (oa_cons (ov 0) (oa_cons (ov 1) (oa_cons (oe_op op_sub lk_sub (ov 2) oe_int) (oa_cons (ov 3) oa_nil rfl) rfl) rfl) rfl) ok_nil rfl rfl rfl rfl (by decide) rfl rfl) rfl (by first | exact Or.inl rfl | exact Or.inr rfl)) (os_cons (os_if (ot_cmp op_lt lk_ord rfl (ov 4) oe_int) (os_cons (os_ret (oe_tup (oa_cons oe_str (oa_cons (oe_tup (oa_cons oe_str (oa_cons (ov 6) oa_nil rfl) rfl)) (oa_cons (oe_op op_addZ lk_add (oe_sl (ov 7) oo_none (oo_some oe_int)) (oe_tup (oa_cons (oe_tup (oa_cons oe_str (oa_cons (ov 6) (oa_cons (oe_tup (oa_cons oe_str (oa_cons (oe_tup (oa_cons oe_str (oa_cons (ov 6) oa_nil rfl) rfl)) (oa_cons oe_int oa_nil rfl) rfl) rfl)) oa_nil rfl) rfl) rfl)) oa_nil rfl))) oa_nil rfl) rfl) rfl))) os_nil) os_nil) (os_cons (os_ret (oe_tup (oa_cons oe_str (oa_cons (ov 7) (oa_cons (ov 6) (oa_cons (oe_call ih__law_sayings (hr.mono (by first | decide | omega)) rfl T.g__law_sayings T.F__law_sayings.kp (bz__law_sayings T) (takes_of rfl rfl rfl rfl) (oa_cons (ov 0) (oa_cons (ov 1) (oa_cons (oe_op op_sub lk_sub (ov 2) oe_int) (oa_cons (ov 3) oa_nil rfl) rfl) rfl) rfl) ok_nil rfl rfl rfl rfl (by decide) rfl rfl) oa_nil rfl) rfl) rfl) rfl))) os_nil)))))))))))
    · have S := s__law_sayings
      refine fn_ok (N := ["_law_bag_here", "_law_heads", "_law_deep", "_law_wide", "_law_many", "_law_k"]) (ps := ["_law_bag_here", "_law_heads", "_law_deep", "_law_wide"]) (n := 6) (k := 12 + n) (m := m__law_sayings (F__law_saying n) (F__law_sayings n)) T.F__law_sayings S rfl (fun cdv A outer s H E hr => ?_)
      exact (os_cons (os_set (i := 4) S.nd rfl (by first | exact Or.inl rfl | exact Or.inr rfl) (oe_call (ok__law_take T) (hr.mono (by first | decide | omega)) rfl T.g__law_take T.F__law_take.kp (bz__law_take T) (takes_of rfl rfl rfl rfl) (oa_cons (ov 0) (oa_cons (oe_ix ix_seq lk_ix (fun _ _ => rfl) (oe_lst (oa_cons oe_int (oa_cons oe_int (oa_cons oe_int (oa_cons oe_int (oa_cons oe_int (oa_cons oe_int (oa_cons oe_int (oa_cons oe_int oa_nil rfl) rfl) rfl) rfl) rfl) rfl) rfl) rfl)) (oe_call (ok__law_take T) (hr.mono (by first | decide | omega)) rfl T.g__law_take T.F__law_take.kp (bz__law_take T) (takes_of rfl rfl rfl rfl) (oa_cons (ov 0) (oa_cons oe_int oa_nil rfl) rfl) ok_nil rfl rfl rfl rfl (by decide) rfl rfl)) oa_nil rfl) rfl) ok_nil rfl rfl rfl rfl (by decide) rfl rfl) rfl (by first | exact Or.inl rfl | exact Or.inr rfl)) (os_cons (os_ret (oe_callTy call_tupleF lk_tpl rfl T.g_tuple zb_tuple (oa_cons (oe_lc (own := [("_law_k", 5)]) (sl := [5]) rfl S.nd (oi_rg1 rfl T.g_range (oa_cons (ov 4) oa_nil rfl)) (blkOk_by (N := ["_law_bag_here", "_law_heads", "_law_deep", "_law_wide", "_law_many", "_law_k"]) (sc := defScope D30.1) (own := [("_law_k", 5)]) (by decide +kernel)) (by decide) (fun _ _ _ _ _ => (og_name (i := 5) S.nd rfl (by first | exact Or.inl rfl | exact Or.inr rfl) (by first | exact Or.inl rfl | exact Or.inr rfl))) (fun _ _ _ _ _ => ots_nil) (fun _ _ _ _ _ => (oe_call ih__law_saying (hr.mono (by first | decide | omega)) rfl T.g__law_saying T.F__law_saying.kp (bz__law_saying T) takesW (oa_cons (ov 0) (oa_cons (ov 1) (oa_cons (ov 2) (oa_cons (ov 3) oa_nil rfl) rfl) rfl) rfl) ok_nil rfl rfl rfl rfl (by decide) rfl rfl)) (fun _ => rfl)) oa_nil rfl) (by decide) (by decide) rfl rfl)) os_nil))
theorem ok__law_saying (T : Txt w K mg) : FnG P w K mg base (L2.CX P w) 28 T.a__law_saying T.d__law_saying ["_law_bag_here", "_law_heads", "_law_deep", "_law_wide"] (spF K ["_law_bag_here", "_law_heads", "_law_deep", "_law_wide"].length (F__law_saying 16)) := (okg__law_saying T 16).1
theorem ok__law_sayings (T : Txt w K mg) : FnG P w K mg base (L2.CX P w) 28 T.a__law_sayings T.d__law_sayings ["_law_bag_here", "_law_heads", "_law_deep", "_law_wide"] (spF K ["_law_bag_here", "_law_heads", "_law_deep", "_law_wide"].length (F__law_sayings 16)) := (okg__law_saying T 16).2
theorem s__law_tree : FnScope ["_law_bag_here", "_law_many", "_law_names", "_law_heads", "_law_name", "_law_found", "_law_deep", "_law_wide", "_law_sayings_here"] ["_law_bag_here"] (defScope D31.1) := ⟨rfl, rfl, rfl, by decide +kernel, rfl, by decide +kernel, by decide +kernel⟩
theorem bz__law_tree (T : Txt w K mg) : KBz K T.d__law_tree ["_law_bag_here"] 1 [] (fun ws _ => ws) := kbz_pos (T.F__law_tree.binds fun _ _ _ _ _ _ us hl => match us, hl with | [_], _ => rfl)
theorem ok__law_tree (T : Txt w K mg) : FnG P w K mg base (L2.CX P w) 29 T.a__law_tree T.d__law_tree ["_law_bag_here"] (spF K ["_law_bag_here"].length F__law_tree) := by
  have S := s__law_tree
  refine fn_ok (N := ["_law_bag_here", "_law_many", "_law_names", "_law_heads", "_law_name", "_law_found", "_law_deep", "_law_wide", "_law_sayings_here"]) (ps := ["_law_bag_here"]) (n := 9) (k := 28) (m := m__law_tree) T.F__law_tree S rfl (fun cdv A outer s H E hr => ?_)
  exact (os_cons (os_set (i := 1) S.nd rfl (by first | exact Or.inl rfl | exact Or.inr rfl) (oe_ix ix_seq lk_ix (fun _ _ => rfl) (oe_lst (oa_cons oe_int (oa_cons oe_int (oa_cons oe_int (oa_cons oe_int (oa_cons oe_int (oa_cons oe_int (oa_cons oe_int (oa_cons oe_int oa_nil rfl) rfl) rfl) rfl) rfl) rfl) rfl) rfl)) (oe_call (ok__law_take T) (hr.mono (by first | decide | omega)) rfl T.g__law_take T.F__law_take.kp (bz__law_take T) (takes_of rfl rfl rfl rfl) (oa_cons (ov 0) (oa_cons oe_int oa_nil rfl) rfl) ok_nil rfl rfl rfl rfl (by decide) rfl rfl)) rfl (by first | exact Or.inl rfl | exact Or.inr rfl)) (os_cons (os_set (i := 2) S.nd rfl (by first | exact Or.inl rfl | exact Or.inr rfl) (oe_sl (oe_lst (oa_cons oe_str (oa_cons oe_str (oa_cons oe_str (oa_cons oe_str (oa_cons oe_str (oa_cons oe_str oa_nil rfl) rfl) rfl) rfl) rfl) rfl)) oo_none (oo_some (ov 1))) rfl (by first | exact Or.inl rfl | exact Or.inr rfl)) (os_cons (os_set (i := 3) S.nd rfl (by first | exact Or.inl rfl | exact Or.inr rfl) oe_dnew rfl (by first | exact Or.inl rfl | exact Or.inr rfl)) (os_cons (os_for (passes_of rfl) rfl (oi_val (ov 2)) (og_name (i := 4) S.nd rfl (by first | exact Or.inl rfl | exact Or.inr rfl) (by first | exact Or.inl rfl | exact Or.inr rfl)) (os_cons (os_dput hr.toRoom (ov 3) (ov 4) (oe_call (ok__law_take T) (hr.mono (by first | decide | omega)) rfl T.g__law_take T.F__law_take.kp (bz__law_take T) (takes_of rfl rfl rfl rfl) (oa_cons (ov 0) (oa_cons oe_int oa_nil rfl) rfl) ok_nil rfl rfl rfl rfl (by decide) rfl rfl) rfl) os_nil) (fun _ => rfl)) (os_cons (os_set (i := 5) S.nd rfl (by first | exact Or.inl rfl | exact Or.inr rfl) (oe_new oa_nil) rfl (by first | exact Or.inl rfl | exact Or.inr rfl)) (os_cons (os_for (passes_of rfl) rfl (oi_val (ov 2)) (og_name (i := 4) S.nd rfl (by first | exact Or.inl rfl | exact Or.inr rfl) (by first | exact Or.inl rfl | exact Or.inr rfl)) (os_cons (os_asg (oe_ix ix_seq lk_ix (fun _ _ => rfl) (oe_lst (oa_cons (oe_tup (oa_cons oe_int (oa_cons oe_int oa_nil rfl) rfl)) (oa_cons (oe_tup (oa_cons oe_int (oa_cons oe_int oa_nil rfl) rfl)) (oa_cons (oe_tup (oa_cons oe_int (oa_cons oe_int oa_nil rfl) rfl)) (oa_cons (oe_tup (oa_cons oe_int (oa_cons oe_int oa_nil rfl) rfl)) (oa_cons (oe_tup (oa_cons oe_int (oa_cons oe_int oa_nil rfl) rfl)) (oa_cons (oe_tup (oa_cons oe_int (oa_cons oe_int oa_nil rfl) rfl)) oa_nil rfl) rfl) rfl) rfl) rfl) rfl)) (oe_call (ok__law_take T) (hr.mono (by first | decide | omega)) rfl T.g__law_take T.F__law_take.kp (bz__law_take T) (takes_of rfl rfl rfl rfl) (oa_cons (ov 0) (oa_cons oe_int oa_nil rfl) rfl) ok_nil rfl rfl rfl rfl (by decide) rfl rfl)) (og_tup rfl (ogs_cons (og_name (i := 6) S.nd rfl (by first | exact Or.inl rfl | exact Or.inr rfl) (by first | exact Or.inl rfl | exact Or.inr rfl)) (ogs_cons (og_name (i := 7) S.nd rfl (by first | exact Or.inl rfl | exact Or.inr rfl) (by first | exact Or.inl rfl | exact Or.inr rfl)) ogs_nil rfl) rfl) rfl rfl) rfl rfl rfl) (os_cons (os_set (i := 8) S.nd rfl (by first | exact Or.inl rfl | exact Or.inr rfl) (oe_call (ok__law_sayings T) (hr.mono (by first | decide | omega)) rfl T.g__law_sayings T.F__law_sayings.kp (bz__law_sayings T) (takes_of rfl rfl rfl rfl) (oa_cons (ov 0) (oa_cons (ov 3) (oa_cons (ov 6) (oa_cons (ov 7) oa_nil rfl) rfl) rfl) rfl) ok_nil rfl rfl rfl rfl (by decide) rfl rfl) rfl (by first | exact Or.inl rfl | exact Or.inr rfl)) (os_cons (os_if (ot_cmp (op_eqZ (hr.mono (Nat.zero_le _)).units) lk_eq rfl (ov 8) (oe_tup oa_nil)) (os_cons (os_set (i := 8) S.nd rfl (by first | exact Or.inl rfl | exact Or.inr rfl) (oe_tup (oa_cons (oe_call (ok__law_saying T) (hr.mono (by first | decide | omega)) rfl T.g__law_saying T.F__law_saying.kp (bz__law_saying T) (takes_of rfl rfl rfl rfl) (oa_cons (ov 0) (oa_cons (ov 3) (oa_cons (ov 6) (oa_cons (ov 7) oa_nil rfl) rfl) rfl) rfl) ok_nil rfl rfl rfl rfl (by decide) rfl rfl) oa_nil rfl)) rfl (by first | exact Or.inl rfl | exact Or.inr rfl)) os_nil) os_nil) (os_cons (os_expr (oe_mtL PySem.F.slot_list_append PySem.F.type_list_append mt_append lk_app (ov 5) (oa_cons (oe_tup (oa_cons (ov 4) (oa_cons (oe_sl (oe_tup (oa_cons oe_str (oa_cons oe_str (oa_cons oe_str oa_nil rfl) rfl) rfl)) oo_none (oo_some (oe_dget hr.toRoom (ov 3) (ov 4) (fun _ _ => rfl)))) (oa_cons (ov 8) oa_nil rfl) rfl) rfl)) oa_nil rfl)) rfl) os_nil)))) (fun _ => rfl)) (os_cons (os_ret (oe_callTy call_tupleF lk_tpl rfl T.g_tuple zb_tuple (oa_cons (ov 5) oa_nil rfl) (by decide) (by decide) rfl rfl)) os_nil)))))))
theorem s__law_emit_value : FnScope ["_law_rows_here", "_law_value_here", "_law_one"] ["_law_rows_here", "_law_value_here"] (defScope D33.1) := ⟨rfl, rfl, rfl, by decide +kernel, rfl, by decide +kernel, by decide +kernel⟩
theorem bz__law_emit_value (T : Txt w K mg) : KBz K T.d__law_emit_value ["_law_rows_here", "_law_value_here"] 2 [] (fun ws _ => ws) := kbz_pos (T.F__law_emit_value.binds fun _ _ _ _ _ _ us hl => match us, hl with | [_, _], _ => rfl)
theorem okg__law_emit_value (T : Txt w K mg) : ∀ n, FnG P w K mg base (L2.CX P w) (1 + n) T.a__law_emit_value T.d__law_emit_value ["_law_rows_here", "_law_value_here"] (spF K ["_law_rows_here", "_law_value_here"].length (F__law_emit_value n))
  | 0 => ⟨fun _ _ _ _ ⟨_, _, _, _, _, _, _, p⟩ => p.elim, fun _ _ _ _ _ _ _ _ _ _ _ _ _ ⟨_, _, _, _, _, _, _, p⟩ => p.elim⟩
  | n + 1 => by
    have ih__law_emit_value := okg__law_emit_value T n
    · have S := s__law_emit_value
      refine fn_ok (N := ["_law_rows_here", "_law_value_here", "_law_one"]) (ps := ["_law_rows_here", "_law_value_here"]) (n := 3) (k := 1 + n) (m := m__law_emit_value (F__law_emit_value n)) T.F__law_emit_value S rfl (fun cdv A outer s H E hr => ?_)
      exact (os_cons (os_if (ot_val (oe_callB call_isi lk_isi rfl T.g_isinstance zb_isinstance (oa_cons (ov 1) (oa_cons (oe_ty rfl T.g_int zb_int) oa_nil rfl) rfl) (by decide) (by decide) rfl rfl) (fun _ => rfl)) (os_cons (os_expr (oe_mtL PySem.F.slot_list_append PySem.F.type_list_append mt_append lk_app (ov 0) (oa_cons (oe_tup (oa_cons oe_str (oa_cons (ov 1) oa_nil rfl) rfl)) oa_nil rfl)) rfl) os_nil) (os_cons (os_if (ot_cmp (op_eqZ (hr.mono (Nat.zero_le _)).units) lk_eq rfl (oe_ix ix_seq lk_ix (fun _ _ => rfl) (ov 1) oe_int) oe_str) (os_cons (os_expr (oe_mtL PySem.F.slot_list_append PySem.F.type_list_append mt_append lk_app (ov 0) (oa_cons (oe_tup (oa_cons oe_str (oa_cons (oe_ix ix_seq lk_ix (fun _ _ => rfl) (ov 1) oe_int) oa_nil rfl) rfl)) oa_nil rfl)) rfl) os_nil) (os_cons (os_if (ot_cmp (op_eqZ (hr.mono (Nat.zero_le _)).units) lk_eq rfl (oe_ix ix_seq lk_ix (fun _ _ => rfl) (ov 1) oe_int) oe_str) (os_cons (os_for (passes_of rfl) rfl (oi_val (oe_ix ix_seq lk_ix (fun _ _ => rfl) (ov 1) oe_int)) (og_name (i := 2) S.nd rfl (by first | exact Or.inl rfl | exact Or.inr rfl) (by first | exact Or.inl rfl | exact Or.inr rfl)) (os_cons (os_expr (oe_call ih__law_emit_value (hr.mono (by first | decide | omega)) rfl T.g__law_emit_value T.F__law_emit_value.kp (bz__law_emit_value T) (takes_of rfl rfl rfl rfl) (oa_cons (ov 0) (oa_cons (ov 2) oa_nil rfl) rfl) ok_nil rfl rfl rfl rfl (by decide) rfl rfl) rfl) os_nil) (fun _ => rfl)) (os_cons (os_expr (oe_mtL PySem.F.slot_list_append PySem.F.type_list_append mt_append lk_app (ov 0) (oa_cons (oe_tup (oa_cons oe_str (oa_cons (oe_ix ix_seq lk_ix (fun _ _ => rfl) (ov 1) oe_int) oa_nil rfl) rfl)) oa_nil rfl)) rfl) os_nil)) (os_cons (os_expr (oe_call ih__law_emit_value (hr.mono (by first | decide | omega)) rfl T.g__law_emit_value T.F__law_emit_value.kp (bz__law_emit_value T) (takes_of rfl rfl rfl rfl) (oa_cons (ov 0) (oa_cons (oe_ix ix_seq lk_ix (fun _ _ => rfl) (ov 1) oe_int) oa_nil rfl) rfl) ok_nil rfl rfl rfl rfl (by decide) rfl rfl) rfl) (os_cons (os_expr (oe_call ih__law_emit_value (hr.mono (by first | decide | omega)) rfl T.g__law_emit_value T.F__law_emit_value.kp (bz__law_emit_value T) (takes_of rfl rfl rfl rfl) (oa_cons (ov 0) (oa_cons (oe_ix ix_seq lk_ix (fun _ _ => rfl) (ov 1) oe_int) oa_nil rfl) rfl) ok_nil rfl rfl rfl rfl (by decide) rfl rfl) rfl) (os_cons (os_expr (oe_mtL PySem.F.slot_list_append PySem.F.type_list_append mt_append lk_app (ov 0) (oa_cons (oe_tup (oa_cons (oe_ix ix_seq lk_ix (fun _ _ => rfl) (ov 1) oe_int) oa_nil rfl)) oa_nil rfl)) rfl) os_nil)))) os_nil)) os_nil)) os_nil)
theorem ok__law_emit_value (T : Txt w K mg) : FnG P w K mg base (L2.CX P w) 9 T.a__law_emit_value T.d__law_emit_value ["_law_rows_here", "_law_value_here"] (spF K ["_law_rows_here", "_law_value_here"].length (F__law_emit_value 8)) := (okg__law_emit_value T 8)
theorem s__law_emit_one : FnScope ["_law_rows_here", "_law_saying_here", "_law_word", "_law_first", "_law_here", "_law_last"] ["_law_rows_here", "_law_saying_here"] (defScope D34.1) := ⟨rfl, rfl, rfl, by decide +kernel, rfl, by decide +kernel, by decide +kernel⟩
theorem bz__law_emit_one (T : Txt w K mg) : KBz K T.d__law_emit_one ["_law_rows_here", "_law_saying_here"] 2 [] (fun ws _ => ws) := kbz_pos (T.F__law_emit_one.binds fun _ _ _ _ _ _ us hl => match us, hl with | [_, _], _ => rfl)
theorem s__law_emit : FnScope ["_law_rows_here", "_law_sayings_here", "_law_saying_here"] ["_law_rows_here", "_law_sayings_here"] (defScope D35.1) := ⟨rfl, rfl, rfl, by decide +kernel, rfl, by decide +kernel, by decide +kernel⟩
theorem bz__law_emit (T : Txt w K mg) : KBz K T.d__law_emit ["_law_rows_here", "_law_sayings_here"] 2 [] (fun ws _ => ws) := kbz_pos (T.F__law_emit.binds fun _ _ _ _ _ _ us hl => match us, hl with | [_, _], _ => rfl)
theorem okg__law_emit_one (T : Txt w K mg) : ∀ n, FnG P w K mg base (L2.CX P w) (10 + n) T.a__law_emit_one T.d__law_emit_one ["_law_rows_here", "_law_saying_here"] (spF K ["_law_rows_here", "_law_saying_here"].length (F__law_emit_one n)) ∧
      FnG P w K mg base (L2.CX P w) (10 + n) T.a__law_emit T.d__law_emit ["_law_rows_here", "_law_sayings_here"] (spF K ["_law_rows_here", "_law_sayings_here"].length (F__law_emit n))
  | 0 => ⟨⟨fun _ _ _ _ ⟨_, _, _, _, _, _, _, p⟩ => p.elim, fun _ _ _ _ _ _ _ _ _ _ _ _ _ ⟨_, _, _, _, _, _, _, p⟩ => p.elim⟩, ⟨fun _ _ _ _ ⟨_, _, _, _, _, _, _, p⟩ => p.elim, fun _ _ _ _ _ _ _ _ _ _ _ _ _ ⟨_, _, _, _, _, _, _, p⟩ => p.elim⟩⟩
  | n + 1 => by
    obtain ⟨ih__law_emit_one, ih__law_emit⟩ := okg__law_emit_one T n
    refine ⟨?_, ?_⟩
    · have S := s__law_emit_one
      refine fn_ok (N := ["_law_rows_here", "_law_saying_here", "_law_word", "_law_first", "_law_here", "_law_last"]) (ps := ["_law_rows_here", "_law_saying_here"]) (n := 6) (k := 10 + n) (m := m__law_emit_one (F__law_emit_one n) (F__law_emit n)) T.F__law_emit_one S rfl (fun cdv A outer s H E hr => ?_)
      exact (os_cons (os_set (i := 2) S.nd rfl (by first | exact Or.inl rfl | exact Or.inr rfl) (oe_ix ix_seq lk_ix (fun _ _ => rfl) (ov 1) oe_int) rfl (by first | exact Or.inl rfl | exact Or.inr rfl)) (os_cons (os_set (i := 3) S.nd rfl (by first | exact Or.inl rfl | exact Or.inr rfl) (oe_callB call_len lk_len rfl T.g_len zb_len (oa_cons (ov 0) oa_nil rfl) (by decide) (by decide) rfl rfl) rfl (by first | exact Or.inl rfl | exact Or.inr rfl)) (os_cons (os_if (ot_cmp (op_eqZ (hr.mono (Nat.zero_le _)).units) lk_eq rfl (ov 2) oe_str) (os_cons (os_expr (oe_mtL PySem.F.slot_list_append PySem.F.type_list_append mt_append lk_app (ov 0) (oa_cons oe_non oa_nil rfl)) rfl) (os_cons (os_expr (oe_call ih__law_emit (hr.mono (by first | decide | omega)) rfl T.g__law_emit T.F__law_emit.kp (bz__law_emit T) (takes_of rfl rfl rfl rfl) (oa_cons (ov 0) (oa_cons (oe_ix ix_seq lk_ix (fun _ _ => rfl) (ov 1) oe_int) oa_nil rfl) rfl) ok_nil rfl rfl rfl rfl (by decide) rfl rfl) rfl) (os_cons (os_expr (oe_mtL PySem.F.slot_list_extend PySem.F.type_list_extend mt_extend lk_ext (ov 0) (oa_cons (oe_lst (oa_cons (oe_tup (oa_cons oe_str oa_nil rfl)) (oa_cons oe_non (oa_cons (oe_tup (oa_cons oe_str (oa_cons (oe_ix ix_seq lk_ix (fun _ _ => rfl) (ov 1) oe_int) oa_nil rfl) rfl)) oa_nil rfl) rfl) rfl)) oa_nil rfl)) rfl) (os_cons (os_asg (oe_tup (oa_cons oe_str (oa_cons (oe_op op_sub lk_sub (oe_callB call_len lk_len rfl T.g_len zb_len (oa_cons (ov 0) oa_nil rfl) (by decide) (by decide) rfl rfl) oe_int) oa_nil rfl) rfl)) (og_sub (ov 0) (ov 3)) rfl rfl rfl) (os_cons (os_set (i := 5) S.nd rfl (by first | exact Or.inl rfl | exact Or.inr rfl) (oe_op op_sub lk_sub (oe_callB call_len lk_len rfl T.g_len zb_len (oa_cons (ov 0) oa_nil rfl) (by decide) (by decide) rfl rfl) oe_int) rfl (by first | exact Or.inl rfl | exact Or.inr rfl)) (os_cons (os_expr (oe_call ih__law_emit (hr.mono (by first | decide | omega)) rfl T.g__law_emit T.F__law_emit.kp (bz__law_emit T) (takes_of rfl rfl rfl rfl) (oa_cons (ov 0) (oa_cons (oe_ix ix_seq lk_ix (fun _ _ => rfl) (ov 1) oe_int) oa_nil rfl) rfl) ok_nil rfl rfl rfl rfl (by decide) rfl rfl) rfl) (os_cons (os_asg (oe_tup (oa_cons oe_str (oa_cons (oe_callB call_len lk_len rfl T.g_len zb_len (oa_cons (ov 0) oa_nil rfl) (by decide) (by decide) rfl rfl) oa_nil rfl) rfl)) (og_sub (ov 0) (ov 5)) rfl rfl rfl) (os_cons os_retN os_nil)))))))) os_nil) (os_cons (os_expr (oe_call (ok__law_emit_value T) (hr.mono (by first | decide | omega)) rfl T.g__law_emit_value T.F__law_emit_value.kp (bz__law_emit_value T) (takes_of rfl rfl rfl rfl) (oa_cons (ov 0) (oa_cons (oe_ix ix_seq lk_ix (fun _ _ => rfl) (ov 1) (oe_op op_addZ lk_add oe_int (oe_callTy call_int1 lk_int rfl T.g_int zb_int (oa_cons (oe_cmp (op_eqZ (hr.mono (Nat.zero_le _)).units) lk_eq rfl (ov 2) oe_str) oa_nil rfl) (by decide) (by decide) rfl rfl))) oa_nil rfl) rfl) ok_nil rfl rfl rfl rfl (by decide) rfl rfl) rfl) (os_cons (os_set (i := 4) S.nd rfl (by first | exact Or.inl rfl | exact Or.inr rfl) (oe_callB call_len lk_len rfl T.g_len zb_len (oa_cons (ov 0) oa_nil rfl) (by decide) (by decide) rfl rfl) rfl (by first | exact Or.inl rfl | exact Or.inr rfl)) (os_cons (os_if (ot_cmp (op_eqZ (hr.mono (Nat.zero_le _)).units) lk_eq rfl (ov 2) oe_str) (os_cons (os_expr (oe_mtL PySem.F.slot_list_append PySem.F.type_list_append mt_append lk_app (ov 0) (oa_cons oe_non oa_nil rfl)) rfl) (os_cons (os_expr (oe_call ih__law_emit (hr.mono (by first | decide | omega)) rfl T.g__law_emit T.F__law_emit.kp (bz__law_emit T) (takes_of rfl rfl rfl rfl) (oa_cons (ov 0) (oa_cons (oe_ix ix_seq lk_ix (fun _ _ => rfl) (ov 1) oe_int) oa_nil rfl) rfl) ok_nil rfl rfl rfl rfl (by decide) rfl rfl) rfl) (os_cons (os_set (i := 5) S.nd rfl (by first | exact Or.inl rfl | exact Or.inr rfl) (oe_callB call_len lk_len rfl T.g_len zb_len (oa_cons (ov 0) oa_nil rfl) (by decide) (by decide) rfl rfl) rfl (by first | exact Or.inl rfl | exact Or.inr rfl)) (os_cons (os_expr (oe_mtL PySem.F.slot_list_append PySem.F.type_list_append mt_append lk_app (ov 0) (oa_cons oe_non oa_nil rfl)) rfl) (os_cons (os_asg (oe_tup (oa_cons oe_str (oa_cons (oe_callB call_len lk_len rfl T.g_len zb_len (oa_cons (ov 0) oa_nil rfl) (by decide) (by decide) rfl rfl) oa_nil rfl) rfl)) (og_sub (ov 0) (ov 4)) rfl rfl rfl) (os_cons (os_expr (oe_call ih__law_emit (hr.mono (by first | decide | omega)) rfl T.g__law_emit T.F__law_emit.kp (bz__law_emit T) (takes_of rfl rfl rfl rfl) (oa_cons (ov 0) (oa_cons (oe_ix ix_seq lk_ix (fun _ _ => rfl) (ov 1) oe_int) oa_nil rfl) rfl) ok_nil rfl rfl rfl rfl (by decide) rfl rfl) rfl) (os_cons (os_asg (oe_tup (oa_cons oe_str (oa_cons (oe_callB call_len lk_len rfl T.g_len zb_len (oa_cons (ov 0) oa_nil rfl) (by decide) (by decide) rfl rfl) oa_nil rfl) rfl)) (og_sub (ov 0) (ov 5)) rfl rfl rfl) os_nil))))))) (os_cons (os_if (ot_cmp (op_eqZ (hr.mono (Nat.zero_le _)).units) lk_eq rfl (ov 2) oe_str) (os_cons (os_expr (oe_mtL PySem.F.slot_list_extend PySem.F.type_list_extend mt_extend lk_ext (ov 0) (oa_cons (oe_lst (oa_cons (oe_tup (oa_cons oe_str (oa_cons (oe_op op_addZ lk_add (ov 4) oe_int) oa_nil rfl) rfl)) (oa_cons oe_non oa_nil rfl) rfl)) oa_nil rfl)) rfl) (os_cons (os_expr (oe_call ih__law_emit (hr.mono (by first | decide | omega)) rfl T.g__law_emit T.F__law_emit.kp (bz__law_emit T) (takes_of rfl rfl rfl rfl) (oa_cons (ov 0) (oa_cons (oe_ix ix_seq lk_ix (fun _ _ => rfl) (ov 1) oe_int) oa_nil rfl) rfl) ok_nil rfl rfl rfl rfl (by decide) rfl rfl) rfl) (os_cons (os_expr (oe_mtL PySem.F.slot_list_append PySem.F.type_list_append mt_append lk_app (ov 0) (oa_cons (oe_tup (oa_cons oe_str (oa_cons (ov 3) oa_nil rfl) rfl)) oa_nil rfl)) rfl) (os_cons (os_asg (oe_tup (oa_cons oe_str (oa_cons (oe_callB call_len lk_len rfl T.g_len zb_len (oa_cons (ov 0) oa_nil rfl) (by decide) (by decide) rfl rfl) oa_nil rfl) rfl)) (og_sub (ov 0) (oe_op op_addZ lk_add (ov 4) oe_int)) rfl rfl rfl) os_nil)))) (os_cons (os_expr (oe_mtL PySem.F.slot_list_append PySem.F.type_list_append mt_append lk_app (ov 0) (oa_cons (oe_op op_addZ lk_add (oe_tup (oa_cons (ov 2) oa_nil rfl)) (oe_sl (ov 1) (oo_some oe_int) (oo_some (oe_un un_neg lk_neg oe_int)))) oa_nil rfl)) rfl) os_nil)) os_nil)) os_nil))))))
    · have S := s__law_emit
      refine fn_ok (N := ["_law_rows_here", "_law_sayings_here", "_law_saying_here"]) (ps := ["_law_rows_here", "_law_sayings_here"]) (n := 3) (k := 10 + n) (m := m__law_emit (F__law_emit_one n) (F__law_emit n)) T.F__law_emit S rfl (fun cdv A outer s H E hr => ?_)
      exact (os_cons (os_for (passes_of rfl) rfl (oi_val (ov 1)) (og_name (i := 2) S.nd rfl (by first | exact Or.inl rfl | exact Or.inr rfl) (by first | exact Or.inl rfl | exact Or.inr rfl)) (os_cons (os_expr (oe_call ih__law_emit_one (hr.mono (by first | decide | omega)) rfl T.g__law_emit_one T.F__law_emit_one.kp (bz__law_emit_one T) (takes_of rfl rfl rfl rfl) (oa_cons (ov 0) (oa_cons (ov 2) oa_nil rfl) rfl) ok_nil rfl rfl rfl rfl (by decide) rfl rfl) rfl) os_nil) (fun _ => rfl)) os_nil)
theorem ok__law_emit_one (T : Txt w K mg) : FnG P w K mg base (L2.CX P w) 34 T.a__law_emit_one T.d__law_emit_one ["_law_rows_here", "_law_saying_here"] (spF K ["_law_rows_here", "_law_saying_here"].length (F__law_emit_one 24)) := (okg__law_emit_one T 24).1
theorem ok__law_emit (T : Txt w K mg) : FnG P w K mg base (L2.CX P w) 34 T.a__law_emit T.d__law_emit ["_law_rows_here", "_law_sayings_here"] (spF K ["_law_rows_here", "_law_sayings_here"].length (F__law_emit 24)) := (okg__law_emit_one T 24).2
theorem s__law_rows : FnScope ["_law_sayings_here", "_law_rows_here"] ["_law_sayings_here"] (defScope D36.1) := ⟨rfl, rfl, rfl, by decide +kernel, rfl, by decide +kernel, by decide +kernel⟩
theorem bz__law_rows (T : Txt w K mg) : KBz K T.d__law_rows ["_law_sayings_here"] 1 [] (fun ws _ => ws) := kbz_pos (T.F__law_rows.binds fun _ _ _ _ _ _ us hl => match us, hl with | [_], _ => rfl)
theorem ok__law_rows (T : Txt w K mg) : FnG P w K mg base (L2.CX P w) 35 T.a__law_rows T.d__law_rows ["_law_sayings_here"] (spF K ["_law_sayings_here"].length F__law_rows) := by
  have S := s__law_rows
  refine fn_ok (N := ["_law_sayings_here", "_law_rows_here"]) (ps := ["_law_sayings_here"]) (n := 2) (k := 34) (m := m__law_rows) T.F__law_rows S rfl (fun cdv A outer s H E hr => ?_)
  exact (os_cons (os_set (i := 1) S.nd rfl (by first | exact Or.inl rfl | exact Or.inr rfl) (oe_new oa_nil) rfl (by first | exact Or.inl rfl | exact Or.inr rfl)) (os_cons (os_expr (oe_call (ok__law_emit T) (hr.mono (by first | decide | omega)) rfl T.g__law_emit T.F__law_emit.kp (bz__law_emit T) (takes_of rfl rfl rfl rfl) (oa_cons (ov 1) (oa_cons (ov 0) oa_nil rfl) rfl) ok_nil rfl rfl rfl rfl (by decide) rfl rfl) rfl) (os_cons (os_ret (oe_callTy call_tupleF lk_tpl rfl T.g_tuple zb_tuple (oa_cons (oe_op op_addZ lk_add (ov 1) (oe_lst (oa_cons (oe_tup (oa_cons oe_str (oa_cons oe_int oa_nil rfl) rfl)) (oa_cons (oe_tup (oa_cons oe_str oa_nil rfl)) oa_nil rfl) rfl))) oa_nil rfl) (by decide) (by decide) rfl rfl)) os_nil)))
theorem s__law_short : FnScope ["_law_tree_here", "_law_found", "_law_name", "_law_names", "_law_sayings_here"] ["_law_tree_here"] (defScope D37.1) := ⟨rfl, rfl, rfl, by decide +kernel, rfl, by decide +kernel, by decide +kernel⟩
theorem bz__law_short (T : Txt w K mg) : KBz K T.d__law_short ["_law_tree_here"] 1 [] (fun ws _ => ws) := kbz_pos (T.F__law_short.binds fun _ _ _ _ _ _ us hl => match us, hl with | [_], _ => rfl)
theorem ok__law_short (T : Txt w K mg) : FnG P w K mg base (L2.CX P w) 36 T.a__law_short T.d__law_short ["_law_tree_here"] (spF K ["_law_tree_here"].length F__law_short) := by
  have S := s__law_short
  refine fn_ok (N := ["_law_tree_here", "_law_found", "_law_name", "_law_names", "_law_sayings_here"]) (ps := ["_law_tree_here"]) (n := 5) (k := 35) (m := m__law_short) T.F__law_short S rfl (fun cdv A outer s H E hr => ?_)
  exact (os_cons (os_set (i := 1) S.nd rfl (by first | exact Or.inl rfl | exact Or.inr rfl) (oe_new oa_nil) rfl (by first | exact Or.inl rfl | exact Or.inr rfl)) (os_cons (os_for (passes_of rfl) rfl (oi_val (ov 0)) (og_tup rfl (ogs_cons (og_name (i := 2) S.nd rfl (by first | exact Or.inl rfl | exact Or.inr rfl) (by first | exact Or.inl rfl | exact Or.inr rfl)) (ogs_cons (og_name (i := 3) S.nd rfl (by first | exact Or.inl rfl | exact Or.inr rfl) (by first | exact Or.inl rfl | exact Or.inr rfl)) (ogs_cons (og_name (i := 4) S.nd rfl (by first | exact Or.inl rfl | exact Or.inr rfl) (by first | exact Or.inl rfl | exact Or.inr rfl)) ogs_nil rfl) rfl) rfl) rfl rfl) (os_cons (os_while (n := 9) (passes_of rfl) (ot_cmp op_gt lk_ord rfl (oe_callB call_len lk_len rfl T.g_len zb_len (oa_cons (oe_call (ok__law_rows T) (hr.mono (by first | decide | omega)) rfl T.g__law_rows T.F__law_rows.kp (bz__law_rows T) (takes_of rfl rfl rfl rfl) (oa_cons (ov 4) oa_nil rfl) ok_nil rfl rfl rfl rfl (by decide) rfl rfl) oa_nil rfl) (by decide) (by decide) rfl rfl) oe_int) (os_cons (os_set (i := 4) S.nd rfl (by first | exact Or.inl rfl | exact Or.inr rfl) (oe_sl (ov 4) oo_none (oo_some (oe_un un_neg lk_neg oe_int))) rfl (by first | exact Or.inl rfl | exact Or.inr rfl)) os_nil)) (os_cons (os_expr (oe_mtL PySem.F.slot_list_append PySem.F.type_list_append mt_append lk_app (ov 1) (oa_cons (oe_tup (oa_cons (ov 2) (oa_cons (ov 3) (oa_cons (ov 4) oa_nil rfl) rfl) rfl)) oa_nil rfl)) rfl) os_nil)) (fun _ => rfl)) (os_cons (os_ret (oe_callTy call_tupleF lk_tpl rfl T.g_tuple zb_tuple (oa_cons (ov 1) oa_nil rfl) (by decide) (by decide) rfl rfl)) os_nil)))
theorem s__law_told : FnScope ["_law_tree_here", "e", "_law_others"] ["_law_tree_here"] (defScope D38.1) := ⟨rfl, rfl, rfl, by decide +kernel, rfl, by decide +kernel, by decide +kernel⟩
theorem bz__law_told (T : Txt w K mg) : KBz K T.d__law_told ["_law_tree_here"] 1 [] (fun ws _ => ws) := kbz_pos (T.F__law_told.binds fun _ _ _ _ _ _ us hl => match us, hl with | [_], _ => rfl)
theorem ok__law_told (T : Txt w K mg) : FnG P w K mg base (L2.CX P w) 37 T.a__law_told T.d__law_told ["_law_tree_here"] (spF K ["_law_tree_here"].length (F__law_told T.C_Busy T.C_MADE T.C_NoHook T.C_NoMark T.C_NoNumbers T.C_NoPart T.C_NoProgram T.C_NoRow T.C_NoText T.C_NoWord T.C_TooLong T.C_TooMany T.C_Unsound T.a_rows_of_if T.a_rows_of_plain T.a_rows_of_set T.a_rows_of_try T.a_rows_of_while)) := by
  have S := s__law_told
  refine fn_ok (N := ["_law_tree_here", "e", "_law_others"]) (ps := ["_law_tree_here"]) (n := 3) (k := 36) (m := m__law_told T.C_Busy T.C_MADE T.C_NoHook T.C_NoMark T.C_NoNumbers T.C_NoPart T.C_NoProgram T.C_NoRow T.C_NoText T.C_NoWord T.C_TooLong T.C_TooMany T.C_Unsound T.a_rows_of_if T.a_rows_of_plain T.a_rows_of_set T.a_rows_of_try T.a_rows_of_while) T.F__law_told S rfl (fun cdv A outer s H E hr => ?_)
  exact (os_cons (os_tryM rfl rfl (takes_of rfl rfl rfl rfl) (fun W pn xe tk ps => (os_cons (os_ret (oe_call (ok_made T) (hr.mono (by first | decide | omega)) rfl T.g_made T.F_made.kp (bz_made T) tk (oa_cons (ov 0) oa_nil rfl) ok_nil rfl rfl rfl rfl (by decide) rfl rfl)) os_nil)) (.cons (i := 1) S.nd rfl rfl ⟨rfl, by decide, .inl T.nt_TooLong.gC⟩ (fun e a dd oe pn he hz hf => (os_cons (os_set (i := 2) S.nd rfl (by first | exact Or.inl rfl | exact Or.inr rfl) (oe_callB (call_isX T.x_TooLong (onlyN_zc he hz) hf) (lk_isX (cvs := [.ref T.C_NoHook, .ref T.C_NoMark, .ref T.C_NoNumbers, .ref T.C_NoPart, .ref T.C_NoProgram, .ref T.C_NoRow, .ref T.C_NoText, .ref T.C_NoWord, .ref T.C_TooMany, .ref T.C_Busy]) rfl T.i_2) rfl T.g_isinstance zb_isinstance (oa_cons (ov 1) (oa_cons (oe_tup (oa_cons (oe_gl rfl (cst_fun T.n_NoHook)) (oa_cons (oe_gl rfl (cst_fun T.n_NoMark)) (oa_cons (oe_gl rfl (cst_fun T.n_NoNumbers)) (oa_cons (oe_gl rfl (cst_fun T.n_NoPart)) (oa_cons (oe_gl rfl (cst_fun T.n_NoProgram)) (oa_cons (oe_gl rfl (cst_fun T.n_NoRow)) (oa_cons (oe_gl rfl (cst_fun T.n_NoText)) (oa_cons (oe_gl rfl (cst_fun T.n_NoWord)) (oa_cons (oe_gl rfl (cst_fun T.n_TooMany)) (oa_cons (oe_gl rfl (cst_fun T.n_Busy)) oa_nil rfl) rfl) rfl) rfl) rfl) rfl) rfl) rfl) rfl) rfl)) oa_nil rfl) rfl) (by decide) (by decide) rfl rfl) rfl (by first | exact Or.inl rfl | exact Or.inr rfl)) (os_cons (os_if (PW.pt (ow_or (ot_val (ov 2) (fun _ => rfl)) (ow_or (ot_val (oe_callB (call_isX T.x_TooLong (onlyN_zc he hz) hf) (lk_isX (cvs := [.ref T.C_Unsound]) rfl T.i_0) rfl T.g_isinstance zb_isinstance (oa_cons (ov 1) (oa_cons (oe_gl rfl (cst_fun T.n_Unsound)) oa_nil rfl) rfl) (by decide) (by decide) rfl rfl) (fun _ => rfl)) (ow_or1 (ot_not (ot_val (oe_callB (call_isX T.x_TooLong (onlyN_zc he hz) hf) (lk_isX (cvs := [.type "OverflowError"]) rfl T.i_1) rfl T.g_isinstance zb_isinstance (oa_cons (ov 1) (oa_cons (oe_ty rfl T.g_OverflowError zb_OverflowError) oa_nil rfl) rfl) (by decide) (by decide) rfl rfl) (fun _ => rfl))))))) (os_cons (os_ret oe_str) os_nil) os_nil) (os_cons (os_ret (oe_fld (fld_TooLong T.nt_TooLong) T.nt_TooLong.noN (onlyN_eq he) hz hf (ov 1) rfl)) os_nil)))) (onlyN_ok T.nt_TooLong.te T.nt_TooLong.exC T.nt_TooLong.hdC T.nt_TooLong.tyC (fun D hD => by cases hD)) .nil)) os_nil)
theorem s__law_due : FnScope ["_law_tree_here", "_law_found", "_law_name", "_law_names", "_law_sayings_here", "_law_rows_here"] ["_law_tree_here"] (defScope D39.1) := ⟨rfl, rfl, rfl, by decide +kernel, rfl, by decide +kernel, by decide +kernel⟩
theorem bz__law_due (T : Txt w K mg) : KBz K T.d__law_due ["_law_tree_here"] 1 [] (fun ws _ => ws) := kbz_pos (T.F__law_due.binds fun _ _ _ _ _ _ us hl => match us, hl with | [_], _ => rfl)
theorem ok__law_due (T : Txt w K mg) : FnG P w K mg base (L2.CX P w) 36 T.a__law_due T.d__law_due ["_law_tree_here"] (spF K ["_law_tree_here"].length F__law_due) := by
  have S := s__law_due
  refine fn_ok (N := ["_law_tree_here", "_law_found", "_law_name", "_law_names", "_law_sayings_here", "_law_rows_here"]) (ps := ["_law_tree_here"]) (n := 6) (k := 35) (m := m__law_due) T.F__law_due S rfl (fun cdv A outer s H E hr => ?_)
  exact (os_cons (os_set (i := 1) S.nd rfl (by first | exact Or.inl rfl | exact Or.inr rfl) (oe_new oa_nil) rfl (by first | exact Or.inl rfl | exact Or.inr rfl)) (os_cons (os_for (passes_of rfl) rfl (oi_val (ov 0)) (og_tup rfl (ogs_cons (og_name (i := 2) S.nd rfl (by first | exact Or.inl rfl | exact Or.inr rfl) (by first | exact Or.inl rfl | exact Or.inr rfl)) (ogs_cons (og_name (i := 3) S.nd rfl (by first | exact Or.inl rfl | exact Or.inr rfl) (by first | exact Or.inl rfl | exact Or.inr rfl)) (ogs_cons (og_name (i := 4) S.nd rfl (by first | exact Or.inl rfl | exact Or.inr rfl) (by first | exact Or.inl rfl | exact Or.inr rfl)) ogs_nil rfl) rfl) rfl) rfl rfl) (os_cons (os_set (i := 5) S.nd rfl (by first | exact Or.inl rfl | exact Or.inr rfl) (oe_call (ok__law_rows T) (hr.mono (by first | decide | omega)) rfl T.g__law_rows T.F__law_rows.kp (bz__law_rows T) (takes_of rfl rfl rfl rfl) (oa_cons (ov 4) oa_nil rfl) ok_nil rfl rfl rfl rfl (by decide) rfl rfl) rfl (by first | exact Or.inl rfl | exact Or.inr rfl)) (os_cons (os_if (ot_cmp op_gt lk_ord rfl (oe_callB call_len lk_len rfl T.g_len zb_len (oa_cons (ov 5) oa_nil rfl) (by decide) (by decide) rfl rfl) oe_int) (os_cons (os_ret (oe_callB call_len lk_len rfl T.g_len zb_len (oa_cons (ov 5) oa_nil rfl) (by decide) (by decide) rfl rfl)) os_nil) os_nil) (os_cons (os_expr (oe_mtL PySem.F.slot_list_append PySem.F.type_list_append mt_append lk_app (ov 1) (oa_cons (oe_tup (oa_cons (ov 2) (oa_cons (ov 3) (oa_cons (ov 5) oa_nil rfl) rfl) rfl)) oa_nil rfl)) rfl) os_nil))) (fun _ => rfl)) (os_cons (os_ret (oe_callTy call_tupleF lk_tpl rfl T.g_tuple zb_tuple (oa_cons (ov 1) oa_nil rfl) (by decide) (by decide) rfl rfl)) os_nil)))
theorem s__law_right : FnScope ["_law_tree_here", "_law_due_here", "_law_kept", "_law_turn"] ["_law_tree_here"] (defScope D40.1) := ⟨rfl, rfl, rfl, by decide +kernel, rfl, by decide +kernel, by decide +kernel⟩
theorem bz__law_right (T : Txt w K mg) : KBz K T.d__law_right ["_law_tree_here"] 1 [] (fun ws _ => ws) := kbz_pos (T.F__law_right.binds fun _ _ _ _ _ _ us hl => match us, hl with | [_], _ => rfl)
theorem ok__law_right (T : Txt w K mg) : FnG P w K mg base (L2.CX P w) 38 T.a__law_right T.d__law_right ["_law_tree_here"] (spF K ["_law_tree_here"].length (F__law_right T.C_Busy T.C_MADE T.C_NoHook T.C_NoMark T.C_NoNumbers T.C_NoPart T.C_NoProgram T.C_NoRow T.C_NoText T.C_NoWord T.C_TooLong T.C_TooMany T.C_Unsound T.a_rows_of_if T.a_rows_of_plain T.a_rows_of_set T.a_rows_of_try T.a_rows_of_while)) := by
  have S := s__law_right
  refine fn_ok (N := ["_law_tree_here", "_law_due_here", "_law_kept", "_law_turn"]) (ps := ["_law_tree_here"]) (n := 4) (k := 37) (m := m__law_right T.C_Busy T.C_MADE T.C_NoHook T.C_NoMark T.C_NoNumbers T.C_NoPart T.C_NoProgram T.C_NoRow T.C_NoText T.C_NoWord T.C_TooLong T.C_TooMany T.C_Unsound T.a_rows_of_if T.a_rows_of_plain T.a_rows_of_set T.a_rows_of_try T.a_rows_of_while) T.F__law_right S rfl (fun cdv A outer s H E hr => ?_)
  exact (os_cons (os_set (i := 1) S.nd rfl (by first | exact Or.inl rfl | exact Or.inr rfl) (oe_callB (call_reprD hr.gd hr.units) lk_repr rfl T.g_repr zb_repr (oa_cons (oe_call (ok__law_due T) (hr.mono (by first | decide | omega)) rfl T.g__law_due T.F__law_due.kp (bz__law_due T) (takes_of rfl rfl rfl rfl) (oa_cons (ov 0) oa_nil rfl) ok_nil rfl rfl rfl rfl (by decide) rfl rfl) oa_nil rfl) (by decide) (by decide) rfl rfl) rfl (by first | exact Or.inl rfl | exact Or.inr rfl)) (os_cons (os_set (i := 2) S.nd rfl (by first | exact Or.inl rfl | exact Or.inr rfl) (oe_callB (call_reprD hr.gd hr.units) lk_repr rfl T.g_repr zb_repr (oa_cons (ov 0) oa_nil rfl) (by decide) (by decide) rfl rfl) rfl (by first | exact Or.inl rfl | exact Or.inr rfl)) (os_cons (os_ret (oe_and (oe_cmp (op_eqZ (hr.mono (Nat.zero_le _)).units) lk_eq rfl (oe_lc (own := [("_law_turn", 3)]) (sl := [3]) rfl S.nd (oi_rg1 rfl T.g_range (oa_cons oe_int oa_nil rfl)) (blkOk_by (N := ["_law_tree_here", "_law_due_here", "_law_kept", "_law_turn"]) (sc := defScope D40.1) (own := [("_law_turn", 3)]) (by decide +kernel)) (by decide) (fun _ _ _ _ _ => (og_name (i := 3) S.nd rfl (by first | exact Or.inl rfl | exact Or.inr rfl) (by first | exact Or.inl rfl | exact Or.inr rfl))) (fun _ _ _ _ _ => ots_nil) (fun _ _ _ _ _ => (oe_callB (call_reprD hr.gd hr.units) lk_repr rfl T.g_repr zb_repr (oa_cons (oe_call (ok__law_told T) (hr.mono (by first | decide | omega)) rfl T.g__law_told T.F__law_told.kp (bz__law_told T) takesW (oa_cons (ov 0) oa_nil rfl) ok_nil rfl rfl rfl rfl (by decide) rfl rfl) oa_nil rfl) (by decide) (by decide) rfl rfl)) (fun _ => rfl)) (oe_lst (oa_cons (ov 1) (oa_cons (ov 1) oa_nil rfl) rfl))) (oe_one (oe_cmp (op_eqZ (hr.mono (Nat.zero_le _)).units) lk_eq rfl (oe_callB (call_reprD hr.gd hr.units) lk_repr rfl T.g_repr zb_repr (oa_cons (ov 0) oa_nil rfl) (by decide) (by decide) rfl rfl) (ov 2))))) os_nil)))
theorem s__law_balanced : FnScope ["_law_leaves"] ["_law_leaves"] (defScope D41.1) := ⟨rfl, rfl, rfl, by decide +kernel, rfl, by decide +kernel, by decide +kernel⟩
theorem bz__law_balanced (T : Txt w K mg) : KBz K T.d__law_balanced ["_law_leaves"] 1 [] (fun ws _ => ws) := kbz_pos (T.F__law_balanced.binds fun _ _ _ _ _ _ us hl => match us, hl with | [_], _ => rfl)
theorem okg__law_balanced (T : Txt w K mg) : ∀ n, FnG P w K mg base (L2.CX P w) (1 + n) T.a__law_balanced T.d__law_balanced ["_law_leaves"] (spF K ["_law_leaves"].length (F__law_balanced n))
  | 0 => ⟨fun _ _ _ _ ⟨_, _, _, _, _, _, _, p⟩ => p.elim, fun _ _ _ _ _ _ _ _ _ _ _ _ _ ⟨_, _, _, _, _, _, _, p⟩ => p.elim⟩
  | n + 1 => by
    have ih__law_balanced := okg__law_balanced T n
    · have S := s__law_balanced
      refine fn_ok (N := ["_law_leaves"]) (ps := ["_law_leaves"]) (n := 1) (k := 1 + n) (m := m__law_balanced (F__law_balanced n)) T.F__law_balanced S rfl (fun cdv A outer s H E hr => ?_)
      exact (os_cons (os_if (ot_cmp (op_eqZ (hr.mono (Nat.zero_le _)).units) lk_eq rfl (ov 0) oe_int) (os_cons (os_ret (oe_tup (oa_cons oe_str (oa_cons oe_str oa_nil rfl) rfl))) os_nil) os_nil) (os_cons (os_ret (oe_tup (oa_cons oe_str (oa_cons (oe_call ih__law_balanced (hr.mono (by first | decide | omega)) rfl T.g__law_balanced T.F__law_balanced.kp (bz__law_balanced T) (takes_of rfl rfl rfl rfl) (oa_cons (oe_op op_divZ lk_div (ov 0) oe_int) oa_nil rfl) ok_nil rfl rfl rfl rfl (by decide) rfl rfl) (oa_cons (oe_call ih__law_balanced (hr.mono (by first | decide | omega)) rfl T.g__law_balanced T.F__law_balanced.kp (bz__law_balanced T) (takes_of rfl rfl rfl rfl) (oa_cons (oe_op op_sub lk_sub (ov 0) (oe_op op_divZ lk_div (ov 0) oe_int)) oa_nil rfl) ok_nil rfl rfl rfl rfl (by decide) rfl rfl) oa_nil rfl) rfl) rfl))) os_nil))
theorem ok__law_balanced (T : Txt w K mg) : FnG P w K mg base (L2.CX P w) 7 T.a__law_balanced T.d__law_balanced ["_law_leaves"] (spF K ["_law_leaves"].length (F__law_balanced 6)) := (okg__law_balanced T 6)
theorem s_law : FnScope ["_law_script", "_law_at", "_law_long", "_law_last", "_law_saying_here", "_law_tree_here", "_law_short_here", "_law_one", "_law_other"] ["_law_script"] (defScope D42.1) := ⟨rfl, rfl, rfl, by decide +kernel, rfl, by decide +kernel, by decide +kernel⟩
theorem ok_law (T : Txt w K mg) (hl : ∀ ns : List Int, ns.length ≤ 63 → (∀ z ∈ ns, Builtin.Int.intBits z ≤ 1048576) → ∃ h, (F_law T.C_Busy T.C_MADE T.C_NoHook T.C_NoMark T.C_NoNumbers T.C_NoPart T.C_NoProgram T.C_NoRow T.C_NoText T.C_NoWord T.C_TooLong T.C_TooMany T.C_Unsound T.a_rows_of_if T.a_rows_of_plain T.a_rows_of_set T.a_rows_of_try T.a_rows_of_while) [.scr ns] [] = .ok (.bl true) h) : FnG P w K mg base CX0 39 T.a_law T.d_law ["_law_script"] (spLaw K) := by
  have S := s_law
  refine law_ok (N := ["_law_script", "_law_at", "_law_long", "_law_last", "_law_saying_here", "_law_tree_here", "_law_short_here", "_law_one", "_law_other"]) (n := 9) (k := 38) (m := m_law T.C_Busy T.C_MADE T.C_NoHook T.C_NoMark T.C_NoNumbers T.C_NoPart T.C_NoProgram T.C_NoRow T.C_NoText T.C_NoWord T.C_TooLong T.C_TooMany T.C_Unsound T.a_rows_of_if T.a_rows_of_plain T.a_rows_of_set T.a_rows_of_try T.a_rows_of_while) T.F_law S rfl (fun cdv A outer s H E hr => ?_) hl
  exact (os_cons (os_for PassesOwn.never rfl (oi_rg1 rfl T.g_range (oa_cons (oe_callB (call_max2 rfl) lk_max rfl T.g_max zb_max (oa_cons oe_int (oa_cons (oe_callB (call_min2 rfl) lk_min rfl T.g_min zb_min (oa_cons oe_int (oa_cons (oe_callB call_len lk_len rfl T.g_len zb_len (oa_cons (ov 0) oa_nil rfl) (by decide) (by decide) rfl rfl) oa_nil rfl) rfl) (by decide) (by decide) rfl rfl) oa_nil rfl) rfl) (by decide) (by decide) rfl rfl) oa_nil rfl)) (og_name (i := 1) S.nd rfl (by first | exact Or.inl rfl | exact Or.inr rfl) (by first | exact Or.inl rfl | exact Or.inr rfl)) (os_cons (os_set (i := 5) S.nd rfl (by first | exact Or.inl rfl | exact Or.inr rfl) (oe_call (ok__law_tree T) (hr.mono (by first | decide | omega)) rfl T.g__law_tree T.F__law_tree.kp (bz__law_tree T) takesW (oa_cons (oe_call (ok__law_bag T) (hr.mono (by first | decide | omega)) rfl T.g__law_bag T.F__law_bag.kp (bz__law_bag T) takesW (oa_cons (ov 0) (oa_cons (ov 1) oa_nil rfl) rfl) ok_nil rfl rfl rfl rfl (by decide) rfl rfl) oa_nil rfl) ok_nil rfl rfl rfl rfl (by decide) rfl rfl) rfl (by first | exact Or.inl rfl | exact Or.inr rfl)) (os_cons (os_set (i := 6) S.nd rfl (by first | exact Or.inl rfl | exact Or.inr rfl) (oe_call (ok__law_short T) (hr.mono (by first | decide | omega)) rfl T.g__law_short T.F__law_short.kp (bz__law_short T) takesW (oa_cons (ov 5) oa_nil rfl) ok_nil rfl rfl rfl rfl (by decide) rfl rfl) rfl (by first | exact Or.inl rfl | exact Or.inr rfl)) (os_cons (os_if (PW.pt (ow_or (ot_not (ot_val (oe_call (ok__law_right T) (hr.mono (by first | decide | omega)) rfl T.g__law_right T.F__law_right.kp (bz__law_right T) takesW (oa_cons (ov 5) oa_nil rfl) ok_nil rfl rfl rfl rfl (by decide) rfl rfl) (fun _ => rfl))) (ow_or (ot_not (ot_val (oe_call (ok__law_right T) (hr.mono (by first | decide | omega)) rfl T.g__law_right T.F__law_right.kp (bz__law_right T) takesW (oa_cons (ov 6) oa_nil rfl) ok_nil rfl rfl rfl rfl (by decide) rfl rfl) (fun _ => rfl))) (ow_or1 (ot_not (ot_val (oe_callB call_isi lk_isi rfl T.g_isinstance zb_isinstance (oa_cons (oe_call (ok__law_told T) (hr.mono (by first | decide | omega)) rfl T.g__law_told T.F__law_told.kp (bz__law_told T) takesW (oa_cons (ov 6) oa_nil rfl) ok_nil rfl rfl rfl rfl (by decide) rfl rfl) (oa_cons (oe_ty rfl T.g_tuple zb_tuple) oa_nil rfl) rfl) (by decide) (by decide) rfl rfl) (fun _ => rfl))))))) (os_cons (os_ret oe_bl) os_nil) os_nil) os_nil))) (fun _ => rfl)) (os_cons (os_set (i := 2) S.nd rfl (by first | exact Or.inl rfl | exact Or.inr rfl) (oe_op op_mulTZ lk_mulT (oe_tup (oa_cons (oe_tup (oa_cons oe_str (oa_cons (oe_call (ok__law_balanced T) (hr.mono (by first | decide | omega)) rfl T.g__law_balanced T.F__law_balanced.kp (bz__law_balanced T) takesW (oa_cons oe_int oa_nil rfl) ok_nil rfl rfl rfl rfl (by decide) rfl rfl) oa_nil rfl) rfl)) oa_nil rfl)) oe_int) rfl (by first | exact Or.inl rfl | exact Or.inr rfl)) (os_cons (os_set (i := 3) S.nd rfl (by first | exact Or.inl rfl | exact Or.inr rfl) (oe_lst (oa_cons (oe_tup (oa_cons oe_str (oa_cons (oe_call (ok__law_balanced T) (hr.mono (by first | decide | omega)) rfl T.g__law_balanced T.F__law_balanced.kp (bz__law_balanced T) takesW (oa_cons oe_int oa_nil rfl) ok_nil rfl rfl rfl rfl (by decide) rfl rfl) oa_nil rfl) rfl)) (oa_cons (oe_tup (oa_cons oe_str (oa_cons (oe_call (ok__law_balanced T) (hr.mono (by first | decide | omega)) rfl T.g__law_balanced T.F__law_balanced.kp (bz__law_balanced T) takesW (oa_cons oe_int oa_nil rfl) ok_nil rfl rfl rfl rfl (by decide) rfl rfl) (oa_cons (oe_tup oa_nil) (oa_cons (oe_tup oa_nil) oa_nil rfl) rfl) rfl) rfl)) (oa_cons (oe_tup (oa_cons oe_str (oa_cons (oe_call (ok__law_balanced T) (hr.mono (by first | decide | omega)) rfl T.g__law_balanced T.F__law_balanced.kp (bz__law_balanced T) takesW (oa_cons oe_int oa_nil rfl) ok_nil rfl rfl rfl rfl (by decide) rfl rfl) (oa_cons (oe_tup oa_nil) oa_nil rfl) rfl) rfl)) oa_nil rfl) rfl) rfl)) rfl (by first | exact Or.inl rfl | exact Or.inr rfl)) (os_cons (os_set (i := 3) S.nd rfl (by first | exact Or.inl rfl | exact Or.inr rfl) (oe_op op_addZ lk_add (ov 3) (oe_lst (oa_cons (oe_tup (oa_cons oe_str (oa_cons (oe_call (ok__law_balanced T) (hr.mono (by first | decide | omega)) rfl T.g__law_balanced T.F__law_balanced.kp (bz__law_balanced T) takesW (oa_cons oe_int oa_nil rfl) ok_nil rfl rfl rfl rfl (by decide) rfl rfl) (oa_cons (oe_tup oa_nil) oa_nil rfl) rfl) rfl)) (oa_cons (oe_tup (oa_cons oe_str (oa_cons (ov 2) (oa_cons oe_str (oa_cons (oe_sl (ov 2) oo_none (oo_some oe_int)) oa_nil rfl) rfl) rfl) rfl)) (oa_cons (oe_tup (oa_cons oe_str (oa_cons oe_int (oa_cons (ov 2) (oa_cons (oe_tup oa_nil) oa_nil rfl) rfl) rfl) rfl)) oa_nil rfl) rfl) rfl))) rfl (by first | exact Or.inl rfl | exact Or.inr rfl)) (os_cons (os_for PassesOwn.never rfl (oi_val (ov 3)) (og_name (i := 4) S.nd rfl (by first | exact Or.inl rfl | exact Or.inr rfl) (by first | exact Or.inl rfl | exact Or.inr rfl)) (os_cons (os_set (i := 7) S.nd rfl (by first | exact Or.inl rfl | exact Or.inr rfl) (oe_tup (oa_cons oe_str (oa_cons (oe_tup (oa_cons oe_str oa_nil rfl)) (oa_cons (oe_op op_addZ lk_add (ov 2) (oe_tup (oa_cons (ov 4) oa_nil rfl))) oa_nil rfl) rfl) rfl)) rfl (by first | exact Or.inl rfl | exact Or.inr rfl)) (os_cons (os_set (i := 8) S.nd rfl (by first | exact Or.inl rfl | exact Or.inr rfl) (oe_tup (oa_cons oe_str (oa_cons (oe_tup oa_nil) (oa_cons (oe_op op_addZ lk_add (ov 2) (ov 2)) oa_nil rfl) rfl) rfl)) rfl (by first | exact Or.inl rfl | exact Or.inr rfl)) (os_cons (os_for PassesOwn.never rfl (oi_val (oe_lst (oa_cons (oe_tup (oa_cons (ov 7) oa_nil rfl)) (oa_cons (oe_tup (oa_cons (ov 7) (oa_cons (oe_tup (oa_cons oe_str (oa_cons (oe_tup oa_nil) (oa_cons (oe_tup oa_nil) oa_nil rfl) rfl) rfl)) oa_nil rfl) rfl)) (oa_cons (oe_tup (oa_cons (ov 7) (oa_cons (ov 8) oa_nil rfl) rfl)) (oa_cons (oe_tup (oa_cons (ov 8) (oa_cons (ov 7) oa_nil rfl) rfl)) (oa_cons (oe_tup (oa_cons (oe_tup (oa_cons oe_str (oa_cons (oe_tup oa_nil) (oa_cons (oe_sl (ov 2) oo_none (oo_some oe_int)) oa_nil rfl) rfl) rfl)) (oa_cons (ov 7) oa_nil rfl) rfl)) oa_nil rfl) rfl) rfl) rfl) rfl))) (og_name (i := 5) S.nd rfl (by first | exact Or.inl rfl | exact Or.inr rfl) (by first | exact Or.inl rfl | exact Or.inr rfl)) (os_cons (os_if (ot_not (ot_val (oe_call (ok__law_right T) (hr.mono (by first | decide | omega)) rfl T.g__law_right T.F__law_right.kp (bz__law_right T) takesW (oa_cons (ov 5) oa_nil rfl) ok_nil rfl rfl rfl rfl (by decide) rfl rfl) (fun _ => rfl))) (os_cons (os_ret oe_bl) os_nil) os_nil) os_nil) (fun _ => rfl)) os_nil))) (fun _ => rfl)) (os_cons (os_ret oe_bl) os_nil))))))
end
theorem txt_mk {w : World} {K : PySem.W.Frag} {h : Heap} {mg : Str → Option Value} (X : K.In h) (G : h.Ns mainGlobals mg) {t_MOST_ROWS : Tok} {C_MADE : Addr} {C_TooLong : Addr} {C_Unsound : Addr} {C_NoHook : Addr} {C_NoMark : Addr} {C_NoNumbers : Addr} {C_NoPart : Addr} {C_NoProgram : Addr} {C_NoRow : Addr} {C_NoText : Addr} {C_NoWord : Addr} {C_TooMany : Addr} {C_Busy : Addr} {I_TooLong : Addr} {nm_TooLong nq_TooLong : Str} {nN_TooLong : Addr} {nbs_TooLong : List Value} {nsn_TooLong : List Str} {nsub_TooLong : List Value} {nab_TooLong : Bool} {ncol_TooLong : Option Bool} {ndd_TooLong : Option Addr} {nm0_TooLong nm1_TooLong nm2_TooLong nm3_TooLong nm5_TooLong : Option Value} {nod_TooLong nan_TooLong : Option Addr} {nsl_TooLong : Array (Option Value)} {noc_TooLong ndc_TooLong npm_TooLong ncd_TooLong nct_TooLong : Value} {np1_TooLong np2_TooLong nq1_TooLong nq2_TooLong nq3_TooLong nq4_TooLong : Pos} {f_rows_of_value : Addr} {od_rows_of_value an_rows_of_value : Option Addr} {sl_rows_of_value : Array (Option Value)} {oc_rows_of_value kV_rows_of_value dc_rows_of_value pm_rows_of_value cd_rows_of_value ct_rows_of_value : Value} {f_rows_of_plain : Addr} {od_rows_of_plain an_rows_of_plain : Option Addr} {sl_rows_of_plain : Array (Option Value)} {oc_rows_of_plain kV_rows_of_plain dc_rows_of_plain pm_rows_of_plain cd_rows_of_plain ct_rows_of_plain : Value} {f_rows_of_set : Addr} {od_rows_of_set an_rows_of_set : Option Addr} {sl_rows_of_set : Array (Option Value)} {oc_rows_of_set kV_rows_of_set dc_rows_of_set pm_rows_of_set cd_rows_of_set ct_rows_of_set : Value} {f_rows_of_if : Addr} {od_rows_of_if an_rows_of_if : Option Addr} {sl_rows_of_if : Array (Option Value)} {oc_rows_of_if kV_rows_of_if dc_rows_of_if pm_rows_of_if cd_rows_of_if ct_rows_of_if : Value} {f_rows_of_while : Addr} {od_rows_of_while an_rows_of_while : Option Addr} {sl_rows_of_while : Array (Option Value)} {oc_rows_of_while kV_rows_of_while dc_rows_of_while pm_rows_of_while cd_rows_of_while ct_rows_of_while : Value} {f_rows_of_try : Addr} {od_rows_of_try an_rows_of_try : Option Addr} {sl_rows_of_try : Array (Option Value)} {oc_rows_of_try kV_rows_of_try dc_rows_of_try pm_rows_of_try cd_rows_of_try ct_rows_of_try : Value} {f_rows_of_sayings : Addr} {od_rows_of_sayings an_rows_of_sayings : Option Addr} {sl_rows_of_sayings : Array (Option Value)} {oc_rows_of_sayings kV_rows_of_sayings dc_rows_of_sayings pm_rows_of_sayings cd_rows_of_sayings ct_rows_of_sayings : Value} {f_made : Addr} {od_made an_made : Option Addr} {sl_made : Array (Option Value)} {oc_made kV_made dc_made pm_made cd_made ct_made : Value} {f__law_bag : Addr} {od__law_bag an__law_bag : Option Addr} {sl__law_bag : Array (Option Value)} {oc__law_bag kV__law_bag dc__law_bag pm__law_bag cd__law_bag ct__law_bag : Value} {f__law_take : Addr} {od__law_take an__law_take : Option Addr} {sl__law_take : Array (Option Value)} {oc__law_take kV__law_take dc__law_take pm__law_take cd__law_take ct__law_take : Value} {f__law_worth : Addr} {od__law_worth an__law_worth : Option Addr} {sl__law_worth : Array (Option Value)} {oc__law_worth kV__law_worth dc__law_worth pm__law_worth cd__law_worth ct__law_worth : Value} {f__law_value : Addr} {od__law_value an__law_value : Option Addr} {sl__law_value : Array (Option Value)} {oc__law_value kV__law_value dc__law_value pm__law_value cd__law_value ct__law_value : Value} {f__law_saying : Addr} {od__law_saying an__law_saying : Option Addr} {sl__law_saying : Array (Option Value)} {oc__law_saying kV__law_saying dc__law_saying pm__law_saying cd__law_saying ct__law_saying : Value} {f__law_sayings : Addr} {od__law_sayings an__law_sayings : Option Addr} {sl__law_sayings : Array (Option Value)} {oc__law_sayings kV__law_sayings dc__law_sayings pm__law_sayings cd__law_sayings ct__law_sayings : Value} {f__law_tree : Addr} {od__law_tree an__law_tree : Option Addr} {sl__law_tree : Array (Option Value)} {oc__law_tree kV__law_tree dc__law_tree pm__law_tree cd__law_tree ct__law_tree : Value} {f__law_emit_value : Addr} {od__law_emit_value an__law_emit_value : Option Addr} {sl__law_emit_value : Array (Option Value)} {oc__law_emit_value kV__law_emit_value dc__law_emit_value pm__law_emit_value cd__law_emit_value ct__law_emit_value : Value} {f__law_emit_one : Addr} {od__law_emit_one an__law_emit_one : Option Addr} {sl__law_emit_one : Array (Option Value)} {oc__law_emit_one kV__law_emit_one dc__law_emit_one pm__law_emit_one cd__law_emit_one ct__law_emit_one : Value} {f__law_emit : Addr} {od__law_emit an__law_emit : Option Addr} {sl__law_emit : Array (Option Value)} {oc__law_emit kV__law_emit dc__law_emit pm__law_emit cd__law_emit ct__law_emit : Value} {f__law_rows : Addr} {od__law_rows an__law_rows : Option Addr} {sl__law_rows : Array (Option Value)} {oc__law_rows kV__law_rows dc__law_rows pm__law_rows cd__law_rows ct__law_rows : Value} {f__law_short : Addr} {od__law_short an__law_short : Option Addr} {sl__law_short : Array (Option Value)} {oc__law_short kV__law_short dc__law_short pm__law_short cd__law_short ct__law_short : Value} {f__law_told : Addr} {od__law_told an__law_told : Option Addr} {sl__law_told : Array (Option Value)} {oc__law_told kV__law_told dc__law_told pm__law_told cd__law_told ct__law_told : Value} {f__law_due : Addr} {od__law_due an__law_due : Option Addr} {sl__law_due : Array (Option Value)} {oc__law_due kV__law_due dc__law_due pm__law_due cd__law_due ct__law_due : Value} {f__law_right : Addr} {od__law_right an__law_right : Option Addr} {sl__law_right : Array (Option Value)} {oc__law_right kV__law_right dc__law_right pm__law_right cd__law_right ct__law_right : Value} {f__law_balanced : Addr} {od__law_balanced an__law_balanced : Option Addr} {sl__law_balanced : Array (Option Value)} {oc__law_balanced kV__law_balanced dc__law_balanced pm__law_balanced cd__law_balanced ct__law_balanced : Value} {f_law : Addr} {od_law an_law : Option Addr} {sl_law : Array (Option Value)} {oc_law kV_law dc_law pm_law cd_law ct_law : Value}
    (zz_OverflowError : PySem.W.nsIn K mainGlobals "OverflowError" = some none)
    (zz_abs : PySem.W.nsIn K mainGlobals "abs" = some none)
    (zz_int : PySem.W.nsIn K mainGlobals "int" = some none)
    (zz_isinstance : PySem.W.nsIn K mainGlobals "isinstance" = some none)
    (zz_len : PySem.W.nsIn K mainGlobals "len" = some none)
    (zz_max : PySem.W.nsIn K mainGlobals "max" = some none)
    (zz_min : PySem.W.nsIn K mainGlobals "min" = some none)
    (zz_range : PySem.W.nsIn K mainGlobals "range" = some none)
    (zz_repr : PySem.W.nsIn K mainGlobals "repr" = some none)
    (zz_sorted : PySem.W.nsIn K mainGlobals "sorted" = some none)
    (zz_tuple : PySem.W.nsIn K mainGlobals "tuple" = some none)
    (n_MOST_ROWS : PySem.W.nsIn K mainGlobals "MOST_ROWS" = some (some (.int 60 t_MOST_ROWS)))
    (n_MADE : PySem.W.nsIn K mainGlobals "MADE" = some (some (.ref C_MADE)))
    (d_MADE : He.dicW K C_MADE = some (He.keysIn w.params keys_MADE))
    (n_TooLong : PySem.W.nsIn K mainGlobals "TooLong" = some (some (.ref C_TooLong)))
    (n_Unsound : PySem.W.nsIn K mainGlobals "Unsound" = some (some (.ref C_Unsound)))
    (n_NoHook : PySem.W.nsIn K mainGlobals "NoHook" = some (some (.ref C_NoHook)))
    (n_NoMark : PySem.W.nsIn K mainGlobals "NoMark" = some (some (.ref C_NoMark)))
    (n_NoNumbers : PySem.W.nsIn K mainGlobals "NoNumbers" = some (some (.ref C_NoNumbers)))
    (n_NoPart : PySem.W.nsIn K mainGlobals "NoPart" = some (some (.ref C_NoPart)))
    (n_NoProgram : PySem.W.nsIn K mainGlobals "NoProgram" = some (some (.ref C_NoProgram)))
    (n_NoRow : PySem.W.nsIn K mainGlobals "NoRow" = some (some (.ref C_NoRow)))
    (n_NoText : PySem.W.nsIn K mainGlobals "NoText" = some (some (.ref C_NoText)))
    (n_NoWord : PySem.W.nsIn K mainGlobals "NoWord" = some (some (.ref C_NoWord)))
    (n_TooMany : PySem.W.nsIn K mainGlobals "TooMany" = some (some (.ref C_TooMany)))
    (n_Busy : PySem.W.nsIn K mainGlobals "Busy" = some (some (.ref C_Busy)))
    (nxL_TooLong : K.lookup C_TooLong = some (PySem.excClassObj nm_TooLong nq_TooLong C_TooLong nN_TooLong nbs_TooLong [.type "OverflowError", .type "ArithmeticError", .type "Exception", .type "BaseException", .type "object"] true nsn_TooLong nsub_TooLong nab_TooLong ncol_TooLong ndd_TooLong nm0_TooLong nm1_TooLong nm2_TooLong nm3_TooLong nm5_TooLong "OverflowError.__new__"))
    (nsa_TooLong : PySem.W.findIn K (.ref C_TooLong) "__setattr__" = some (some (.builtin "object.__setattr__")))
    (nga_TooLong : PySem.W.findIn K (.ref C_TooLong) "__getattribute__" = some (some (.builtin "BaseException.__getattribute__")))
    (ngg_TooLong : PySem.W.findIn K (.ref C_TooLong) "__getattr__" = some none)
    (nnb_TooLong : PySem.W.findIn K (.ref C_TooLong) "many" = some none)
    (na1_TooLong : PySem.W.findIn K (.ref C_TooLong) "__init__" = some (some (.ref I_TooLong)))
    (nt1_TooLong : PySem.W.typeIn K (.ref I_TooLong) = some (.type "function"))
    (nl1_TooLong : K.lookup I_TooLong = some ⟨noc_TooLong, nod_TooLong, .func (PySem.W.fnOf "__init__" "TooLong.__init__" (PySem.NX_TooLong.iA np1_TooLong np2_TooLong) (PySem.NX_TooLong.iB nq1_TooLong nq2_TooLong nq3_TooLong nq4_TooLong) PySem.NX_TooLong.iS .none .none ndc_TooLong npm_TooLong nan_TooLong ncd_TooLong nct_TooLong), nsl_TooLong⟩)
    (nc1_TooLong : PySem.W.codeIn K ncd_TooLong "TooLong.__init__" = true)
    (nkC_TooLong : PySem.W.keepIn K (.ref C_TooLong) = true)
    (neC_TooLong : PySem.W.subIn K (.ref C_TooLong) (.type "BaseException") = some true)
    (ntC_TooLong : PySem.W.typeIn K (.ref C_TooLong) = some (.type "type"))
    (nhC_TooLong : PySem.W.hasDictIn K C_TooLong = true)
    (niC_TooLong : PySem.W.isClsIn K C_TooLong = true)
    (nsC_TooLong : PySem.W.subIn K (.ref C_TooLong) (.ref C_TooLong) = some true)
    (xg_TooLong : PySem.W.findIn K (.ref C_TooLong) "__getattribute__" = some (some (.builtin "BaseException.__getattribute__")))
    (xk_TooLong : PySem.W.findIn K (.ref C_TooLong) "__getattr__" = some none)
    (xs_TooLong : PySem.W.subIn K (.ref C_TooLong) (.type "BaseException") = some true)
    (xd_TooLong : PySem.W.hasDictIn K C_TooLong = true)
    (xa_TooLong : PySem.W.findIn K (.ref C_TooLong) "__class__" = some (some (.builtin "object.__class__")))
    (xn_TooLong : PySem.W.specialIn K (.builtin "object.__class__") "__get__" = some (some (.builtin "getset_descriptor.__get__")))
    (xt_TooLong : PySem.W.takesIn K (.builtin "object.__class__") = some true)
    (xm_TooLong : PySem.W.mroIn K C_TooLong (.type "object") = some true)
    (i_0 : PySem.W.kitAny K (.ref C_TooLong) [.ref C_Unsound] = some false)
    (i_1 : PySem.W.kitAny K (.ref C_TooLong) [.type "OverflowError"] = some true)
    (i_2 : PySem.W.kitAny K (.ref C_TooLong) [.ref C_NoHook, .ref C_NoMark, .ref C_NoNumbers, .ref C_NoPart, .ref C_NoProgram, .ref C_NoRow, .ref C_NoText, .ref C_NoWord, .ref C_TooMany, .ref C_Busy] = some false)
    (n_rows_of_value : PySem.W.nsIn K mainGlobals "rows_of_value" = some (some (.ref f_rows_of_value)))
    (l_rows_of_value : K.lookup f_rows_of_value = some ⟨oc_rows_of_value, od_rows_of_value, .func (PySem.W.fnOf "rows_of_value" "rows_of_value" (defArgs D15.1) (defBody D15.1) (defScope D15.1) .none kV_rows_of_value dc_rows_of_value pm_rows_of_value an_rows_of_value cd_rows_of_value ct_rows_of_value), sl_rows_of_value⟩)
    (c_rows_of_value : PySem.W.codeIn K cd_rows_of_value "rows_of_value" = true)
    (k_rows_of_value : PySem.W.keepIn K (.ref f_rows_of_value) = true)
    (n_rows_of_plain : PySem.W.nsIn K mainGlobals "rows_of_plain" = some (some (.ref f_rows_of_plain)))
    (l_rows_of_plain : K.lookup f_rows_of_plain = some ⟨oc_rows_of_plain, od_rows_of_plain, .func (PySem.W.fnOf "rows_of_plain" "rows_of_plain" (defArgs D16.1) (defBody D16.1) (defScope D16.1) .none kV_rows_of_plain dc_rows_of_plain pm_rows_of_plain an_rows_of_plain cd_rows_of_plain ct_rows_of_plain), sl_rows_of_plain⟩)
    (c_rows_of_plain : PySem.W.codeIn K cd_rows_of_plain "rows_of_plain" = true)
    (k_rows_of_plain : PySem.W.keepIn K (.ref f_rows_of_plain) = true)
    (n_rows_of_set : PySem.W.nsIn K mainGlobals "rows_of_set" = some (some (.ref f_rows_of_set)))
    (l_rows_of_set : K.lookup f_rows_of_set = some ⟨oc_rows_of_set, od_rows_of_set, .func (PySem.W.fnOf "rows_of_set" "rows_of_set" (defArgs D17.1) (defBody D17.1) (defScope D17.1) .none kV_rows_of_set dc_rows_of_set pm_rows_of_set an_rows_of_set cd_rows_of_set ct_rows_of_set), sl_rows_of_set⟩)
    (c_rows_of_set : PySem.W.codeIn K cd_rows_of_set "rows_of_set" = true)
    (k_rows_of_set : PySem.W.keepIn K (.ref f_rows_of_set) = true)
    (n_rows_of_if : PySem.W.nsIn K mainGlobals "rows_of_if" = some (some (.ref f_rows_of_if)))
    (l_rows_of_if : K.lookup f_rows_of_if = some ⟨oc_rows_of_if, od_rows_of_if, .func (PySem.W.fnOf "rows_of_if" "rows_of_if" (defArgs D18.1) (defBody D18.1) (defScope D18.1) .none kV_rows_of_if dc_rows_of_if pm_rows_of_if an_rows_of_if cd_rows_of_if ct_rows_of_if), sl_rows_of_if⟩)
    (c_rows_of_if : PySem.W.codeIn K cd_rows_of_if "rows_of_if" = true)
    (k_rows_of_if : PySem.W.keepIn K (.ref f_rows_of_if) = true)
    (n_rows_of_while : PySem.W.nsIn K mainGlobals "rows_of_while" = some (some (.ref f_rows_of_while)))
    (l_rows_of_while : K.lookup f_rows_of_while = some ⟨oc_rows_of_while, od_rows_of_while, .func (PySem.W.fnOf "rows_of_while" "rows_of_while" (defArgs D19.1) (defBody D19.1) (defScope D19.1) .none kV_rows_of_while dc_rows_of_while pm_rows_of_while an_rows_of_while cd_rows_of_while ct_rows_of_while), sl_rows_of_while⟩)
    (c_rows_of_while : PySem.W.codeIn K cd_rows_of_while "rows_of_while" = true)
    (k_rows_of_while : PySem.W.keepIn K (.ref f_rows_of_while) = true)
    (n_rows_of_try : PySem.W.nsIn K mainGlobals "rows_of_try" = some (some (.ref f_rows_of_try)))
    (l_rows_of_try : K.lookup f_rows_of_try = some ⟨oc_rows_of_try, od_rows_of_try, .func (PySem.W.fnOf "rows_of_try" "rows_of_try" (defArgs D20.1) (defBody D20.1) (defScope D20.1) .none kV_rows_of_try dc_rows_of_try pm_rows_of_try an_rows_of_try cd_rows_of_try ct_rows_of_try), sl_rows_of_try⟩)
    (c_rows_of_try : PySem.W.codeIn K cd_rows_of_try "rows_of_try" = true)
    (k_rows_of_try : PySem.W.keepIn K (.ref f_rows_of_try) = true)
    (n_rows_of_sayings : PySem.W.nsIn K mainGlobals "rows_of_sayings" = some (some (.ref f_rows_of_sayings)))
    (l_rows_of_sayings : K.lookup f_rows_of_sayings = some ⟨oc_rows_of_sayings, od_rows_of_sayings, .func (PySem.W.fnOf "rows_of_sayings" "rows_of_sayings" (defArgs D22.1) (defBody D22.1) (defScope D22.1) .none kV_rows_of_sayings dc_rows_of_sayings pm_rows_of_sayings an_rows_of_sayings cd_rows_of_sayings ct_rows_of_sayings), sl_rows_of_sayings⟩)
    (c_rows_of_sayings : PySem.W.codeIn K cd_rows_of_sayings "rows_of_sayings" = true)
    (k_rows_of_sayings : PySem.W.keepIn K (.ref f_rows_of_sayings) = true)
    (n_made : PySem.W.nsIn K mainGlobals "made" = some (some (.ref f_made)))
    (l_made : K.lookup f_made = some ⟨oc_made, od_made, .func (PySem.W.fnOf "made" "made" (defArgs D23.1) (defBody D23.1) (defScope D23.1) .none kV_made dc_made pm_made an_made cd_made ct_made), sl_made⟩)
    (c_made : PySem.W.codeIn K cd_made "made" = true)
    (k_made : PySem.W.keepIn K (.ref f_made) = true)
    (n__law_bag : PySem.W.nsIn K mainGlobals "_law_bag" = some (some (.ref f__law_bag)))
    (l__law_bag : K.lookup f__law_bag = some ⟨oc__law_bag, od__law_bag, .func (PySem.W.fnOf "_law_bag" "_law_bag" (defArgs D25.1) (defBody D25.1) (defScope D25.1) .none kV__law_bag dc__law_bag pm__law_bag an__law_bag cd__law_bag ct__law_bag), sl__law_bag⟩)
    (c__law_bag : PySem.W.codeIn K cd__law_bag "_law_bag" = true)
    (k__law_bag : PySem.W.keepIn K (.ref f__law_bag) = true)
    (n__law_take : PySem.W.nsIn K mainGlobals "_law_take" = some (some (.ref f__law_take)))
    (l__law_take : K.lookup f__law_take = some ⟨oc__law_take, od__law_take, .func (PySem.W.fnOf "_law_take" "_law_take" (defArgs D26.1) (defBody D26.1) (defScope D26.1) .none kV__law_take dc__law_take pm__law_take an__law_take cd__law_take ct__law_take), sl__law_take⟩)
    (c__law_take : PySem.W.codeIn K cd__law_take "_law_take" = true)
    (k__law_take : PySem.W.keepIn K (.ref f__law_take) = true)
    (n__law_worth : PySem.W.nsIn K mainGlobals "_law_worth" = some (some (.ref f__law_worth)))
    (l__law_worth : K.lookup f__law_worth = some ⟨oc__law_worth, od__law_worth, .func (PySem.W.fnOf "_law_worth" "_law_worth" (defArgs D27.1) (defBody D27.1) (defScope D27.1) .none kV__law_worth dc__law_worth pm__law_worth an__law_worth cd__law_worth ct__law_worth), sl__law_worth⟩)
    (c__law_worth : PySem.W.codeIn K cd__law_worth "_law_worth" = true)
    (k__law_worth : PySem.W.keepIn K (.ref f__law_worth) = true)
    (n__law_value : PySem.W.nsIn K mainGlobals "_law_value" = some (some (.ref f__law_value)))
    (l__law_value : K.lookup f__law_value = some ⟨oc__law_value, od__law_value, .func (PySem.W.fnOf "_law_value" "_law_value" (defArgs D28.1) (defBody D28.1) (defScope D28.1) .none kV__law_value dc__law_value pm__law_value an__law_value cd__law_value ct__law_value), sl__law_value⟩)
    (c__law_value : PySem.W.codeIn K cd__law_value "_law_value" = true)
    (k__law_value : PySem.W.keepIn K (.ref f__law_value) = true)
    (n__law_saying : PySem.W.nsIn K mainGlobals "_law_saying" = some (some (.ref f__law_saying)))
    (l__law_saying : K.lookup f__law_saying = some ⟨oc__law_saying, od__law_saying, .func (PySem.W.fnOf "_law_saying" "_law_saying" (defArgs D29.1) (defBody D29.1) (defScope D29.1) .none kV__law_saying dc__law_saying pm__law_saying an__law_saying cd__law_saying ct__law_saying), sl__law_saying⟩)
    (c__law_saying : PySem.W.codeIn K cd__law_saying "_law_saying" = true)
    (k__law_saying : PySem.W.keepIn K (.ref f__law_saying) = true)
    (n__law_sayings : PySem.W.nsIn K mainGlobals "_law_sayings" = some (some (.ref f__law_sayings)))
    (l__law_sayings : K.lookup f__law_sayings = some ⟨oc__law_sayings, od__law_sayings, .func (PySem.W.fnOf "_law_sayings" "_law_sayings" (defArgs D30.1) (defBody D30.1) (defScope D30.1) .none kV__law_sayings dc__law_sayings pm__law_sayings an__law_sayings cd__law_sayings ct__law_sayings), sl__law_sayings⟩)
    (c__law_sayings : PySem.W.codeIn K cd__law_sayings "_law_sayings" = true)
    (k__law_sayings : PySem.W.keepIn K (.ref f__law_sayings) = true)
    (n__law_tree : PySem.W.nsIn K mainGlobals "_law_tree" = some (some (.ref f__law_tree)))
    (l__law_tree : K.lookup f__law_tree = some ⟨oc__law_tree, od__law_tree, .func (PySem.W.fnOf "_law_tree" "_law_tree" (defArgs D31.1) (defBody D31.1) (defScope D31.1) .none kV__law_tree dc__law_tree pm__law_tree an__law_tree cd__law_tree ct__law_tree), sl__law_tree⟩)
    (c__law_tree : PySem.W.codeIn K cd__law_tree "_law_tree" = true)
    (k__law_tree : PySem.W.keepIn K (.ref f__law_tree) = true)
    (n__law_emit_value : PySem.W.nsIn K mainGlobals "_law_emit_value" = some (some (.ref f__law_emit_value)))
    (l__law_emit_value : K.lookup f__law_emit_value = some ⟨oc__law_emit_value, od__law_emit_value, .func (PySem.W.fnOf "_law_emit_value" "_law_emit_value" (defArgs D33.1) (defBody D33.1) (defScope D33.1) .none kV__law_emit_value dc__law_emit_value pm__law_emit_value an__law_emit_value cd__law_emit_value ct__law_emit_value), sl__law_emit_value⟩)
    (c__law_emit_value : PySem.W.codeIn K cd__law_emit_value "_law_emit_value" = true)
    (k__law_emit_value : PySem.W.keepIn K (.ref f__law_emit_value) = true)
    (n__law_emit_one : PySem.W.nsIn K mainGlobals "_law_emit_one" = some (some (.ref f__law_emit_one)))
    (l__law_emit_one : K.lookup f__law_emit_one = some ⟨oc__law_emit_one, od__law_emit_one, .func (PySem.W.fnOf "_law_emit_one" "_law_emit_one" (defArgs D34.1) (defBody D34.1) (defScope D34.1) .none kV__law_emit_one dc__law_emit_one pm__law_emit_one an__law_emit_one cd__law_emit_one ct__law_emit_one), sl__law_emit_one⟩)
    (c__law_emit_one : PySem.W.codeIn K cd__law_emit_one "_law_emit_one" = true)
    (k__law_emit_one : PySem.W.keepIn K (.ref f__law_emit_one) = true)
    (n__law_emit : PySem.W.nsIn K mainGlobals "_law_emit" = some (some (.ref f__law_emit)))
    (l__law_emit : K.lookup f__law_emit = some ⟨oc__law_emit, od__law_emit, .func (PySem.W.fnOf "_law_emit" "_law_emit" (defArgs D35.1) (defBody D35.1) (defScope D35.1) .none kV__law_emit dc__law_emit pm__law_emit an__law_emit cd__law_emit ct__law_emit), sl__law_emit⟩)
    (c__law_emit : PySem.W.codeIn K cd__law_emit "_law_emit" = true)
    (k__law_emit : PySem.W.keepIn K (.ref f__law_emit) = true)
    (n__law_rows : PySem.W.nsIn K mainGlobals "_law_rows" = some (some (.ref f__law_rows)))
    (l__law_rows : K.lookup f__law_rows = some ⟨oc__law_rows, od__law_rows, .func (PySem.W.fnOf "_law_rows" "_law_rows" (defArgs D36.1) (defBody D36.1) (defScope D36.1) .none kV__law_rows dc__law_rows pm__law_rows an__law_rows cd__law_rows ct__law_rows), sl__law_rows⟩)
    (c__law_rows : PySem.W.codeIn K cd__law_rows "_law_rows" = true)
    (k__law_rows : PySem.W.keepIn K (.ref f__law_rows) = true)
    (n__law_short : PySem.W.nsIn K mainGlobals "_law_short" = some (some (.ref f__law_short)))
    (l__law_short : K.lookup f__law_short = some ⟨oc__law_short, od__law_short, .func (PySem.W.fnOf "_law_short" "_law_short" (defArgs D37.1) (defBody D37.1) (defScope D37.1) .none kV__law_short dc__law_short pm__law_short an__law_short cd__law_short ct__law_short), sl__law_short⟩)
    (c__law_short : PySem.W.codeIn K cd__law_short "_law_short" = true)
    (k__law_short : PySem.W.keepIn K (.ref f__law_short) = true)
    (n__law_told : PySem.W.nsIn K mainGlobals "_law_told" = some (some (.ref f__law_told)))
    (l__law_told : K.lookup f__law_told = some ⟨oc__law_told, od__law_told, .func (PySem.W.fnOf "_law_told" "_law_told" (defArgs D38.1) (defBody D38.1) (defScope D38.1) .none kV__law_told dc__law_told pm__law_told an__law_told cd__law_told ct__law_told), sl__law_told⟩)
    (c__law_told : PySem.W.codeIn K cd__law_told "_law_told" = true)
    (k__law_told : PySem.W.keepIn K (.ref f__law_told) = true)
    (n__law_due : PySem.W.nsIn K mainGlobals "_law_due" = some (some (.ref f__law_due)))
    (l__law_due : K.lookup f__law_due = some ⟨oc__law_due, od__law_due, .func (PySem.W.fnOf "_law_due" "_law_due" (defArgs D39.1) (defBody D39.1) (defScope D39.1) .none kV__law_due dc__law_due pm__law_due an__law_due cd__law_due ct__law_due), sl__law_due⟩)
    (c__law_due : PySem.W.codeIn K cd__law_due "_law_due" = true)
    (k__law_due : PySem.W.keepIn K (.ref f__law_due) = true)
    (n__law_right : PySem.W.nsIn K mainGlobals "_law_right" = some (some (.ref f__law_right)))
    (l__law_right : K.lookup f__law_right = some ⟨oc__law_right, od__law_right, .func (PySem.W.fnOf "_law_right" "_law_right" (defArgs D40.1) (defBody D40.1) (defScope D40.1) .none kV__law_right dc__law_right pm__law_right an__law_right cd__law_right ct__law_right), sl__law_right⟩)
    (c__law_right : PySem.W.codeIn K cd__law_right "_law_right" = true)
    (k__law_right : PySem.W.keepIn K (.ref f__law_right) = true)
    (n__law_balanced : PySem.W.nsIn K mainGlobals "_law_balanced" = some (some (.ref f__law_balanced)))
    (l__law_balanced : K.lookup f__law_balanced = some ⟨oc__law_balanced, od__law_balanced, .func (PySem.W.fnOf "_law_balanced" "_law_balanced" (defArgs D41.1) (defBody D41.1) (defScope D41.1) .none kV__law_balanced dc__law_balanced pm__law_balanced an__law_balanced cd__law_balanced ct__law_balanced), sl__law_balanced⟩)
    (c__law_balanced : PySem.W.codeIn K cd__law_balanced "_law_balanced" = true)
    (k__law_balanced : PySem.W.keepIn K (.ref f__law_balanced) = true)
    (n_law : PySem.W.nsIn K mainGlobals "law" = some (some (.ref f_law)))
    (l_law : K.lookup f_law = some ⟨oc_law, od_law, .func (PySem.W.fnOf "law" "law" (defArgs D42.1) (defBody D42.1) (defScope D42.1) .none kV_law dc_law pm_law an_law cd_law ct_law), sl_law⟩)
    (c_law : PySem.W.codeIn K cd_law "law" = true)
    (k_law : PySem.W.keepIn K (.ref f_law) = true)
    (y_MADE_set : PySem.W.nsIn K C_MADE "set" = some (some (.ref f_rows_of_set)))
    (y_MADE_say : PySem.W.nsIn K C_MADE "say" = some (some (.ref f_rows_of_plain)))
    (y_MADE_back : PySem.W.nsIn K C_MADE "back" = some (some (.ref f_rows_of_plain)))
    (y_MADE_throw : PySem.W.nsIn K C_MADE "throw" = some (some (.ref f_rows_of_plain)))
    (y_MADE_if : PySem.W.nsIn K C_MADE "if" = some (some (.ref f_rows_of_if)))
    (y_MADE_while : PySem.W.nsIn K C_MADE "while" = some (some (.ref f_rows_of_while)))
    (y_MADE_try : PySem.W.nsIn K C_MADE "try" = some (some (.ref f_rows_of_try))) : Nonempty (Txt w K mg) :=
  ⟨{ g_OverflowError := PySem.W.mg_none_of X G zz_OverflowError,
     g_abs := PySem.W.mg_none_of X G zz_abs,
     g_int := PySem.W.mg_none_of X G zz_int,
     g_isinstance := PySem.W.mg_none_of X G zz_isinstance,
     g_len := PySem.W.mg_none_of X G zz_len,
     g_max := PySem.W.mg_none_of X G zz_max,
     g_min := PySem.W.mg_none_of X G zz_min,
     g_range := PySem.W.mg_none_of X G zz_range,
     g_repr := PySem.W.mg_none_of X G zz_repr,
     g_sorted := PySem.W.mg_none_of X G zz_sorted,
     g_tuple := PySem.W.mg_none_of X G zz_tuple,
     k_MOST_ROWS := cst_int (PySem.W.mg_of X G n_MOST_ROWS),
     C_MADE := C_MADE,
     g_MADE := PySem.W.mg_of X G n_MADE,
     d_MADE := He.dicW_ok d_MADE,
     da_MADE := dicW_no d_MADE,
     y_MADE_set := y_MADE_set,
     y_MADE_say := y_MADE_say,
     y_MADE_back := y_MADE_back,
     y_MADE_throw := y_MADE_throw,
     y_MADE_if := y_MADE_if,
     y_MADE_while := y_MADE_while,
     y_MADE_try := y_MADE_try,
     C_TooLong := C_TooLong,
     n_TooLong := PySem.W.mg_of X G n_TooLong,
     C_Unsound := C_Unsound,
     n_Unsound := PySem.W.mg_of X G n_Unsound,
     C_NoHook := C_NoHook,
     n_NoHook := PySem.W.mg_of X G n_NoHook,
     C_NoMark := C_NoMark,
     n_NoMark := PySem.W.mg_of X G n_NoMark,
     C_NoNumbers := C_NoNumbers,
     n_NoNumbers := PySem.W.mg_of X G n_NoNumbers,
     C_NoPart := C_NoPart,
     n_NoPart := PySem.W.mg_of X G n_NoPart,
     C_NoProgram := C_NoProgram,
     n_NoProgram := PySem.W.mg_of X G n_NoProgram,
     C_NoRow := C_NoRow,
     n_NoRow := PySem.W.mg_of X G n_NoRow,
     C_NoText := C_NoText,
     n_NoText := PySem.W.mg_of X G n_NoText,
     C_NoWord := C_NoWord,
     n_NoWord := PySem.W.mg_of X G n_NoWord,
     C_TooMany := C_TooMany,
     n_TooMany := PySem.W.mg_of X G n_TooMany,
     C_Busy := C_Busy,
     n_Busy := PySem.W.mg_of X G n_Busy,
     I_TooLong := I_TooLong,
     nt_TooLong := { gC := PySem.W.mg_of X G n_TooLong, cls := ⟨nm_TooLong, nq_TooLong, nN_TooLong, nbs_TooLong, _, nsn_TooLong, nsub_TooLong, nab_TooLong, ncol_TooLong, ndd_TooLong, nm0_TooLong, nm1_TooLong, nm2_TooLong, nm3_TooLong, nm5_TooLong, nxL_TooLong, by decide +kernel⟩, sa := nsa_TooLong, ga := nga_TooLong, gg := ngg_TooLong, noN := nnb_TooLong, iC := na1_TooLong, tC := nt1_TooLong, kC := nkC_TooLong, exC := neC_TooLong, tyC := ntC_TooLong, hdC := nhC_TooLong, te := exm_nt neC_TooLong niC_TooLong ntC_TooLong nsC_TooLong, fn := ⟨_, _, _, _, _, _, _, _, _, _, _, _, _, _, nl1_TooLong, nc1_TooLong⟩ },
     x_TooLong := ⟨xg_TooLong, xk_TooLong, xs_TooLong, xd_TooLong, xa_TooLong, xn_TooLong, xt_TooLong, xm_TooLong⟩,
     i_0 := i_0,
     i_1 := i_1,
     i_2 := i_2,
     a_rows_of_value := f_rows_of_value,
     d_rows_of_value := _,
     F_rows_of_value := fun_mk l_rows_of_value c_rows_of_value k_rows_of_value,
     g_rows_of_value := PySem.W.mg_of X G n_rows_of_value,
     a_rows_of_plain := f_rows_of_plain,
     d_rows_of_plain := _,
     F_rows_of_plain := fun_mk l_rows_of_plain c_rows_of_plain k_rows_of_plain,
     g_rows_of_plain := PySem.W.mg_of X G n_rows_of_plain,
     a_rows_of_set := f_rows_of_set,
     d_rows_of_set := _,
     F_rows_of_set := fun_mk l_rows_of_set c_rows_of_set k_rows_of_set,
     g_rows_of_set := PySem.W.mg_of X G n_rows_of_set,
     a_rows_of_if := f_rows_of_if,
     d_rows_of_if := _,
     F_rows_of_if := fun_mk l_rows_of_if c_rows_of_if k_rows_of_if,
     g_rows_of_if := PySem.W.mg_of X G n_rows_of_if,
     a_rows_of_while := f_rows_of_while,
     d_rows_of_while := _,
     F_rows_of_while := fun_mk l_rows_of_while c_rows_of_while k_rows_of_while,
     g_rows_of_while := PySem.W.mg_of X G n_rows_of_while,
     a_rows_of_try := f_rows_of_try,
     d_rows_of_try := _,
     F_rows_of_try := fun_mk l_rows_of_try c_rows_of_try k_rows_of_try,
     g_rows_of_try := PySem.W.mg_of X G n_rows_of_try,
     a_rows_of_sayings := f_rows_of_sayings,
     d_rows_of_sayings := _,
     F_rows_of_sayings := fun_mk l_rows_of_sayings c_rows_of_sayings k_rows_of_sayings,
     g_rows_of_sayings := PySem.W.mg_of X G n_rows_of_sayings,
     a_made := f_made,
     d_made := _,
     F_made := fun_mk l_made c_made k_made,
     g_made := PySem.W.mg_of X G n_made,
     a__law_bag := f__law_bag,
     d__law_bag := _,
     F__law_bag := fun_mk l__law_bag c__law_bag k__law_bag,
     g__law_bag := PySem.W.mg_of X G n__law_bag,
     a__law_take := f__law_take,
     d__law_take := _,
     F__law_take := fun_mk l__law_take c__law_take k__law_take,
     g__law_take := PySem.W.mg_of X G n__law_take,
     a__law_worth := f__law_worth,
     d__law_worth := _,
     F__law_worth := fun_mk l__law_worth c__law_worth k__law_worth,
     g__law_worth := PySem.W.mg_of X G n__law_worth,
     a__law_value := f__law_value,
     d__law_value := _,
     F__law_value := fun_mk l__law_value c__law_value k__law_value,
     g__law_value := PySem.W.mg_of X G n__law_value,
     a__law_saying := f__law_saying,
     d__law_saying := _,
     F__law_saying := fun_mk l__law_saying c__law_saying k__law_saying,
     g__law_saying := PySem.W.mg_of X G n__law_saying,
     a__law_sayings := f__law_sayings,
     d__law_sayings := _,
     F__law_sayings := fun_mk l__law_sayings c__law_sayings k__law_sayings,
     g__law_sayings := PySem.W.mg_of X G n__law_sayings,
     a__law_tree := f__law_tree,
     d__law_tree := _,
     F__law_tree := fun_mk l__law_tree c__law_tree k__law_tree,
     g__law_tree := PySem.W.mg_of X G n__law_tree,
     a__law_emit_value := f__law_emit_value,
     d__law_emit_value := _,
     F__law_emit_value := fun_mk l__law_emit_value c__law_emit_value k__law_emit_value,
     g__law_emit_value := PySem.W.mg_of X G n__law_emit_value,
     a__law_emit_one := f__law_emit_one,
     d__law_emit_one := _,
     F__law_emit_one := fun_mk l__law_emit_one c__law_emit_one k__law_emit_one,
     g__law_emit_one := PySem.W.mg_of X G n__law_emit_one,
     a__law_emit := f__law_emit,
     d__law_emit := _,
     F__law_emit := fun_mk l__law_emit c__law_emit k__law_emit,
     g__law_emit := PySem.W.mg_of X G n__law_emit,
     a__law_rows := f__law_rows,
     d__law_rows := _,
     F__law_rows := fun_mk l__law_rows c__law_rows k__law_rows,
     g__law_rows := PySem.W.mg_of X G n__law_rows,
     a__law_short := f__law_short,
     d__law_short := _,
     F__law_short := fun_mk l__law_short c__law_short k__law_short,
     g__law_short := PySem.W.mg_of X G n__law_short,
     a__law_told := f__law_told,
     d__law_told := _,
     F__law_told := fun_mk l__law_told c__law_told k__law_told,
     g__law_told := PySem.W.mg_of X G n__law_told,
     a__law_due := f__law_due,
     d__law_due := _,
     F__law_due := fun_mk l__law_due c__law_due k__law_due,
     g__law_due := PySem.W.mg_of X G n__law_due,
     a__law_right := f__law_right,
     d__law_right := _,
     F__law_right := fun_mk l__law_right c__law_right k__law_right,
     g__law_right := PySem.W.mg_of X G n__law_right,
     a__law_balanced := f__law_balanced,
     d__law_balanced := _,
     F__law_balanced := fun_mk l__law_balanced c__law_balanced k__law_balanced,
     g__law_balanced := PySem.W.mg_of X G n__law_balanced,
     a_law := f_law,
     d_law := _,
     F_law := fun_mk l_law c_law k_law,
     g_law := PySem.W.mg_of X G n_law }⟩
theorem fin (hl : ∀ C_Busy C_MADE C_NoHook C_NoMark C_NoNumbers C_NoPart C_NoProgram C_NoRow C_NoText C_NoWord C_TooLong C_TooMany C_Unsound C_rows_of_if C_rows_of_plain C_rows_of_set C_rows_of_try C_rows_of_while : Addr, C_rows_of_if ≠ C_rows_of_plain → C_rows_of_if ≠ C_rows_of_set → C_rows_of_if ≠ C_rows_of_try → C_rows_of_if ≠ C_rows_of_while → C_rows_of_plain ≠ C_rows_of_set → C_rows_of_plain ≠ C_rows_of_try → C_rows_of_plain ≠ C_rows_of_while → C_rows_of_set ≠ C_rows_of_try → C_rows_of_set ≠ C_rows_of_while → C_rows_of_try ≠ C_rows_of_while → ∀ ns : List Int, ns.length ≤ 63 → (∀ z ∈ ns, Builtin.Int.intBits z ≤ 1048576) → ∃ h, F_law C_Busy C_MADE C_NoHook C_NoMark C_NoNumbers C_NoPart C_NoProgram C_NoRow C_NoText C_NoWord C_TooLong C_TooMany C_Unsound C_rows_of_if C_rows_of_plain C_rows_of_set C_rows_of_try C_rows_of_while [.scr ns] [] = .ok (.bl true) h) {l : PySem.W.OpenLaw} {w : World} {K : PySem.W.Frag} {mg : Str → Option Value} {fa : Addr} (hfa : mg "law" = some (.ref fa)) (N : Nonempty (Txt w K mg)) :
    ∃ fd : FuncData, (∀ (s : Shared) (v : Value), BindsTo s fd ⟨[v], []⟩ [("_law_script", v)]) ∧ ∀ base : Heap, K.In base → base.Ns mainGlobals mg → FnG l.prog w K mg base CX0 39 fa fd ["_law_script"] (spLaw K) := by
  obtain ⟨T⟩ := N
  have e := hfa.symm.trans T.g_law
  cases e
  refine ⟨T.d_law, fun s v => ?_, fun base _ _ => ok_law T (hl T.C_Busy T.C_MADE T.C_NoHook T.C_NoMark T.C_NoNumbers T.C_NoPart T.C_NoProgram T.C_NoRow T.C_NoText T.C_NoWord T.C_TooLong T.C_TooMany T.C_Unsound T.a_rows_of_if T.a_rows_of_plain T.a_rows_of_set T.a_rows_of_try T.a_rows_of_while (fun_ne T.F_rows_of_if T.F_rows_of_plain (by decide +kernel)) (fun_ne T.F_rows_of_if T.F_rows_of_set (by decide +kernel)) (fun_ne T.F_rows_of_if T.F_rows_of_try (by decide +kernel)) (fun_ne T.F_rows_of_if T.F_rows_of_while (by decide +kernel)) (fun_ne T.F_rows_of_plain T.F_rows_of_set (by decide +kernel)) (fun_ne T.F_rows_of_plain T.F_rows_of_try (by decide +kernel)) (fun_ne T.F_rows_of_plain T.F_rows_of_while (by decide +kernel)) (fun_ne T.F_rows_of_set T.F_rows_of_try (by decide +kernel)) (fun_ne T.F_rows_of_set T.F_rows_of_while (by decide +kernel)) (fun_ne T.F_rows_of_try T.F_rows_of_while (by decide +kernel)))⟩
  obtain ⟨_, _, _, _, _, _, _, _, _, e, _⟩ := T.F_law.ex
  rw [e]
  exact .of_eq rfl
end K08
set_option Elab.async false
set_option maxRecDepth 100000
set_option linter.unusedVariables false
set_option linter.unusedSimpArgs false
namespace Z
open PySem PySem.Spec PyProof.Rows L2
/-! ### how long a repr may be -/
mutual
def sz : Val → Nat
  | .non => 5
  | .bl _ => 5
  | .int _ => 60
  | .str x => 10 * x.length + 2
  | .tup xs => szs xs + 3
  | .lst xs => szs xs + 3
  | .ref _ => 5
  | .glo _ => 5
  | .ty _ => 5
  | .scr _ => 5
  | .exn _ _ _ _ => 5
def szs : List Val → Nat
  | [] => 0
  | x :: xs => sz x + 2 + szs xs
end
theorem szs_app : ∀ xs ys : List Val, szs (xs ++ ys) = szs xs + szs ys
  | [], ys => by simp [szs]
  | x :: xs, ys => by
    show sz x + 2 + szs (xs ++ ys) = sz x + 2 + szs xs + szs ys
    rw [szs_app xs ys]; omega
theorem szs_take (n : Nat) (xs : List Val) : szs (xs.take n) ≤ szs xs := by
  have := szs_app (xs.take n) (xs.drop n)
  rw [List.take_append_drop] at this
  omega
theorem szs_drop (n : Nat) (xs : List Val) : szs (xs.drop n) ≤ szs xs := by
  have := szs_app (xs.take n) (xs.drop n)
  rw [List.take_append_drop] at this
  omega
theorem szs_cut (n : Nat) (xs : List Val) : szs (xs.take n) + szs (xs.drop n) = szs xs := by
  rw [← szs_app, List.take_append_drop]
theorem szs_at {n : Nat} {xs : List Val} {x : Val} (e : xs[n]? = some x) : szs (xs.take n) + (sz x + 2) + szs (xs.drop (n + 1)) = szs xs := by
  have l := (List.getElem?_eq_some_iff.mp e).1
  have d : xs.drop n = x :: xs.drop (n + 1) := by
    rw [List.drop_eq_getElem_cons l]
    congr 1
    exact (List.getElem?_eq_some_iff.mp e).2
  have := szs_cut n xs
  rw [d] at this
  show szs (xs.take n) + (sz x + 2) + szs (xs.drop (n + 1)) = szs xs
  have e2 : szs (x :: xs.drop (n + 1)) = sz x + 2 + szs (xs.drop (n + 1)) := rfl
  omega
def asc (x : Str) : Bool := x.cps.all (· < 128)
theorem asc_lt {x : Str} (h : asc x = true) : ∀ c ∈ x.cps.toList, c < 128 := by
  intro c hc
  have := Array.all_eq_true_iff_forall_mem.mp h c (Array.mem_toList_iff.mp hc)
  simpa using this
theorem asc_of {x : Str} (h : ∀ c ∈ x.cps.toList, c < 128) : asc x = true := by
  unfold asc
  rw [Array.all_eq_true_iff_forall_mem]
  intro c hc
  have := h c (Array.mem_toList_iff.mpr hc)
  simpa using this
theorem asc_ok {x : Str} (h : asc x = true) : PyData.strOk x = true := by
  unfold PyData.strOk
  rw [Array.all_eq_true_iff_forall_mem]
  intro c hc
  have := asc_lt h c (Array.mem_toList_iff.mpr hc)
  simp
  omega
/-- plain, at most d deep, its numbers and lengths bounded -/
def fine (n : Nat) : Nat → Val → Bool
  | _, .non => true
  | _, .bl _ => true
  | _, .int i => decide (i.natAbs ≤ 10 ^ 49)
  | _, .str x => asc x && decide (x.length ≤ 20 + n)
  | d + 1, .tup xs => decide (xs.length ≤ 100 + n) && xs.all (fine n d)
  | d + 1, .lst xs => decide (xs.length ≤ 100 + n) && xs.all (fine n d)
  | _, _ => false
theorem fine_mono {n m : Nat} (h : n ≤ m) : ∀ (d e : Nat) (w : Val), d ≤ e → fine n d w = true → fine m e w = true := by
  intro d
  induction d with
  | zero =>
    intro e w _ q
    cases w with
    | int i =>
      have q' : decide (i.natAbs ≤ 10 ^ 49) = true := q
      rw [decide_eq_true_eq] at q'
      have : fine m e (.int i) = decide (i.natAbs ≤ 10 ^ 49) := by cases e <;> rfl
      rw [this, decide_eq_true_eq]
      exact q'
    | str x =>
      have q' : (asc x && decide (x.length ≤ 20 + n)) = true := q
      rw [Bool.and_eq_true, decide_eq_true_eq] at q'
      have : fine m e (.str x) = (asc x && decide (x.length ≤ 20 + m)) := by cases e <;> rfl
      rw [this, Bool.and_eq_true, decide_eq_true_eq]
      exact ⟨q'.1, by omega⟩
    | non => cases e <;> rfl
    | bl _ => cases e <;> rfl
    | _ => cases q
  | succ d ih =>
    intro e w l q
    obtain ⟨e, rfl⟩ : ∃ e', e = e' + 1 := ⟨e - 1, by omega⟩
    cases w with
    | int i =>
      have q' : decide (i.natAbs ≤ 10 ^ 49) = true := q
      rw [decide_eq_true_eq] at q'
      show decide (i.natAbs ≤ 10 ^ 49) = true
      rw [decide_eq_true_eq]
      exact q'
    | str x =>
      have q' : (asc x && decide (x.length ≤ 20 + n)) = true := q
      rw [Bool.and_eq_true, decide_eq_true_eq] at q'
      show (asc x && decide (x.length ≤ 20 + m)) = true
      rw [Bool.and_eq_true, decide_eq_true_eq]
      exact ⟨q'.1, by omega⟩
    | non => rfl
    | bl _ => rfl
    | tup xs =>
      have q' : (decide (xs.length ≤ 100 + n) && xs.all (fine n d)) = true := q
      rw [Bool.and_eq_true, decide_eq_true_eq, List.all_eq_true] at q'
      show (decide (xs.length ≤ 100 + m) && xs.all (fine m e)) = true
      rw [Bool.and_eq_true, decide_eq_true_eq, List.all_eq_true]
      exact ⟨by omega, fun w hw => ih e w (by omega) (q'.2 w hw)⟩
    | lst xs =>
      have q' : (decide (xs.length ≤ 100 + n) && xs.all (fine n d)) = true := q
      rw [Bool.and_eq_true, decide_eq_true_eq, List.all_eq_true] at q'
      show (decide (xs.length ≤ 100 + m) && xs.all (fine m e)) = true
      rw [Bool.and_eq_true, decide_eq_true_eq, List.all_eq_true]
      exact ⟨by omega, fun w hw => ih e w (by omega) (q'.2 w hw)⟩
    | _ => cases q
theorem fine_tup {n d : Nat} {xs : List Val} : fine n (d + 1) (.tup xs) = true ↔ xs.length ≤ 100 + n ∧ ∀ w ∈ xs, fine n d w = true := by
  show (decide (xs.length ≤ 100 + n) && xs.all (fine n d)) = true ↔ _
  rw [Bool.and_eq_true, decide_eq_true_eq, List.all_eq_true]
theorem fine_lst {n d : Nat} {xs : List Val} : fine n (d + 1) (.lst xs) = true ↔ xs.length ≤ 100 + n ∧ ∀ w ∈ xs, fine n d w = true := by
  show (decide (xs.length ≤ 100 + n) && xs.all (fine n d)) = true ↔ _
  rw [Bool.and_eq_true, decide_eq_true_eq, List.all_eq_true]
theorem depthAll_le {d : Nat} : ∀ {xs : List Val}, (∀ w ∈ xs, (toD w).depth ≤ d) → PyData.depthAll (toDs xs) ≤ d
  | [], _ => by unfold toDs; unfold PyData.depthAll; omega
  | x :: xs, h => by
    unfold toDs; unfold PyData.depthAll
    have := h x List.mem_cons_self
    have := depthAll_le (xs := xs) fun w hw => h w (List.mem_cons_of_mem _ hw)
    omega
theorem showAll {xs : List Val} (h : ∀ w ∈ xs, (toD w).showable = true) : PyData.showableAll (toDs xs) = true := by
  induction xs with
  | nil => rfl
  | cons x xs ih =>
    unfold toDs; unfold PyData.showableAll
    rw [h x List.mem_cons_self, ih fun w hw => h w (List.mem_cons_of_mem _ hw)]; rfl
theorem shownAll_len {xs : List Val} : (PyData.shownAll (toDs xs)).length = xs.length := by
  induction xs with
  | nil => rfl
  | cons x xs ih =>
    unfold toDs; unfold PyData.shownAll
    rw [List.length_cons, ih]; rfl
theorem shownAll_sum {xs : List Val} (h : ∀ w ∈ xs, (toD w).shown.length ≤ sz w) : ((PyData.shownAll (toDs xs)).map (fun y : Str => y.length)).sum + 2 * xs.length ≤ szs xs := by
  induction xs with
  | nil => exact Nat.le_refl _
  | cons x xs ih =>
    unfold toDs; unfold PyData.shownAll
    rw [List.map_cons, List.sum_cons, List.length_cons]
    have := ih fun w hw => h w (List.mem_cons_of_mem _ hw)
    have := h x List.mem_cons_self
    have : szs (x :: xs) = sz x + 2 + szs xs := rfl
    omega
theorem big39 {i : Int} (q : i.natAbs ≤ 10 ^ 49) : i.natAbs < 10 ^ 50 := Nat.lt_of_le_of_lt q (by decide)
theorem fine_all {n : Nat} (l : n ≤ 9000) : ∀ (d : Nat) (w : Val), fine n d w = true → pl w = true ∧ (toD w).depth ≤ d ∧ (toD w).showable = true ∧ (toD w).shown.length ≤ sz w := by
  have scal : ∀ (d : Nat) (w : Val), fine n d w = true → (∀ xs, w ≠ .tup xs) → (∀ xs, w ≠ .lst xs) → pl w = true ∧ (toD w).depth ≤ d ∧ (toD w).showable = true ∧ (toD w).shown.length ≤ sz w := by
    intro d w q n1 n2
    cases w with
    | non => exact ⟨rfl, by unfold toD; unfold PyData.depth; omega, rfl, by unfold toD; unfold PyData.shown; decide +kernel⟩
    | bl b => exact ⟨rfl, by unfold toD; unfold PyData.depth; omega, rfl, by unfold toD; unfold PyData.shown; cases b <;> decide +kernel⟩
    | int i =>
      have q' : decide (i.natAbs ≤ 10 ^ 49) = true := by cases d <;> exact q
      rw [decide_eq_true_eq] at q'
      have b := big39 q'
      refine ⟨rfl, by unfold toD; unfold PyData.depth; omega, ?_, ?_⟩
      · show decide (i.natAbs.log2 < 1920) = true
        rw [decide_eq_true_eq]
        by_cases z : i.natAbs = 0
        · rw [z]; decide
        · have : i.natAbs.log2 < 200 := (Nat.log2_lt z).mpr (Nat.lt_of_lt_of_le b (by decide))
          omega
      · show (Str.ofString (toString i)).length ≤ 60
        rw [PySem.ofString_length]
        have := int_text_length_le10 (k := 50) (by decide) b
        omega
    | str x =>
      have q'' : (asc x && decide (x.length ≤ 20 + n)) = true := by cases d <;> exact q
      rw [Bool.and_eq_true, decide_eq_true_eq] at q''
      have q' := And.intro (asc_ok q''.1) q''.2
      refine ⟨?_, by unfold toD; unfold PyData.depth; omega, rfl, ?_⟩
      · unfold pl
        rw [q'.1]
        simp; omega
      · show (reprText x).length ≤ 10 * x.length + 2
        refine StrLaws.reprText_len x fun c hc => ?_
        have z := q'.1
        unfold PyData.strOk at z
        have z2 := Array.all_eq_true_iff_forall_mem.mp z c (Array.mem_toList_iff.mp hc)
        have : c < 0x110000 := by simpa using z2
        omega
    | tup xs => exact absurd rfl (n1 xs)
    | lst xs => exact absurd rfl (n2 xs)
    | _ => cases d <;> cases q
  intro d
  induction d with
  | zero =>
    intro w q
    exact scal 0 w q (fun xs e => by subst e; cases q) (fun xs e => by subst e; cases q)
  | succ d ih =>
    intro w q
    cases w with
    | tup xs =>
      obtain ⟨q1, q2⟩ := fine_tup.mp q
      have h := fun w hw => ih w (q2 w hw)
      refine ⟨pl_tup (by omega) fun w hw => (h w hw).1, ?_, ?_, ?_⟩
      · show PyData.depthAll (toDs xs) + 1 ≤ d + 1
        exact Nat.succ_le_succ (depthAll_le fun w hw => (h w hw).2.1)
      · exact showAll fun w hw => (h w hw).2.2.1
      · show (tupleText (PyData.shownAll (toDs xs))).length ≤ szs xs + 3
        refine Nat.le_trans (tupleText_len_le _) ?_
        rw [shownAll_len]
        have := shownAll_sum fun w hw => (h w hw).2.2.2
        omega
    | lst xs =>
      obtain ⟨q1, q2⟩ := fine_lst.mp q
      have h := fun w hw => ih w (q2 w hw)
      refine ⟨pl_lst (by omega) fun w hw => (h w hw).1, ?_, ?_, ?_⟩
      · show PyData.depthAll (toDs xs) + 1 ≤ d + 1
        exact Nat.succ_le_succ (depthAll_le fun w hw => (h w hw).2.1)
      · exact showAll fun w hw => (h w hw).2.2.1
      · show (listText (PyData.shownAll (toDs xs))).length ≤ szs xs + 3
        refine Nat.le_trans (listText_len_le _) ?_
        rw [shownAll_len]
        have := shownAll_sum fun w hw => (h w hw).2.2.2
        omega
    | _ => exact scal (d + 1) _ q (fun _ e => nomatch e) (fun _ e => nomatch e)
theorem ev_repr {n d : Nat} {w : Val} {h : HH} (l : n ≤ 9000) (ld : d ≤ 60) (q : fine n d w = true) (z : sz w ≤ 16000000) : fRepr [w] h = .ok (.str (toD w).shown) h := by
  obtain ⟨h1, h2, h3, h4⟩ := fine_all l d w q
  have r1 : rd w h = some w := by cases w <;> first | rfl | cases h1
  show (match rd w h with
    | some a => if okV a = true ∧ (toD a).showable = true ∧ (toD a).depth ≤ 60 ∧ (toD a).shown.length ≤ sizeLine then Out.ok (Val.str (toD a).shown) h else .bad
    | none => .bad) = _
  rw [r1]
  dsimp only
  rw [if_pos ⟨pl_ok w h1, h3, by omega, by have := sizeLine_eq; omega⟩]
end Z
namespace Z
open PySem PySem.Spec PyProof.Rows L2
/-- a comprehension whose element draws -/
theorem lc_draw {g : GM} {m : SE} {ro : En} {ys : List Val} (P : Nat → HH → Prop) (R : Nat → Val → Prop) (hf : ∀ i w h, ys[i]? = some w → P i h → ∃ ro1 y h1, g w ro h = .go .nx ro1 h ∧ m ro1 h = .ok y h1 ∧ R i y ∧ P (i + 1) h1) :
    ∀ (k i : Nat) (acc : List Val) (h : HH), k + i = ys.length → P i h → ∃ zs h', lcTurns g tYesZ m ro (.st ys) k i acc h = .ok (acc ++ zs) h' ∧ zs.length = k ∧ (∀ j y, zs[j]? = some y → R (i + j) y) ∧ P ys.length h'
  | 0, i, acc, h, e, p => by
    have : i = ys.length := by omega
    subst this
    refine ⟨[], h, ?_, rfl, fun j y q => by simp at q, p⟩
    unfold lcTurns
    have : nxt (.st ys) ys.length h = some none := by show some ys[ys.length]? = _; simp
    rw [this]; simp
  | k + 1, i, acc, h, e, p => by
    have l : i < ys.length := by omega
    have es : ys[i]? = some ys[i] := List.getElem?_eq_getElem l
    obtain ⟨ro1, y, h1, e1, e2, r, p1⟩ := hf i ys[i] h es p
    obtain ⟨zs, h', e3, l3, r3, p3⟩ := lc_draw P R hf k (i + 1) (acc ++ [y]) h1 (by omega) p1
    refine ⟨y :: zs, h', ?_, by simp [l3], fun j z q => ?_, p3⟩
    · unfold lcTurns
      have : nxt (.st ys) i h = some (some ys[i]) := by show some ys[i]? = _; rw [es]
      rw [this]
      simp only [e1, tYesZ_e, if_true, e2, e3, List.append_assoc, List.singleton_append]
    · cases j with
      | zero =>
        have : y = z := by simpa using q
        subst this
        exact r
      | succ j =>
        have := r3 j z (by simpa using q)
        rwa [show i + (j + 1) = i + 1 + j by omega]
theorem sLc_eq {mi : SI} {g : GM} {t : En → M Bool} {m : SE} {own : List Nat} {ro : En} {h h1 : HH} {x : Itm} {k : Nat} (e : mi ro h = .ok (x, k) h1) : sLc mi g t m own ro h = obind (lcTurns g t m (wipeN ro own) x k 0 [] h1) fun ys => ret (.lst ys) := by
  show obind (mi ro h) _ = _
  rw [e]
  rfl
theorem iRg1_ev {m : SE} {ro : En} {h h1 : HH} {n : Nat} (e : m ro h = .ok (.int (n : Nat)) h1) (l : n ≤ 1000) : iRgN 1 (aCons m aNil) ro h = .ok (.st (nums 0 n), n) h1 := by
  simp -implicitDefEqProofs only [iRgN_e, aCons_e, e, aNil_e, ob_ok]
  rw [if_pos (show [Val.int (n : Int)].length = 1 from rfl), fRg1 l]
theorem nums_len {n : Nat} {lo : Int} : (nums lo n).length = n := by simp [nums]
theorem fint_b {p : Bool} {h : HH} : fInt [.bl p] h = .ok (.int (if p = true then 1 else 0)) h := rfl
theorem str_at {x : Str} {i c : Nat} {h : HH} (e : x.cps.toList[i]? = some c) (l : x.length ≤ 1000) : bIx (.str x) (.int (i : Nat)) h = .ok (.str ⟨#[c]⟩) h := by
  show (if x.length ≤ sizeLine then (match L2.atI x.cps.toList (i : Nat) with
    | some c => Out.ok (Val.str ⟨#[c]⟩) h
    | none => .bad) else .bad) = _
  rw [if_pos (by have := sizeLine_eq; omega)]
  have : L2.atI x.cps.toList (i : Nat) = some c := atI_nat e
  rw [this]
end Z
namespace K08
open PySem PySem.Spec PyProof.Rows L2 Z
/-! ### draws -/
def BagK (b : Nat) (h : HH) : Prop := ∃ f m : Int, h[b]? = some (.lst [.int f, .int m]) ∧ 0 ≤ f ∧ 0 ≤ m ∧ m < 2 ^ 31
theorem BagK.lt {b : Nat} {h : HH} (B : BagK b h) : b < h.length := by
  obtain ⟨f, l, e, _⟩ := B
  exact (List.getElem?_eq_some_iff.mp e).1
/-- what a draw leaves: the bag alone is changed -/
def Kp (b : Nat) (h h' : HH) : Prop := h.length ≤ h'.length ∧ ∀ i, i < h.length → i ≠ b → h'[i]? = h[i]?
theorem Kp.refl (b : Nat) (h : HH) : Kp b h h := ⟨Nat.le_refl _, fun _ _ _ => rfl⟩
theorem Kp.trans {b : Nat} {h h1 h2 : HH} (a : Kp b h h1) (c : Kp b h1 h2) : Kp b h h2 := ⟨Nat.le_trans a.1 c.1, fun i l n => (c.2 i (Nat.lt_of_lt_of_le l a.1) n).trans (a.2 i l n)⟩
theorem Kp.set {b : Nat} {h : HH} {x : Ob} : Kp b h (h.set b x) := ⟨by simp, fun i l n => by rw [List.getElem?_set_ne (Ne.symm n)]⟩
theorem Kp.new {b : Nat} {h : HH} {x : Ob} : Kp b h (h ++ [x]) := ⟨by simp, fun i l n => by rw [List.getElem?_append_left l]⟩
structure Aft (b : Nat) (h h' : HH) : Prop where
  kp : Kp b h h'
  bag : BagK b h'
theorem Aft.trans {b : Nat} {h h1 h2 : HH} (a : Aft b h h1) (d : Aft b h1 h2) : Aft b h h2 := ⟨a.kp.trans d.kp, d.bag⟩
theorem Aft.refl {b : Nat} {h : HH} (B : BagK b h) : Aft b h h := ⟨Kp.refl b h, B⟩
theorem Aft.new {b : Nat} {h : HH} {x : Ob} (B : BagK b h) : Aft b h (h ++ [x]) := by
  have l := B.lt
  obtain ⟨f, m, e, q⟩ := B
  exact ⟨Kp.new, f, m, by rw [List.getElem?_append_left l]; exact e, q⟩
theorem Aft.put {b q : Nat} {h h1 : HH} {x : Ob} (A : Aft b h h1) (lq : h.length ≤ q) (n : q ≠ b) : Aft b h (h1.set q x) := by
  refine ⟨⟨by simp; exact A.kp.1, fun i hi ni => ?_⟩, ?_⟩
  · rw [List.getElem?_set_ne (by omega)]
    exact A.kp.2 i hi ni
  · obtain ⟨f, m, e, z⟩ := A.bag
    exact ⟨f, m, by rw [List.getElem?_set_ne n]; exact e, z⟩
theorem ev_take {b : Nat} {h : HH} {many : Int} (B : BagK b h) (hm : 0 < many) (hm2 : many ≤ 2 ^ 40) :
    ∃ (v : Int) (h' : HH), F__law_take [.ref b, .int many] h = .ok (.int v) h' ∧ 0 ≤ v ∧ v < many ∧ Aft b h h' := by
  obtain ⟨f, l, e, f0, l0, l1⟩ := B
  have i0 : bIx (.ref b) (.int 0) h = .ok (.int f) h := ix_r (i := 0) e rfl
  rw [e__law_take]
  by_cases hf : 0 < f
  · refine ⟨f % many, h.set b (.lst [.int (f / many), .int l]), ?_, Int.emod_nonneg _ (by omega), Int.emod_lt_of_pos _ hm, Kp.set, ⟨_, _, set_get e, Int.ediv_nonneg f0 (by omega), l0, l1⟩⟩
    have g0 : gSb (sVar 0) (sC (.int 0)) (.int (f / many)) [some (.ref b), some (.int many), some (.int (f % many))] h = .go .nx [some (.ref b), some (.int many), some (.int (f % many))] (h.set b (.lst [.int (f / many), .int l])) := gSb_e (j := 0) (sVar_e rfl) rfl e rfl
    have d0 : bDiv (.int f) (.int many) h = .ok (.int (f / many)) h := div_ii hm (by omega)
    have d1 : bMod (.int f) (.int many) h = .ok (.int (f % many)) h := mod_ii hm
    simp -implicitDefEqProofs only [m__law_take, nSeq_e, nIf_e, cBin_e, sBin_e, sVar_0, sC_e, ob_ok, i0, bOrd_e, unB_bl, decide_eq_true hf, sb_ok, if_true, nSet_e, sVar_1, d1, sq_nx, List.set_cons_zero, List.set_cons_succ, nAsg_e, d0, g0, asg_nx, nRet_e, sVar_s, sq_ret, outOf_ret]
  · have i1 : bIx (.ref b) (.int 1) h = .ok (.int l) h := ix_r (i := 1) e rfl
    have m1 : bMul (.int l) (.int 48271) h = .ok (.int (l * 48271)) h := mul_ii (.inl ⟨by omega, by omega⟩)
    generalize em : (l * 48271 + 7919) % 2147483647 = m2
    have m20 : 0 ≤ m2 := by rw [← em]; exact Int.emod_nonneg _ (by omega)
    have m21 : m2 < 2147483647 := by rw [← em]; exact Int.emod_lt_of_pos _ (by omega)
    have k1 : bMod (.int (l * 48271 + 7919)) (.int 2147483647) h = .ok (.int m2) h := by rw [mod_ii (by omega), em]
    have e1 : (h.set b (.lst [.int f, .int m2]))[b]? = some (.lst [.int f, .int m2]) := set_get e
    have g0 : gSb (sVar 0) (sC (.int 1)) (.int m2) [some (.ref b), some (.int many), none] h = .go .nx [some (.ref b), some (.int many), none] (h.set b (.lst [.int f, .int m2])) := gSb_e (j := 1) (sVar_e rfl) rfl e rfl
    have K : Kp b h (h.set b (.lst [.int f, .int m2])) := Kp.set
    generalize h.set b (.lst [.int f, .int m2]) = h1 at e1 g0 K
    have j1 : bIx (.ref b) (.int 1) h1 = .ok (.int m2) h1 := ix_r (i := 1) e1 rfl
    have pw : bPow (.int m2) (.int 3) h1 = .ok (.int (m2 ^ 3)) h1 := pow_ii (n := 31) (j := 3) (by omega) (by decide)
    have k2 : bMod (.int (m2 ^ 3)) (.int 2147483587) h1 = .ok (.int (m2 ^ 3 % 2147483587)) h1 := mod_ii (by omega)
    have z0 : 0 ≤ m2 ^ 3 % 2147483587 := Int.emod_nonneg _ (by omega)
    have z1 : m2 ^ 3 % 2147483587 < 2147483587 := Int.emod_lt_of_pos _ (by omega)
    generalize m2 ^ 3 % 2147483587 = z at k2 z0 z1
    have k3 : bDiv (.int z) (.int 7) h1 = .ok (.int (z / 7)) h1 := div_ii (by omega) (by omega)
    have k4 : bMul (.int (z / 7)) (.int 69621) h1 = .ok (.int (z / 7 * 69621)) h1 := mul_ii (.inl ⟨by omega, by omega⟩)
    have k5 : bMod (.int (z / 7 * 69621)) (.int 1073741789) h1 = .ok (.int (z / 7 * 69621 % 1073741789)) h1 := mod_ii (by omega)
    have k6 : bMod (.int (z / 7 * 69621 % 1073741789)) (.int many) h1 = .ok (.int (z / 7 * 69621 % 1073741789 % many)) h1 := mod_ii hm
    refine ⟨z / 7 * 69621 % 1073741789 % many, h1, ?_, Int.emod_nonneg _ (by omega), Int.emod_lt_of_pos _ hm, K, ⟨f, m2, e1, f0, m20, by omega⟩⟩
    simp -implicitDefEqProofs only [m__law_take, nSeq_e, nIf_e, cBin_e, sBin_e, sVar_0, sC_e, ob_ok, i0, bOrd_e, unB_bl, decide_eq_false hf, sb_ok, Bool.false_eq_true, if_false, nNext_e, sq_nx, nAsg_e, i1, m1, add_ii, k1, g0, asg_nx, nRet_e, j1, pw, k2, k3, k4, k5, sVar_1, k6, sq_ret, outOf_ret]
def tk (n : Int) : SE := sCall F__law_take 2 0 2 (fun ws _ => ws) (aCons (sVar 0) (aCons (sC (.int n)) aNil)) aNil
theorem tk_e {n : Int} {ro : En} {h : HH} {b : Nat} (e : ro[0]? = some (some (.ref b))) : tk n ro h = F__law_take [.ref b, .int n] h := by
  unfold tk
  simp [sVar_e e]
open PySem.Builtin.Str (reprChar)
def numS (i : Int) : Str := Str.ofString (toString i)
theorem numS_nat (n : Nat) : TL.tl (numS (n : Nat)) = TL.numL n := TL.tl_num n
theorem numS_neg (n : Nat) : TL.tl (numS (-((n + 1 : Nat) : Int))) = 45 :: TL.numL (n + 1) := by
  have e : toString (-((n + 1 : Nat) : Int)) = "-" ++ toString ((n + 1 : Nat) : Int) := rfl
  rw [← numS_nat]
  unfold numS
  rw [e]
  show (Str.ofString _).cps.toList = _
  rw [Str.ofString_eq_toList]
  show (List.map Char.toNat ("-" ++ toString ((n + 1 : Nat) : Int)).toList).toArray.toList = 45 :: (Str.ofString _).cps.toList
  rw [Str.ofString_eq_toList]
  simp [String.toList_append]
theorem numS_cases (i : Int) : (∃ n : Nat, i = (n : Nat) ∧ TL.tl (numS i) = TL.numL n) ∨ ∃ n : Nat, i = -((n + 1 : Nat) : Int) ∧ TL.tl (numS i) = 45 :: TL.numL (n + 1) := by
  by_cases c : 0 ≤ i
  · obtain ⟨n, rfl⟩ := Int.eq_ofNat_of_zero_le c
    exact .inl ⟨n, rfl, numS_nat n⟩
  · obtain ⟨n, rfl⟩ : ∃ n : Nat, i = -((n + 1 : Nat) : Int) := ⟨(-i - 1).toNat, by omega⟩
    exact .inr ⟨n, rfl, numS_neg n⟩
theorem asc_app {x y : Str} (h1 : asc x = true) (h2 : asc y = true) : asc (x ++ y) = true := asc_of fun c hc => by
  have e : (x ++ y).cps.toList = x.cps.toList ++ y.cps.toList := by
    show (x.cps ++ y.cps).toList = _
    rw [Array.toList_append]
  rw [e] at hc
  rcases List.mem_append.mp hc with hc | hc
  · exact asc_lt h1 c hc
  · exact asc_lt h2 c hc
theorem asc_cut {x : Str} {lo hi : Option Int} (h : asc x = true) : asc (cutS x lo hi) = true ∧ (cutS x lo hi).length ≤ x.length := by
  have e : (cutS x lo hi).cps.toList = (x.cps.toList.drop (HT.sIx x.length 0 lo)).take (HT.sIx x.length x.length hi - HT.sIx x.length 0 lo) := by
    first
      | rfl
      | (unfold cutS; simp)
  refine ⟨asc_of fun c hc => ?_, ?_⟩
  · rw [e] at hc
    exact asc_lt h c (List.mem_of_mem_drop (List.mem_of_mem_take hc))
  · have : (cutS x lo hi).length = (cutS x lo hi).cps.toList.length := by rw [Array.length_toList]; rfl
    rw [this, e, List.length_take, List.length_drop, Array.length_toList]
    show _ ≤ x.cps.size
    omega
theorem joinL_lt {S : List Nat} (hS : ∀ c ∈ S, c < 128) : ∀ {ps : List (List Nat)}, (∀ p ∈ ps, ∀ c ∈ p, c < 128) → ∀ c ∈ TL.joinL S ps, c < 128
  | [], _, c, hc => nomatch hc
  | [p], h, c, hc => h p (by simp) c hc
  | p :: q :: r, h, c, hc => by
    have hc' : c ∈ p ++ (S ++ TL.joinL S (q :: r)) := hc
    rcases List.mem_append.mp hc' with hc | hc
    · exact h p (by simp) c hc
    · rcases List.mem_append.mp hc with hc | hc
      · exact hS c hc
      · exact joinL_lt hS (fun w hw => h w (List.mem_cons_of_mem _ hw)) c hc
theorem asc_join {a : Str} {ys : List Str} (ha : asc a = true) (h : ∀ y ∈ ys, asc y = true) : asc (Txt.join a ys) = true := asc_of fun c hc => by
  rw [TL.join_eq] at hc
  have e : (Str.join a ys).cps.toList = TL.joinL (TL.tl a) (ys.map TL.tl) := TL.tl_join a ys
  rw [e] at hc
  refine joinL_lt (asc_lt ha) (fun p hp => ?_) c hc
  obtain ⟨y, hy, rfl⟩ := List.mem_map.mp hp
  exact asc_lt (h y hy)
theorem asc_joinS {a : Str} {ys : List Str} (ha : asc a = true) (h : ∀ y ∈ ys, asc y = true) : asc (Str.join a ys) = true := by
  rw [← TL.join_eq]
  exact asc_join ha h
theorem numL_lt128 {n c : Nat} (h : c ∈ TL.numL n) : c < 128 := by
  by_cases q : c < 128
  · exact q
  · exact absurd h (TL.numL_free (.inr (by omega)))
theorem asc_num (i : Int) : asc (numS i) = true := asc_of fun c hc => by
  have hc' : c ∈ TL.tl (numS i) := hc
  rcases numS_cases i with ⟨n, rfl, e⟩ | ⟨n, rfl, e⟩
  · rw [e] at hc'
    exact numL_lt128 hc'
  · rw [e] at hc'
    rcases List.mem_cons.mp hc' with rfl | hc'
    · decide
    · exact numL_lt128 hc'
theorem textFrom_asc : ∀ (ts : List Str) (k : Nat) (acc : Str), asc acc = true → (∀ t ∈ ts, asc t = true) → asc (textFrom k acc ts) = true
  | [], k, acc, h, _ => h
  | t :: r, k, acc, h, ht => by
    refine textFrom_asc r (k + 1) (acc ++ (if k > 0 then ", " else "" : String) ++ t) (asc_app (asc_app h ?_) (ht t List.mem_cons_self)) fun u hu => ht u (List.mem_cons_of_mem _ hu)
    by_cases q : k > 0
    · rw [if_pos q]; decide +kernel
    · rw [if_neg q]; decide +kernel
theorem reprChar_lt : ∀ q ∈ [34, 39], ∀ c : Fin 128, ∀ d ∈ reprChar q c.val, d < 128 := by decide +kernel
theorem foldl_repr_asc {q : Nat} (hq : q ∈ [34, 39]) : ∀ (l : List Nat) (acc : Array Nat), (∀ c ∈ l, c < 128) → (∀ c ∈ acc.toList, c < 128) → ∀ c ∈ (l.foldl (fun out c => out ++ (reprChar q c).toArray) acc).toList, c < 128
  | [], acc, _, ha => ha
  | c :: r, acc, h, ha => by
    rw [List.foldl_cons]
    refine foldl_repr_asc hq r _ (fun d hd => h d (List.mem_cons_of_mem _ hd)) fun d hd => ?_
    rw [Array.toList_append] at hd
    rcases List.mem_append.mp hd with hd | hd
    · exact ha d hd
    · exact reprChar_lt q hq ⟨c, h c List.mem_cons_self⟩ d hd
theorem reprText_asc {x : Str} (a : asc x = true) : asc (reprText x) = true := by
  have hq : reprQuote x ∈ [34, 39] := by
    unfold reprQuote
    split <;> simp
  have hq2 : reprQuote x < 128 := by
    simp only [List.mem_cons, List.not_mem_nil, or_false] at hq
    omega
  refine asc_of fun c hc => ?_
  unfold reprText at hc
  have hc' : c ∈ ((x.cps.foldl (fun out c => out ++ (reprChar (reprQuote x) c).toArray) #[reprQuote x]).push (reprQuote x)).toList := hc
  rw [Array.toList_push, ← Array.foldl_toList] at hc'
  rcases List.mem_append.mp hc' with h | h
  · refine foldl_repr_asc hq x.cps.toList #[reprQuote x] (asc_lt a) (fun d hd => ?_) c h
    rw [show d = reprQuote x by simpa using hd]
    exact hq2
  · rw [List.mem_singleton.mp h]
    exact hq2
theorem shownAll_mem {xs : List Val} {t : Str} (h : t ∈ PyData.shownAll (toDs xs)) : ∃ w ∈ xs, t = (toD w).shown := by
  induction xs with
  | nil => exact nomatch h
  | cons x xs ih =>
    have h' : t ∈ (toD x).shown :: PyData.shownAll (toDs xs) := h
    rcases List.mem_cons.mp h' with rfl | h'
    · exact ⟨x, List.mem_cons_self, rfl⟩
    · obtain ⟨w, hw, e⟩ := ih h'
      exact ⟨w, List.mem_cons_of_mem _ hw, e⟩
theorem fine_asc {n : Nat} : ∀ (d : Nat) (w : Val), fine n d w = true → asc (toD w).shown = true := by
  have scal : ∀ (d : Nat) (w : Val), fine n d w = true → (∀ xs, w ≠ .tup xs) → (∀ xs, w ≠ .lst xs) → asc (toD w).shown = true := by
    intro d w q n1 n2
    cases w with
    | non => unfold toD; unfold PyData.shown; decide +kernel
    | bl b => unfold toD; unfold PyData.shown; cases b <;> decide +kernel
    | int i => exact asc_num i
    | str x =>
      have q'' : (asc x && decide (x.length ≤ 20 + n)) = true := by cases d <;> exact q
      rw [Bool.and_eq_true] at q''
      exact reprText_asc q''.1
    | tup xs => exact absurd rfl (n1 xs)
    | lst xs => exact absurd rfl (n2 xs)
    | _ => cases d <;> cases q
  intro d
  induction d with
  | zero =>
    intro w q
    exact scal 0 w q (fun xs e => by subst e; cases q) (fun xs e => by subst e; cases q)
  | succ d ih =>
    intro w q
    cases w with
    | tup xs =>
      obtain ⟨q1, q2⟩ := fine_tup.mp q
      show asc (tupleText (PyData.shownAll (toDs xs))) = true
      unfold tupleText
      refine asc_app (asc_app (by decide +kernel) (asc_joinS (by decide +kernel) fun y hy => ?_)) ?_
      · obtain ⟨w, hw, rfl⟩ := shownAll_mem hy
        exact ih w (q2 w hw)
      · split <;> decide +kernel
    | lst xs =>
      obtain ⟨q1, q2⟩ := fine_lst.mp q
      show asc (listText (PyData.shownAll (toDs xs))) = true
      unfold listText
      refine asc_app (textFrom_asc _ _ _ (by decide +kernel) fun y hy => ?_) (by decide +kernel)
      obtain ⟨w, hw, rfl⟩ := shownAll_mem hy
      exact ih w (q2 w hw)
    | _ => exact scal (d + 1) _ q (fun _ e => nomatch e) (fun _ e => nomatch e)
theorem szs_le {m : Nat} : ∀ {xs : List Val}, (∀ w ∈ xs, sz w ≤ m) → szs xs ≤ xs.length * (m + 2)
  | [], _ => Nat.zero_le _
  | x :: xs, h => by
    have := h x List.mem_cons_self
    have := szs_le (xs := xs) fun w hw => h w (List.mem_cons_of_mem _ hw)
    rw [List.length_cons, Nat.succ_mul]
    show sz x + 2 + szs xs ≤ _
    omega
theorem str_fine {n d : Nat} {x : Str} (h : asc x = true) (l : x.length ≤ 14) : fine n d (.str x) = true ∧ sz (.str x) ≤ 142 := by
  have q : (asc x && decide (x.length ≤ 20 + n)) = true := by
    rw [h, Bool.true_and, decide_eq_true_eq]; omega
  refine ⟨by cases d <;> exact q, ?_⟩
  show 10 * x.length + 2 ≤ 142
  omega
theorem int_fine {n d : Nat} {i : Int} (h : i.natAbs ≤ 10 ^ 49) : fine n d (.int i) = true := by
  have q : decide (i.natAbs ≤ 10 ^ 49) = true := decide_eq_true h
  cases d <;> exact q
theorem two_eq {x : Str} {h : HH} (o : PyData.strOk x = true) : bEq (.lst [.str x, .str x]) (.lst [.str x, .str x]) h = .ok (.bl true) h := by
  have o1 : okV (.lst [.str x, .str x]) = true := by
    show (PyData.strOk x && (PyData.strOk x && true)) = true
    rw [o]; rfl
  show (match veq (.lst [.str x, .str x]) (.lst [.str x, .str x]) with | some k => Out.ok (Val.bl k) h | none => .bad) = _
  have : veq (.lst [.str x, .str x]) (.lst [.str x, .str x]) = some true := by
    show (if okV (.lst [.str x, .str x]) = true ∧ okV (.lst [.str x, .str x]) = true ∧ min (toD (.lst [.str x, .str x])).depth (toD (.lst [.str x, .str x])).depth ≤ 64 then some (PyData.eqv (toD (.lst [.str x, .str x])) (toD (.lst [.str x, .str x]))) else none) = _
    rw [if_pos ⟨o1, o1, Nat.le_trans (Nat.min_le_left _ _) (by
      have : (toD (.lst [.str x, .str x])).depth ≤ 1 := by
        show PyData.depthAll (toDs [.str x, .str x]) + 1 ≤ 1
        refine Nat.succ_le_succ (depthAll_le (d := 0) fun w hw => ?_)
        simp only [List.mem_cons, List.not_mem_nil, or_false] at hw
        rcases hw with rfl | rfl
        · unfold toD; unfold PyData.depth; omega
        · unfold toD; unfold PyData.depth; omega
      omega)⟩]
    congr 1
    show PyData.eqv (.list [.str x, .str x]) (.list [.str x, .str x]) = _
    simp [PyData.eqv, PyData.eqvAll]
  rw [this]
theorem sl_l {xs : List Val} {lo hi : Option Int} {h : HH} : bSl (.lst xs) lo hi h = .ok (.lst (cutW xs lo hi)) h := rfl
theorem cutW_to {xs : List Val} {n : Nat} (l : n ≤ xs.length) : cutW xs none (some (n : Int)) = xs.take n := by
  have e : HT.sIx xs.length xs.length (some (n : Int)) = n := by
    unfold HT.sIx
    first
      | (simp; omega)
      | (dsimp only; split <;> omega)
  show (xs.drop (HT.sIx xs.length 0 none)).take (HT.sIx xs.length xs.length (some (n : Int)) - HT.sIx xs.length 0 none) = _
  rw [e]
  rfl
theorem cutW_from {xs : List Val} {n : Nat} (l : n ≤ xs.length) : cutW xs (some (n : Int)) none = xs.drop n := by
  have e : HT.sIx xs.length 0 (some (n : Int)) = n := by
    unfold HT.sIx
    first
      | (simp; omega)
      | (dsimp only; split <;> omega)
  have e2 : HT.sIx xs.length xs.length none = xs.length := rfl
  show (xs.drop (HT.sIx xs.length 0 (some (n : Int)))).take (HT.sIx xs.length xs.length none - HT.sIx xs.length 0 (some (n : Int))) = _
  rw [e, e2]
  exact List.take_of_length_le (by rw [List.length_drop]; exact Nat.le_refl _)
theorem cutW_all {xs : List Val} {n : Nat} : cutW xs (some (n : Int)) none = xs.drop n := by
  by_cases l : n ≤ xs.length
  · exact cutW_from l
  · have e : HT.sIx xs.length 0 (some (n : Int)) = xs.length := by
      unfold HT.sIx
      first
        | (simp; omega)
        | (dsimp only; split <;> omega)
    show (xs.drop (HT.sIx xs.length 0 (some (n : Int)))).take _ = _
    rw [e, List.drop_length, List.take_nil, List.drop_eq_nil_of_le (by omega)]
theorem cutW_first {xs : List Val} {n : Nat} : cutW xs none (some (n : Int)) = xs.take n := by
  by_cases l : n ≤ xs.length
  · exact cutW_to l
  · have e : HT.sIx xs.length xs.length (some (n : Int)) = xs.length := by
      unfold HT.sIx
      first
        | (simp; omega)
        | (dsimp only; split <;> omega)
    show (xs.drop (HT.sIx xs.length 0 none)).take (HT.sIx xs.length xs.length (some (n : Int)) - HT.sIx xs.length 0 none) = _
    rw [e]
    show (xs.drop 0).take (xs.length - 0) = _
    rw [List.drop_zero, Nat.sub_zero, List.take_length, List.take_of_length_le (by omega)]
theorem addVL {xs ys : List Val} {h : HH} (l : xs.length + ys.length ≤ 10000000) : bAdd (.lst xs) (.lst ys) h = .ok (.lst (xs ++ ys)) h := by
  show (if xs.length + ys.length ≤ sizeLine then Out.ok (Val.lst (xs ++ ys)) h else .bad) = _
  rw [if_pos (by have := sizeLine_eq; omega)]
def KB (n : Nat) (h h' : HH) : Prop := ∀ i, i < n → h'[i]? = h[i]?
theorem KB.refl (n : Nat) (h : HH) : KB n h h := fun _ _ => rfl
theorem KB.trans {n : Nat} {h h1 h2 : HH} (a : KB n h h1) (b : KB n h1 h2) : KB n h h2 := fun i l => (b i l).trans (a i l)
theorem KB.len {n : Nat} {h h' : HH} (k : KB n h h') (l : n ≤ h.length) : n ≤ h'.length := by
  cases n with
  | zero => omega
  | succ n =>
    have e := k n (by omega)
    have e2 : h[n]? = some h[n] := List.getElem?_eq_getElem (by omega)
    rw [e2] at e
    have := (List.getElem?_eq_some_iff.mp e).1
    omega
def bBody : SS := (nSeq (nSet 3 (sBin bMod (sBin bAdd (sBin bAdd (sBin bMul (sVar 3) (sC (.int 48271))) (sBin bMul (sBin bMod (sBin bIx (sVar 0) (sVar 4)) (sC (.int 2147483587))) (sBin bAdd (sVar 4) (sC (.int 3))))) (sVar 4)) (sC (.int 2147483629)))) nNext)
theorem bag_is : m__law_bag = (nSeq (nSet 2 (sC (.int 0))) (nSeq (nIf (cBin (bOrd fun i j => decide (i < j)) (sVar 1) (sArgs fLen (aCons (sVar 0) aNil))) (nSeq (nSet 2 (sArgs fAbs (aCons (sBin bIx (sVar 0) (sVar 1)) aNil))) nNext) nNext) (nSeq (nSet 3 (sBin bMod (sBin bPow (sBin bAdd (sBin bAdd (sBin bMod (sVar 2) (sC (.int 2147483629))) (sBin bMul (sC (.int 104729)) (sVar 1))) (sC (.int 17))) (sC (.int 5))) (sC (.int 2147483647)))) (nSeq (nFor (iRgN 1 (aCons (sArgs fMin (aCons (sArgs fLen (aCons (sVar 0) aNil)) (aCons (sC (.int 60)) aNil))) aNil)) (gNm 4) bBody) (nSeq (nIf (cBin (bOrd fun i j => decide (i < j)) (sVar 2) (sBin bPow (sC (.int 10)) (sC (.int 18)))) (nSeq (nSet 2 (sC (.int 0))) nNext) nNext) (nSeq (nRet (sArgs fNew (aCons (sVar 2) (aCons (sVar 3) aNil)))) nNext)))))) := rfl
theorem scr_len {ns : List Int} {h : HH} : fLen [.scr ns] h = .ok (.int (ns.length : Nat)) h := by
  show Out.ok (Val.int (((ns.map Val.int).length : Nat) : Int)) h = _
  rw [List.length_map]
theorem scr_at {ns : List Int} {i : Nat} {h : HH} (l : i < ns.length) : bIx (.scr ns) (.int (i : Nat)) h = .ok (.int ns[i]) h := by
  show (match L2.atI (ns.map Val.int) (i : Nat) with | some w => Out.ok w h | none => .bad) = _
  have : L2.atI (ns.map Val.int) ((i : Nat) : Int) = some (.int ns[i]) := atI_nat (by rw [List.getElem?_map, List.getElem?_eq_getElem l]; rfl)
  rw [this]
theorem bag_loop {ns : List Int} {h : HH} {a1 a2 a4 : Option Val} {n : Nat} {m : Int} (hn : n ≤ ns.length) (h60 : n ≤ 60) (m0 : 0 ≤ m) (m1 : m < 2 ^ 31) : ∃ (a4' : Option Val) (m' : Int), turns (gNm 4) bBody (.st (nums 0 n)) n 0 [some (.scr ns), a1, a2, some (.int m), a4] h = .go .nx [some (.scr ns), a1, a2, some (.int m'), a4'] h ∧ 0 ≤ m' ∧ m' < 2 ^ 31 := by
  obtain ⟨ro', h', el, a4', m', er, k0, k1, eh⟩ := turns_inv (g := gNm 4) (body := bBody) (x := .st (nums 0 n)) (n := n)
    (fun i ro g => ∃ (a4 : Option Val) (m : Int), ro = [some (.scr ns), a1, a2, some (.int m), a4] ∧ 0 ≤ m ∧ m < 2 ^ 31 ∧ g = h)
    (fun i ro g ⟨a4, m, er, m0, m1, eg⟩ hi => by
      subst er eg
      have li : i < ns.length := by omega
      have ix := scr_at (h := g) li
      generalize ns[i] = c at ix
      have c0 := Int.emod_nonneg c (show (2147483587 : Int) ≠ 0 by decide)
      have c1 := Int.emod_lt_of_pos c (show (0 : Int) < 2147483587 by decide)
      have d1 : bMod (.int c) (.int 2147483587) g = .ok (.int (c % 2147483587)) g := mod_ii (by decide)
      generalize c % 2147483587 = d at d1 c0 c1
      have x1 : bMul (.int m) (.int 48271) g = .ok (.int (m * 48271)) g := mul_ii (.inl ⟨by omega, by omega⟩)
      have x2 : bMul (.int d) (.int ((i : Nat) + 3)) g = .ok (.int (d * ((i : Nat) + 3))) g := mul_ii (.inl ⟨by omega, by omega⟩)
      have x3 : bMod (.int (m * 48271 + d * ((i : Nat) + 3) + (i : Nat))) (.int 2147483629) g = .ok (.int ((m * 48271 + d * ((i : Nat) + 3) + (i : Nat)) % 2147483629)) g := mod_ii (by decide)
      have z0 := Int.emod_nonneg (m * 48271 + d * ((i : Nat) + 3) + (i : Nat)) (show (2147483629 : Int) ≠ 0 by decide)
      have z1 := Int.emod_lt_of_pos (m * 48271 + d * ((i : Nat) + 3) + (i : Nat)) (show (0 : Int) < 2147483629 by decide)
      have e3 : bBody [some (.scr ns), a1, a2, some (.int m), some (.int (0 + (i : Nat)))] g = .go .nx [some (.scr ns), a1, a2, some (.int ((m * 48271 + d * ((i : Nat) + 3) + (i : Nat)) % 2147483629)), some (.int (0 + (i : Nat)))] g := by
        rw [Int.zero_add]
        simp -implicitDefEqProofs only [bBody, nSeq_e, nSet_e, sBin_e, sVar_s, sVar_0, sC_e, ob_ok, x1, ix, d1, add_ii, x2, x3, sb_ok, sq_nx, List.set_cons_zero, List.set_cons_succ, nNext_e]
      exact ⟨.int (0 + (i : Nat)), _, g, _, g, by show some (nums 0 n)[i]? = _; rw [nums_get hi], rfl, e3, ⟨_, _, rfl, z0, by omega, rfl⟩⟩)
    (fun ro g _ => by show some (nums 0 n)[n]? = _; rw [nums_end]) n 0 [some (.scr ns), a1, a2, some (.int m), a4] h rfl ⟨_, _, rfl, m0, m1, rfl⟩
  subst er eh
  exact ⟨a4', m', el, k0, k1⟩
theorem ev_bag {ns : List Int} {i : Nat} {h : HH} (hi : i < 8) : ∃ h', F__law_bag [.scr ns, .int (i : Nat)] h = .ok (.ref h.length) h' ∧ BagK h.length h' := by
  rw [e__law_bag, bag_is]
  have ln := scr_len (ns := ns) (h := h)
  obtain ⟨n, hn, h60, mn⟩ : ∃ n : Nat, n ≤ ns.length ∧ n ≤ 60 ∧ fMin [.int (ns.length : Nat), .int 60] h = .ok (.int (n : Nat)) h := by
    by_cases c : 60 < ns.length
    · refine ⟨60, by omega, by omega, ?_⟩
      show Out.ok (Val.int (if (60 : Int) < ((ns.length : Nat) : Int) then 60 else ((ns.length : Nat) : Int))) h = _
      rw [if_pos (by omega)]; rfl
    · refine ⟨ns.length, by omega, by omega, ?_⟩
      show Out.ok (Val.int (if (60 : Int) < ((ns.length : Nat) : Int) then 60 else ((ns.length : Nat) : Int))) h = _
      rw [if_neg (by omega)]
  have core : ∀ cell : Int, 0 ≤ cell → ∃ h', outOf ((nSeq (nSet 3 (sBin bMod (sBin bPow (sBin bAdd (sBin bAdd (sBin bMod (sVar 2) (sC (.int 2147483629))) (sBin bMul (sC (.int 104729)) (sVar 1))) (sC (.int 17))) (sC (.int 5))) (sC (.int 2147483647)))) (nSeq (nFor (iRgN 1 (aCons (sArgs fMin (aCons (sArgs fLen (aCons (sVar 0) aNil)) (aCons (sC (.int 60)) aNil))) aNil)) (gNm 4) bBody) (nSeq (nIf (cBin (bOrd fun i j => decide (i < j)) (sVar 2) (sBin bPow (sC (.int 10)) (sC (.int 18)))) (nSeq (nSet 2 (sC (.int 0))) nNext) nNext) (nSeq (nRet (sArgs fNew (aCons (sVar 2) (aCons (sVar 3) aNil)))) nNext)))) [some (.scr ns), some (.int (i : Nat)), some (.int cell), none, none] h) = .ok (.ref h.length) h' ∧ BagK h.length h' := by
    intro cell c0
    have r0 := Int.emod_nonneg cell (show (2147483629 : Int) ≠ 0 by decide)
    have r1 := Int.emod_lt_of_pos cell (show (0 : Int) < 2147483629 by decide)
    have d1 : bMod (.int cell) (.int 2147483629) h = .ok (.int (cell % 2147483629)) h := mod_ii (by decide)
    generalize cell % 2147483629 = r at d1 r0 r1
    have x1 : bMul (.int 104729) (.int (i : Nat)) h = .ok (.int (104729 * (i : Nat))) h := mul_ii (.inl ⟨by omega, by omega⟩)
    have pw : bPow (.int (r + 104729 * (i : Nat) + 17)) (.int 5) h = .ok (.int ((r + 104729 * (i : Nat) + 17) ^ 5)) h := pow_ii (n := 40) (j := 5) (by omega) (by decide)
    have d2 : bMod (.int ((r + 104729 * (i : Nat) + 17) ^ 5)) (.int 2147483647) h = .ok (.int ((r + 104729 * (i : Nat) + 17) ^ 5 % 2147483647)) h := mod_ii (by decide)
    have z0 := Int.emod_nonneg ((r + 104729 * (i : Nat) + 17) ^ 5) (show (2147483647 : Int) ≠ 0 by decide)
    have z1 := Int.emod_lt_of_pos ((r + 104729 * (i : Nat) + 17) ^ 5) (show (0 : Int) < 2147483647 by decide)
    generalize (r + 104729 * (i : Nat) + 17) ^ 5 % 2147483647 = m at d2 z0 z1
    obtain ⟨a4, m', el, k0, k1⟩ := bag_loop (a1 := some (.int (i : Nat))) (a2 := some (.int cell)) (a4 := none) (h := h) hn h60 z0 (by omega)
    have p18 : bPow (.int 10) (.int 18) h = .ok (.int (10 ^ 18)) h := pow_ii (n := 4) (j := 18) (by decide) (by decide)
    have rg : fRg [.int (n : Nat)] h = .ok (.st (nums 0 n), n) h := fRg1 (by omega)
    by_cases c : cell < 10 ^ 18
    · have nw : fNew [.int 0, .int m'] h = .ok (.ref h.length) (h ++ [.lst [.int 0, .int m']]) := fNew_ok (by simp)
      refine ⟨h ++ [.lst [.int 0, .int m']], ?_, ⟨0, m', by rw [List.getElem?_concat_length], by omega, k0, k1⟩⟩
      simp -implicitDefEqProofs only [nSeq_e, nSet_e, sBin_e, sVar_s, sVar_0, sVar_1, sC_e, ob_ok, d1, x1, add_ii, pw, d2, sb_ok, sq_nx, List.set_cons_zero, List.set_cons_succ, nFor_e, iRgN_e, aCons_e, sArgs_e, aNil_e, ln, mn, List.length_cons, List.length_nil, if_true, rg, el, nIf_e, cBin_e, p18, bOrd_e, unB_bl, decide_eq_true c, nNext_e, nRet_e, nw, sq_ret, outOf_ret]
    · have nw : fNew [.int cell, .int m'] h = .ok (.ref h.length) (h ++ [.lst [.int cell, .int m']]) := fNew_ok (by simp)
      refine ⟨h ++ [.lst [.int cell, .int m']], ?_, ⟨cell, m', by rw [List.getElem?_concat_length], c0, k0, k1⟩⟩
      simp -implicitDefEqProofs only [nSeq_e, nSet_e, sBin_e, sVar_s, sVar_0, sVar_1, sC_e, ob_ok, d1, x1, add_ii, pw, d2, sb_ok, sq_nx, List.set_cons_zero, List.set_cons_succ, nFor_e, iRgN_e, aCons_e, sArgs_e, aNil_e, ln, mn, List.length_cons, List.length_nil, if_true, rg, el, nIf_e, cBin_e, p18, bOrd_e, unB_bl, decide_eq_false c, Bool.false_eq_true, if_false, nNext_e, nRet_e, nw, sq_ret, outOf_ret]
  by_cases c : i < ns.length
  · obtain ⟨h', q⟩ := core (if ns[i] < 0 then -ns[i] else ns[i]) (by split <;> omega)
    refine ⟨h', ?_, q.2⟩
    have ix := scr_at (h := h) c
    have ab : fAbs [.int ns[i]] h = .ok (.int (if ns[i] < 0 then -ns[i] else ns[i])) h := rfl
    have cc : ((i : Nat) : Int) < (ns.length : Nat) := by omega
    rw [← q.1]
    conv => lhs; simp -implicitDefEqProofs only [nSeq_e (a := nSet 2 (sC (.int 0))), nSet_e, sC_e, sb_ok, sq_nx, List.set_cons_zero, List.set_cons_succ]
    rw [nSeq_e]
    simp -implicitDefEqProofs only [nIf_e, cBin_e, sVar_1, sArgs_e, aCons_e, sVar_0, aNil_e, ob_ok, ln, bOrd_e, unB_bl, decide_eq_true cc, sb_ok, if_true, nSeq_e (a := nSet 2 (sArgs fAbs (aCons (sBin bIx (sVar 0) (sVar 1)) aNil))), nSet_e, sBin_e, ix, ab, sq_nx, List.set_cons_zero, List.set_cons_succ, nNext_e]
  · obtain ⟨h', q⟩ := core 0 (by omega)
    refine ⟨h', ?_, q.2⟩
    have cc : ¬ ((i : Nat) : Int) < (ns.length : Nat) := by omega
    rw [← q.1]
    conv => lhs; simp -implicitDefEqProofs only [nSeq_e (a := nSet 2 (sC (.int 0))), nSet_e, sC_e, sb_ok, sq_nx, List.set_cons_zero, List.set_cons_succ]
    rw [nSeq_e]
    simp -implicitDefEqProofs only [nIf_e, cBin_e, sVar_1, sArgs_e, aCons_e, sVar_0, aNil_e, ob_ok, ln, bOrd_e, unB_bl, decide_eq_false cc, sb_ok, Bool.false_eq_true, if_false, nNext_e, sq_nx]
end K08
set_option Elab.async false
set_option maxRecDepth 100000
set_option linter.unusedVariables false
set_option linter.unusedSimpArgs false
namespace K08
open PySem PySem.Spec PyProof.Rows L2 Z
/-! ### trees as data -/
inductive Vl where
  | num (i : Int) | nm (x : Str) | op (k : Str) (a b : Vl) | call (x : Str) (ys : List Vl)
mutual
def Vl.val : Vl → Val
  | .num i => .int i
  | .nm x => .tup [.str "name", .str x]
  | .op k a b => .tup [.str k, a.val, b.val]
  | .call x ys => .tup [.str "call", .str x, .tup (vls ys)]
def vls : List Vl → List Val
  | [] => []
  | y :: ys => y.val :: vls ys
end
mutual
def Vl.rows : Vl → List Val
  | .num i => [.tup [.str "put", .int i]]
  | .nm x => [.tup [.str "get", .str x]]
  | .op k a b => a.rows ++ b.rows ++ [.tup [.str k]]
  | .call x ys => vrs ys ++ [.tup [.str "call", .str x]]
def vrs : List Vl → List Val
  | [] => []
  | y :: ys => y.rows ++ vrs ys
end
mutual
def Vl.dep : Vl → Nat
  | .num _ => 1
  | .nm _ => 1
  | .op _ a b => 1 + max a.dep b.dep
  | .call _ ys => 1 + vds ys
def vds : List Vl → Nat
  | [] => 0
  | y :: ys => max y.dep (vds ys)
end
def OPSL : List Str := ["add", "less", "times", "over", "same", "below"]
/-- a short text of plain signs -/
def shortB (x : Str) : Bool := asc x && decide (x.length ≤ 8)
mutual
def Vl.okB : Vl → Bool
  | .num i => decide (i.natAbs ≤ 10 ^ 13)
  | .nm x => shortB x
  | .op k a b => decide (k ∈ OPSL) && (a.okB && b.okB)
  | .call x ys => shortB x && (decide (ys.length ≤ 3) && vos ys)
def vos : List Vl → Bool
  | [] => true
  | y :: ys => y.okB && vos ys
end
theorem vls_len : ∀ ys : List Vl, (vls ys).length = ys.length
  | [] => rfl
  | y :: ys => by
    show (vls ys).length + 1 = ys.length + 1
    rw [vls_len ys]
theorem vds_le {y : Vl} : ∀ {ys : List Vl}, y ∈ ys → y.dep ≤ vds ys
  | z :: ys, h => by
    show y.dep ≤ max z.dep (vds ys)
    rcases List.mem_cons.mp h with rfl | h
    · exact Nat.le_max_left _ _
    · exact Nat.le_trans (vds_le h) (Nat.le_max_right _ _)
theorem vos_mem {y : Vl} : ∀ {ys : List Vl}, vos ys = true → y ∈ ys → y.okB = true
  | z :: ys, o, h => by
    have o' : (z.okB && vos ys) = true := o
    rw [Bool.and_eq_true] at o'
    rcases List.mem_cons.mp h with rfl | h
    · exact o'.1
    · exact vos_mem o'.2 h
theorem dep_pos (v : Vl) : 1 ≤ v.dep := by
  cases v with
  | num _ => exact Nat.le_refl 1
  | nm _ => exact Nat.le_refl 1
  | op k a b => show 1 ≤ 1 + max a.dep b.dep; omega
  | call x ys => show 1 ≤ 1 + vds ys; omega
def rB : Nat → Nat
  | 0 => 0
  | n + 1 => 3 * rB n + 1
theorem rB_mono : ∀ {n m : Nat}, n ≤ m → rB n ≤ rB m
  | 0, m, _ => Nat.zero_le _
  | n + 1, 0, h => by omega
  | n + 1, m + 1, h => by
    have := rB_mono (n := n) (m := m) (by omega)
    show 3 * rB n + 1 ≤ 3 * rB m + 1
    omega
mutual
theorem rows_len : ∀ v : Vl, v.okB = true → v.rows.length ≤ rB v.dep
  | .num i, _ => Nat.le_refl 1
  | .nm x, _ => Nat.le_refl 1
  | .op k a b, o => by
    have o' : (decide (k ∈ OPSL) && (a.okB && b.okB)) = true := o
    rw [Bool.and_eq_true, Bool.and_eq_true] at o'
    have h1 := rows_len a o'.2.1
    have h2 := rows_len b o'.2.2
    have m1 := rB_mono (Nat.le_max_left a.dep b.dep)
    have m2 := rB_mono (Nat.le_max_right a.dep b.dep)
    show (a.rows ++ b.rows ++ [_]).length ≤ rB (1 + max a.dep b.dep)
    rw [Nat.add_comm 1]
    show _ ≤ 3 * rB (max a.dep b.dep) + 1
    rw [List.length_append, List.length_append, List.length_singleton]
    omega
  | .call x ys, o => by
    have o' : (shortB x && (decide (ys.length ≤ 3) && vos ys)) = true := o
    rw [Bool.and_eq_true, Bool.and_eq_true, decide_eq_true_eq] at o'
    have h1 := vrs_len ys o'.2.2 (vds ys) (Nat.le_refl _)
    have h2 : ys.length * rB (vds ys) ≤ 3 * rB (vds ys) := Nat.mul_le_mul_right _ o'.2.1
    show (vrs ys ++ [_]).length ≤ rB (1 + vds ys)
    rw [Nat.add_comm 1]
    show _ ≤ 3 * rB (vds ys) + 1
    rw [List.length_append, List.length_singleton]
    omega
theorem vrs_len : ∀ ys : List Vl, vos ys = true → ∀ d, vds ys ≤ d → (vrs ys).length ≤ ys.length * rB d
  | [], _, d, _ => Nat.zero_le _
  | y :: ys, o, d, hd => by
    have o' : (y.okB && vos ys) = true := o
    rw [Bool.and_eq_true] at o'
    have hd' : max y.dep (vds ys) ≤ d := hd
    have h1 := rows_len y o'.1
    have h2 := vrs_len ys o'.2 d (by omega)
    have m := rB_mono (n := y.dep) (m := d) (by omega)
    show (y.rows ++ vrs ys).length ≤ (ys.length + 1) * rB d
    rw [List.length_append, Nat.succ_mul]
    omega
end
/-! ### how great they are -/
def vB : Nat → Nat
  | 0 => 0
  | n + 1 => 3 * (vB n + 2) + 136
theorem vB_mono : ∀ {n m : Nat}, n ≤ m → vB n ≤ vB m
  | 0, m, _ => Nat.zero_le _
  | n + 1, 0, h => by omega
  | n + 1, m + 1, h => by
    have := vB_mono (n := n) (m := m) (by omega)
    show 3 * (vB n + 2) + 136 ≤ 3 * (vB m + 2) + 136
    omega
theorem short_fine {n d : Nat} {x : Str} (h : shortB x = true) : fine n d (.str x) = true ∧ sz (.str x) ≤ 82 := by
  unfold shortB at h
  rw [Bool.and_eq_true, decide_eq_true_eq] at h
  have q : (asc x && decide (x.length ≤ 20 + n)) = true := by
    rw [h.1, Bool.true_and, decide_eq_true_eq]; omega
  refine ⟨by cases d <;> exact q, ?_⟩
  show 10 * x.length + 2 ≤ 82
  omega
theorem ops_short : ∀ k ∈ OPSL, shortB k = true ∧ k ≠ "name" ∧ k ≠ "call" ∧ sz (.str k) ≤ 52 := by decide +kernel
theorem num_fine {n d : Nat} {i : Int} (h : i.natAbs ≤ 10 ^ 49) : fine n d (.int i) = true := by
  have q : decide (i.natAbs ≤ 10 ^ 49) = true := decide_eq_true h
  cases d <;> exact q
theorem name_short : shortB "name" = true ∧ shortB "call" = true ∧ sz (.str "name") ≤ 42 ∧ sz (.str "call") ≤ 42 := by decide +kernel
theorem fine_up {n d e : Nat} {w : Val} (l : d ≤ e) (f : fine n d w = true) : fine n e w = true := fine_mono (Nat.le_refl n) d e w l f
mutual
theorem val_fine : ∀ v : Vl, v.okB = true → fine 0 (2 * v.dep) v.val = true ∧ sz v.val ≤ vB v.dep
  | .num i, o => by
    have o' : decide (i.natAbs ≤ 10 ^ 13) = true := o
    rw [decide_eq_true_eq] at o'
    refine ⟨num_fine (Nat.le_trans o' (by decide)), ?_⟩
    show 60 ≤ 142
    decide
  | .nm x, o => by
    have o' : shortB x = true := o
    obtain ⟨f1, s1⟩ := short_fine (n := 0) (d := 1) o'
    obtain ⟨f2, s2⟩ := short_fine (n := 0) (d := 1) name_short.1
    refine ⟨fine_tup.mpr ⟨by simp, fun w hw => ?_⟩, ?_⟩
    · simp only [List.mem_cons, List.not_mem_nil, or_false] at hw
      rcases hw with rfl | rfl
      · exact f2
      · exact f1
    · show sz (.str "name") + 2 + (sz (.str x) + 2 + 0) + 3 ≤ 142
      have := name_short.2.2.1
      omega
  | .op k a b, o => by
    have o' : (decide (k ∈ OPSL) && (a.okB && b.okB)) = true := o
    rw [Bool.and_eq_true, Bool.and_eq_true, decide_eq_true_eq] at o'
    obtain ⟨fa, sa⟩ := val_fine a o'.2.1
    obtain ⟨fb, sb⟩ := val_fine b o'.2.2
    obtain ⟨ks, _, _, k52⟩ := ops_short k o'.1
    have m1 := vB_mono (Nat.le_max_left a.dep b.dep)
    have m2 := vB_mono (Nat.le_max_right a.dep b.dep)
    have l1 := Nat.le_max_left a.dep b.dep
    have l2 := Nat.le_max_right a.dep b.dep
    refine ⟨?_, ?_⟩
    · show fine 0 (2 * (1 + max a.dep b.dep)) (.tup [.str k, a.val, b.val]) = true
      rw [show 2 * (1 + max a.dep b.dep) = (2 * max a.dep b.dep + 1) + 1 by omega]
      refine fine_tup.mpr ⟨by simp, fun w hw => ?_⟩
      simp only [List.mem_cons, List.not_mem_nil, or_false] at hw
      rcases hw with rfl | rfl | rfl
      · exact (short_fine ks).1
      · exact fine_up (by omega) fa
      · exact fine_up (by omega) fb
    · show sz (.str k) + 2 + (sz a.val + 2 + (sz b.val + 2 + 0)) + 3 ≤ vB (1 + max a.dep b.dep)
      rw [Nat.add_comm 1]
      show _ ≤ 3 * (vB (max a.dep b.dep) + 2) + 136
      omega
  | .call x ys, o => by
    have o' : (shortB x && (decide (ys.length ≤ 3) && vos ys)) = true := o
    rw [Bool.and_eq_true, Bool.and_eq_true, decide_eq_true_eq] at o'
    obtain ⟨fy, sy⟩ := vls_fine ys o'.2.2 (vds ys) (Nat.le_refl _)
    obtain ⟨fx, sx⟩ := short_fine (n := 0) (d := 2 * vds ys + 1) o'.1
    have h2 : ys.length * (vB (vds ys) + 2) ≤ 3 * (vB (vds ys) + 2) := Nat.mul_le_mul_right _ o'.2.1
    refine ⟨?_, ?_⟩
    · show fine 0 (2 * (1 + vds ys)) (.tup [.str "call", .str x, .tup (vls ys)]) = true
      rw [show 2 * (1 + vds ys) = (2 * vds ys + 1) + 1 by omega]
      refine fine_tup.mpr ⟨by simp, fun w hw => ?_⟩
      simp only [List.mem_cons, List.not_mem_nil, or_false] at hw
      rcases hw with rfl | rfl | rfl
      · exact (short_fine name_short.2.1).1
      · exact fx
      · exact fine_tup.mpr ⟨by rw [vls_len]; omega, fy⟩
    · show sz (.str "call") + 2 + (sz (.str x) + 2 + (szs (vls ys) + 3 + 2 + 0)) + 3 ≤ vB (1 + vds ys)
      rw [Nat.add_comm 1]
      show _ ≤ 3 * (vB (vds ys) + 2) + 136
      have := name_short.2.2.2
      omega
theorem vls_fine : ∀ ys : List Vl, vos ys = true → ∀ d, vds ys ≤ d → (∀ w ∈ vls ys, fine 0 (2 * d) w = true) ∧ szs (vls ys) ≤ ys.length * (vB d + 2)
  | [], _, d, _ => ⟨(fun _ h => nomatch h), Nat.zero_le _⟩
  | y :: ys, o, d, hd => by
    have o' : (y.okB && vos ys) = true := o
    rw [Bool.and_eq_true] at o'
    have hd' : max y.dep (vds ys) ≤ d := hd
    obtain ⟨f1, s1⟩ := val_fine y o'.1
    obtain ⟨f2, s2⟩ := vls_fine ys o'.2 d (by omega)
    have m := vB_mono (n := y.dep) (m := d) (by omega)
    refine ⟨fun w hw => ?_, ?_⟩
    · have hw' : w ∈ y.val :: vls ys := hw
      rcases List.mem_cons.mp hw' with rfl | hw'
      · exact fine_up (by omega) f1
      · exact f2 w hw'
    · show sz y.val + 2 + szs (vls ys) ≤ (ys.length + 1) * (vB d + 2)
      rw [Nat.succ_mul]
      omega
end
/-! ### the rows of a value, told twice -/
theorem isi_int {w : Val} {k : Bool} {h : HH} (e : (match w with | .int _ => true | .bl _ => true | _ => false) = k) (p : pl w = true) : fIsi [w, .ty "int"] h = .ok (.bl k) h := by
  subst e
  cases w <;> first | rfl | cases p
theorem tupV {xs : List Val} {h : HH} (l : xs.length ≤ 100) : fTup xs h = .ok (.tup xs) h := fTup_ok (by omega)
theorem lstV {xs : List Val} {h : HH} (l : xs.length ≤ 100) : fLst xs h = .ok (.lst xs) h := fLst_ok (by omega)
theorem pl_val {v : Vl} (o : v.okB = true) : pl v.val = true := (fine_all (n := 0) (by omega) _ _ (val_fine v o).1).1
theorem mem_vls {w : Val} : ∀ {ys : List Vl}, w ∈ vls ys → ∃ y ∈ ys, w = y.val
  | y :: ys, h => by
    have h' : w ∈ y.val :: vls ys := h
    rcases List.mem_cons.mp h' with rfl | h'
    · exact ⟨y, List.mem_cons_self, rfl⟩
    · obtain ⟨z, hz, e⟩ := mem_vls h'
      exact ⟨z, List.mem_cons_of_mem _ hz, e⟩
theorem flat_of {F : Val → List Val} : ∀ {ys : List Vl}, (∀ y ∈ ys, F y.val = y.rows) → (vls ys).flatMap F = vrs ys
  | [], _ => rfl
  | y :: ys, h => by
    show (y.val :: vls ys).flatMap F = y.rows ++ vrs ys
    rw [List.flatMap_cons, h y List.mem_cons_self, flat_of fun z hz => h z (List.mem_cons_of_mem _ hz)]
end K08
set_option Elab.async false
set_option maxRecDepth 100000
set_option linter.unusedVariables false
set_option linter.unusedSimpArgs false
namespace K08
open PySem PySem.Spec PyProof.Rows L2 Z
theorem gSt_t {g : List Val → En → HH → SO} {x : Val} {ys : List Val} {ro : En} {h : HH} : gSt g (.tup (x :: ys)) ro h = g [x, .lst ys] ro h := rfl
def FofR (G : List Val → M Val) (h : HH) (w : Val) : List Val := match G [w] h with
  | .ok (.lst zs) _ => zs
  | _ => []
/-- rows of all that is within -/
theorem within_lc {G : List Val → M Val} {h : HH} {ys : List Vl} {xv : Val} (hx : itmV xv h = .ok (.st (vls ys), (vls ys).length) h) (l : ys.length ≤ 100)
    (ih : ∀ y ∈ ys, G [y.val] h = .ok (.lst y.rows) h ∧ y.rows.length ≤ 1000) {a0 a1 a3 : Option Val} :
    sLc2 (iVal (sVar 2)) (gNm 4) tYesZ (iVal (sCall G 1 0 1 (fun ws _ => ws) (aCons (sVar 4) aNil) aNil)) (gNm 5) tYesZ (sVar 5) [4, 5] [5] [a0, a1, some xv, a3, none, none] h = .ok (.lst (vrs ys)) h := by
  have key := sLc2_gen (mi := iVal (sVar 2)) (mi1 := iVal (sCall G 1 0 1 (fun ws _ => ws) (aCons (sVar 4) aNil) aNil)) (g := gNm 4) (g1 := gNm 5) (m := sVar 5) (own := [4, 5]) (vs1 := [5]) (ro := [a0, a1, some xv, a3, none, none]) (h := h) (xs := vls ys) (FofR G h)
    (by simp -implicitDefEqProofs only [iVal_e, sVar_2, ob_ok, hx]) (by rw [vls_len]; omega) fun w hw => by
      obtain ⟨y, hy, rfl⟩ := mem_vls hw
      obtain ⟨e, ly⟩ := ih y hy
      refine ⟨[a0, a1, some xv, a3, some y.val, none], y.rows, id, rfl, ?_, ly, ?_, fun z hz => ⟨[a0, a1, some xv, a3, some y.val, some z], rfl, rfl⟩⟩
      · simp -implicitDefEqProofs only [iVal_e, sCall_e, aCons_e, sVar_s, sVar_0, aNil_e, ob_ok, List.length_cons, List.length_nil, if_true, and_self, e, itmV_lst]
      · unfold FofR
        rw [e, List.map_id]
  rw [key]
  congr 2
  exact flat_of fun y hy => by
    unfold FofR
    rw [(ih y hy).1]
theorem ev_rv : ∀ (m : Nat) (v : Vl), v.okB = true → v.dep ≤ m → v.dep ≤ 5 → ∀ h, F_rows_of_value m [v.val] h = .ok (.lst v.rows) h
  | 0, v, _, l, _, _ => by have := dep_pos v; omega
  | m + 1, v, o, l, l5, h => by
    have p := pl_val o
    have ln : ∀ y : Vl, y.okB = true → y.dep ≤ 5 → y.rows.length ≤ 1000 := fun y oy ly => by
      have h1 := rows_len y oy
      have h2 := rB_mono ly
      have h3 : rB 5 = 121 := rfl
      omega
    rw [e_rows_of_value]
    cases v with
    | num i =>
      have is : fIsi [Vl.val (.num i), .ty "int"] h = .ok (.bl true) h := isi_int rfl p
      have t1 : fTup [.str "put", Vl.val (.num i)] h = .ok (.tup [.str "put", .int i]) h := tupV (by simp)
      have l1 : fLst [.tup [.str "put", .int i]] h = .ok (.lst [.tup [.str "put", .int i]]) h := lstV (by simp)
      generalize Vl.val (.num i) = w at is t1
      simp -implicitDefEqProofs only [m_rows_of_value, nSeq_e, nIf_e, cV_e, sArgs_e, aCons_e, sVar_0, sC_e, aNil_e, ob_ok, is, tr_bl, sb_ok, if_true, nRet_e, t1, l1, sq_ret, outOf_ret]
      rfl
    | nm x =>
      have is : fIsi [Vl.val (.nm x), .ty "int"] h = .ok (.bl false) h := isi_int rfl p
      have i0 : bIx (Vl.val (.nm x)) (.int 0) h = .ok (.str "name") h := ix_t0
      have i1 : bIx (Vl.val (.nm x)) (.int 1) h = .ok (.str x) h := ix_t1
      have t1 : fTup [.str "get", .str x] h = .ok (.tup [.str "get", .str x]) h := tupV (by simp)
      have l1 : fLst [.tup [.str "get", .str x]] h = .ok (.lst [.tup [.str "get", .str x]]) h := lstV (by simp)
      generalize Vl.val (.nm x) = w at is i0 i1
      simp -implicitDefEqProofs only [m_rows_of_value, nSeq_e, nIf_e, cV_e, sArgs_e, aCons_e, sVar_0, sC_e, aNil_e, ob_ok, is, tr_bl, sb_ok, Bool.false_eq_true, if_false, nNext_e, sq_nx, cBin_e, sBin_e, i0, eq_ss, decide_true, unB_bl, if_true, nRet_e, i1, t1, l1, sq_ret, outOf_ret]
      rfl
    | op k a b =>
      have o' : (decide (k ∈ OPSL) && (a.okB && b.okB)) = true := o
      rw [Bool.and_eq_true, Bool.and_eq_true, decide_eq_true_eq] at o'
      obtain ⟨_, k1, k2, _⟩ := ops_short k o'.1
      have l' : 1 + max a.dep b.dep ≤ m + 1 := l
      have l5' : 1 + max a.dep b.dep ≤ 5 := l5
      have ea := ev_rv m a o'.2.1 (by omega) (by omega) h
      have eb := ev_rv m b o'.2.2 (by omega) (by omega) h
      have is : fIsi [Vl.val (.op k a b), .ty "int"] h = .ok (.bl false) h := isi_int rfl p
      have i0 : bIx (Vl.val (.op k a b)) (.int 0) h = .ok (.str k) h := ix_t0
      have st : ∀ (g : List Val → En → HH → SO) (ro : En), gSt g (Vl.val (.op k a b)) ro h = g [.str k, .lst [a.val, b.val]] ro h := fun _ _ => rfl
      have t1 : fTup [.str k] h = .ok (.tup [.str k]) h := tupV (by simp)
      have l1 : fLst [.tup [.str k]] h = .ok (.lst [.tup [.str k]]) h := lstV (by simp)
      have lc := within_lc (G := F_rows_of_value m) (h := h) (ys := [a, b]) (xv := .lst [a.val, b.val]) rfl (by simp) (fun y hy => by
        simp only [List.mem_cons, List.not_mem_nil, or_false] at hy
        rcases hy with rfl | rfl
        · exact ⟨ea, ln _ o'.2.1 (by omega)⟩
        · exact ⟨eb, ln _ o'.2.2 (by omega)⟩) (a0 := some (Vl.val (.op k a b))) (a1 := some (.str k)) (a3 := some (.tup [.str k]))
      have ev : vrs [a, b] = a.rows ++ b.rows := by
        show a.rows ++ (b.rows ++ []) = _
        rw [List.append_nil]
      rw [ev] at lc
      have ra := ln _ o'.2.1 (by omega)
      have rb := ln _ o'.2.2 (by omega)
      have ad : bAdd (.lst (a.rows ++ b.rows)) (.lst [.tup [.str k]]) h = .ok (.lst (a.rows ++ b.rows ++ [.tup [.str k]])) h := addVL (by rw [List.length_append, List.length_singleton]; omega)
      have fin : Vl.rows (.op k a b) = a.rows ++ b.rows ++ [.tup [.str k]] := rfl
      rw [fin]
      generalize Vl.val (.op k a b) = w at is i0 st lc
      simp -implicitDefEqProofs only [m_rows_of_value, nSeq_e, nIf_e, cV_e, sArgs_e, aCons_e, sVar_s, sVar_0, sVar_1, sVar_2, sC_e, aNil_e, ob_ok, is, tr_bl, sb_ok, Bool.false_eq_true, if_false, nNext_e, sq_nx, cBin_e, sBin_e, i0, eq_ss, decide_eq_false k1, unB_bl, nAsg_e, st, gsCons_nm, gsNil_e, List.set_cons_zero, List.set_cons_succ, asg_nx, nSet_e, t1, decide_eq_false k2, nRet_e, lc, l1, ad, sq_ret, outOf_ret]
    | call x ys =>
      have o' : (shortB x && (decide (ys.length ≤ 3) && vos ys)) = true := o
      rw [Bool.and_eq_true, Bool.and_eq_true, decide_eq_true_eq] at o'
      have l' : 1 + vds ys ≤ m + 1 := l
      have l5' : 1 + vds ys ≤ 5 := l5
      have is : fIsi [Vl.val (.call x ys), .ty "int"] h = .ok (.bl false) h := isi_int rfl p
      have i0 : bIx (Vl.val (.call x ys)) (.int 0) h = .ok (.str "call") h := ix_t0
      have i1 : bIx (Vl.val (.call x ys)) (.int 1) h = .ok (.str x) h := ix_t1
      have i2 : bIx (Vl.val (.call x ys)) (.int 2) h = .ok (.tup (vls ys)) h := ix_t2
      have st : ∀ (g : List Val → En → HH → SO) (ro : En), gSt g (Vl.val (.call x ys)) ro h = g [.str "call", .lst [.str x, .tup (vls ys)]] ro h := fun _ _ => rfl
      have t0 : fTup [.str "call"] h = .ok (.tup [.str "call"]) h := tupV (by simp)
      have t1 : fTup [.str "call", .str x] h = .ok (.tup [.str "call", .str x]) h := tupV (by simp)
      have l1 : fLst [.tup [.str "call", .str x]] h = .ok (.lst [.tup [.str "call", .str x]]) h := lstV (by simp)
      have lc := within_lc (G := F_rows_of_value m) (h := h) (ys := ys) (xv := .tup (vls ys)) rfl (by omega) (fun y hy => by
        have := vds_le hy
        exact ⟨ev_rv m y (vos_mem o'.2.2 hy) (by omega) (by omega) h, ln y (vos_mem o'.2.2 hy) (by omega)⟩) (a0 := some (Vl.val (.call x ys))) (a1 := some (.str "call")) (a3 := some (.tup [.str "call", .str x]))
      have lr : (vrs ys).length ≤ 10000 := by
        have h1 := vrs_len ys o'.2.2 4 (by omega)
        have h2 : ys.length * rB 4 ≤ 3 * rB 4 := Nat.mul_le_mul_right _ o'.2.1
        have h3 : rB 4 = 40 := rfl
        omega
      have ad : bAdd (.lst (vrs ys)) (.lst [.tup [.str "call", .str x]]) h = .ok (.lst (vrs ys ++ [.tup [.str "call", .str x]])) h := addVL (by rw [List.length_singleton]; omega)
      have cn : decide (("call" : Str) = "name") = false := by decide +kernel
      have fin : Vl.rows (.call x ys) = vrs ys ++ [.tup [.str "call", .str x]] := rfl
      rw [fin]
      generalize Vl.val (.call x ys) = w at is i0 i1 i2 st lc
      simp -implicitDefEqProofs only [m_rows_of_value, nSeq_e, nIf_e, cV_e, sArgs_e, aCons_e, sVar_s, sVar_0, sVar_1, sVar_2, sC_e, aNil_e, ob_ok, is, tr_bl, sb_ok, Bool.false_eq_true, if_false, nNext_e, sq_nx, cBin_e, sBin_e, i0, eq_ss, cn, unB_bl, nAsg_e, st, gsCons_nm, gsNil_e, List.set_cons_zero, List.set_cons_succ, asg_nx, nSet_e, t0, decide_true, if_true, i1, t1, i2, nRet_e, lc, l1, ad, sq_ret, outOf_ret]
/-! ### the law's own way -/
theorem app_q {q : Nat} {xs : List Val} {y : Val} {h : HH} (e : h[q]? = some (.lst xs)) (l : xs.length ≤ 4000000) : mApp (.ref q) [y] h = .ok .non (h.set q (.lst (xs ++ [y]))) := by
  show (match h[q]? with | some (.lst xs) => putL q (xs ++ [y]) .non h | _ => .bad) = _
  rw [e]
  show putL q (xs ++ [y]) .non h = _
  unfold putL
  rw [if_pos (by have := sizeLine_eq; rw [List.length_append, List.length_singleton]; omega)]
theorem len_vl_le {y : Vl} {ys : List Vl} : y ∈ ys → y.rows.length ≤ (vrs ys).length := by
  induction ys with
  | nil => intro h; cases h
  | cons z ys ih =>
    intro h
    show y.rows.length ≤ (z.rows ++ vrs ys).length
    rw [List.length_append]
    rcases List.mem_cons.mp h with rfl | h
    · omega
    · have := ih h; omega
def evBody (G : List Val → M Val) : SS := (nSeq (nExpr (sCall G 2 0 2 (fun ws _ => ws) (aCons (sVar 0) (aCons (sVar 2) aNil)) aNil)) nNext)
theorem ev_loop {G : List Val → M Val} {q : Nat} {a1 : Option Val} {all : List Vl} (hg : ∀ y ∈ all, ∀ (xs : List Val) (h : HH), h[q]? = some (.lst xs) → xs.length + y.rows.length ≤ 3000000 → G [.ref q, y.val] h = .ok .non (h.set q (.lst (xs ++ y.rows)))) :
    ∀ (ys : List Vl) (i : Nat) (xs : List Val) (h : HH) (a2 : Option Val), all.drop i = ys → h[q]? = some (.lst xs) → xs.length + (vrs ys).length ≤ 3000000 →
      ∃ a2', turns (gNm 2) (evBody G) (.st (vls all)) ys.length i [some (.ref q), a1, a2] h = .go .nx [some (.ref q), a1, a2'] (h.set q (.lst (xs ++ vrs ys)))
  | [], i, xs, h, a2, ed, e, l => by
    have en : (vls all)[i]? = none := by
      rw [List.getElem?_eq_none (by
        rw [vls_len]
        have := congrArg List.length ed
        rw [List.length_drop] at this
        simp at this
        omega)]
    refine ⟨a2, ?_⟩
    have : h.set q (.lst (xs ++ vrs [])) = h := by
      show h.set q (.lst (xs ++ [])) = h
      rw [List.append_nil]
      obtain ⟨l1, l2⟩ := List.getElem?_eq_some_iff.mp e
      rw [← l2, List.set_getElem_self]
    rw [this]
    exact turn_end (by rw [nxt_st, en])
  | y :: ys, i, xs, h, a2, ed, e, l => by
    have es : all[i]? = some y := by
      have := congrArg (fun l => l[0]?) ed
      simpa using this
    have ed' : all.drop (i + 1) = ys := by
      have := congrArg List.tail ed
      simpa using this
    have ev : (vls all)[i]? = some y.val := by
      have gen : ∀ (zs : List Vl) (j : Nat) (z : Vl), zs[j]? = some z → (vls zs)[j]? = some z.val := by
        intro zs
        induction zs with
        | nil => intro j z q; cases q
        | cons w zs ih =>
          intro j z q
          cases j with
          | zero => cases q; rfl
          | succ j => exact ih j z q
      exact gen all i y es
    have l' : xs.length + (y.rows ++ vrs ys).length ≤ 3000000 := l
    rw [List.length_append] at l'
    have g := hg y (List.mem_of_getElem? es) xs h e (by omega)
    have e2 : (h.set q (.lst (xs ++ y.rows)))[q]? = some (.lst (xs ++ y.rows)) := set_get e
    obtain ⟨a2', ih⟩ := ev_loop hg ys (i + 1) (xs ++ y.rows) (h.set q (.lst (xs ++ y.rows))) (some y.val) ed' e2 (by rw [List.length_append]; omega)
    refine ⟨a2', ?_⟩
    rw [List.length_cons]
    have bd : evBody G [some (.ref q), a1, some y.val] h = .go .nx [some (.ref q), a1, some y.val] (h.set q (.lst (xs ++ y.rows))) := by
      simp -implicitDefEqProofs only [evBody, nSeq_e, nExpr_e, sCall_e, aCons_e, sVar_0, sVar_2, aNil_e, ob_ok, List.length_cons, List.length_nil, if_true, and_self, g, sb_ok, sq_nx, nNext_e]
    rw [turn_nx (w := y.val) (ro1 := [some (.ref q), a1, some y.val]) (by rw [nxt_st, ev]) rfl bd, ih, List.set_set]
    show _ = SO.go .nx _ (h.set q (.lst (xs ++ (y.rows ++ vrs ys))))
    rw [List.append_assoc]
theorem ev_emv : ∀ (m : Nat) (v : Vl), v.okB = true → v.dep ≤ m → ∀ (q : Nat) (xs : List Val) (h : HH), h[q]? = some (.lst xs) → xs.length + v.rows.length ≤ 3000000 → F__law_emit_value m [.ref q, v.val] h = .ok .non (h.set q (.lst (xs ++ v.rows)))
  | 0, v, _, l, _, _, _, _, _ => by have := dep_pos v; omega
  | m + 1, v, o, l, q, xs, h, e, lx => by
    have p := pl_val o
    rw [e__law_emit_value]
    cases v with
    | num i =>
      have is : fIsi [Vl.val (.num i), .ty "int"] h = .ok (.bl true) h := isi_int rfl p
      have t1 : fTup [.str "put", Vl.val (.num i)] h = .ok (.tup [.str "put", .int i]) h := tupV (by simp)
      have m0 := mtL_r (f := mApp) (ra := aCons (sArgs fTup (aCons (sC (.str "put")) (aCons (sVar 1) aNil))) aNil) (ro := [some (.ref q), some (Vl.val (.num i)), none]) e
      have ap := app_q (y := .tup [.str "put", .int i]) e (by omega)
      have fin : Vl.rows (.num i) = [.tup [.str "put", .int i]] := rfl
      rw [fin]
      generalize Vl.val (.num i) = w at is t1 m0
      simp -implicitDefEqProofs only [m__law_emit_value, nSeq_e, nIf_e, cV_e, sArgs_e, aCons_e, sVar_s, sVar_0, sVar_1, sVar_2, sC_e, aNil_e, ob_ok, is, tr_bl, sb_ok, if_true, nExpr_e, sMtL_e, m0, t1, ap, sq_nx, nNext_e, outOf_nx]
    | nm x =>
      have is : fIsi [Vl.val (.nm x), .ty "int"] h = .ok (.bl false) h := isi_int rfl p
      have i0 : bIx (Vl.val (.nm x)) (.int 0) h = .ok (.str "name") h := ix_t0
      have i1 : bIx (Vl.val (.nm x)) (.int 1) h = .ok (.str x) h := ix_t1
      have t1 : fTup [.str "get", .str x] h = .ok (.tup [.str "get", .str x]) h := tupV (by simp)
      have m0 := mtL_r (f := mApp) (ra := aCons (sArgs fTup (aCons (sC (.str "get")) (aCons (sBin bIx (sVar 1) (sC (.int 1))) aNil))) aNil) (ro := [some (.ref q), some (Vl.val (.nm x)), none]) e
      have ap := app_q (y := .tup [.str "get", .str x]) e (by omega)
      have fin : Vl.rows (.nm x) = [.tup [.str "get", .str x]] := rfl
      rw [fin]
      generalize Vl.val (.nm x) = w at is i0 i1 m0
      simp -implicitDefEqProofs only [m__law_emit_value, nSeq_e, nIf_e, cV_e, sArgs_e, aCons_e, sVar_s, sVar_0, sVar_1, sVar_2, sC_e, aNil_e, ob_ok, is, tr_bl, sb_ok, Bool.false_eq_true, if_false, cBin_e, sBin_e, i0, eq_ss, decide_true, unB_bl, if_true, nExpr_e, sMtL_e, m0, i1, t1, ap, sq_nx, nNext_e, outOf_nx]
    | op k a b =>
      have o' : (decide (k ∈ OPSL) && (a.okB && b.okB)) = true := o
      rw [Bool.and_eq_true, Bool.and_eq_true, decide_eq_true_eq] at o'
      obtain ⟨_, k1, k2, _⟩ := ops_short k o'.1
      have l' : 1 + max a.dep b.dep ≤ m + 1 := l
      have fin : Vl.rows (.op k a b) = a.rows ++ b.rows ++ [.tup [.str k]] := rfl
      rw [fin, List.length_append, List.length_append, List.length_singleton] at lx
      have ea := ev_emv m a o'.2.1 (by omega) q xs h e (by omega)
      have e2 : (h.set q (.lst (xs ++ a.rows)))[q]? = some (.lst (xs ++ a.rows)) := set_get e
      have eb := ev_emv m b o'.2.2 (by omega) q (xs ++ a.rows) _ e2 (by rw [List.length_append]; omega)
      rw [List.set_set] at eb
      have e3 : (h.set q (.lst (xs ++ a.rows ++ b.rows)))[q]? = some (.lst (xs ++ a.rows ++ b.rows)) := set_get e
      have is : fIsi [Vl.val (.op k a b), .ty "int"] h = .ok (.bl false) h := isi_int rfl p
      have i0 : ∀ g, bIx (Vl.val (.op k a b)) (.int 0) g = .ok (.str k) g := fun _ => ix_t0
      have i1 : ∀ g, bIx (Vl.val (.op k a b)) (.int 1) g = .ok a.val g := fun _ => ix_t1
      have i2 : ∀ g, bIx (Vl.val (.op k a b)) (.int 2) g = .ok b.val g := fun _ => ix_t2
      have t1 : ∀ g, fTup [.str k] g = .ok (.tup [.str k]) g := fun g => tupV (by simp)
      have m0 := mtL_r (f := mApp) (ra := aCons (sArgs fTup (aCons (sBin bIx (sVar 1) (sC (.int 0))) aNil)) aNil) (ro := [some (.ref q), some (Vl.val (.op k a b)), none]) e3
      have ap := app_q (y := .tup [.str k]) e3 (by rw [List.length_append, List.length_append]; omega)
      rw [List.set_set] at ap
      have fin2 : xs ++ Vl.rows (.op k a b) = xs ++ a.rows ++ b.rows ++ [.tup [.str k]] := by
        rw [fin]
        simp only [List.append_assoc]
      rw [fin2]
      generalize Vl.val (.op k a b) = w at is i0 i1 i2 m0
      simp -implicitDefEqProofs only [m__law_emit_value, nSeq_e, nIf_e, cV_e, sArgs_e, aCons_e, sVar_s, sVar_0, sVar_1, sVar_2, sC_e, aNil_e, ob_ok, is, tr_bl, sb_ok, Bool.false_eq_true, if_false, cBin_e, sBin_e, i0, eq_ss, decide_eq_false k1, decide_eq_false k2, unB_bl, nExpr_e, sCall_e, i1, List.length_cons, List.length_nil, if_true, and_self, ea, sq_nx, i2, eb, sMtL_e, m0, t1, ap, nNext_e, outOf_nx]
    | call x ys =>
      have o' : (shortB x && (decide (ys.length ≤ 3) && vos ys)) = true := o
      rw [Bool.and_eq_true, Bool.and_eq_true, decide_eq_true_eq] at o'
      have l' : 1 + vds ys ≤ m + 1 := l
      have fin : Vl.rows (.call x ys) = vrs ys ++ [.tup [.str "call", .str x]] := rfl
      rw [fin, List.length_append, List.length_singleton] at lx
      have is : fIsi [Vl.val (.call x ys), .ty "int"] h = .ok (.bl false) h := isi_int rfl p
      have i0 : bIx (Vl.val (.call x ys)) (.int 0) h = .ok (.str "call") h := ix_t0
      have i1 : ∀ g, bIx (Vl.val (.call x ys)) (.int 1) g = .ok (.str x) g := fun _ => ix_t1
      have i2 : bIx (Vl.val (.call x ys)) (.int 2) h = .ok (.tup (vls ys)) h := ix_t2
      obtain ⟨a2, el⟩ := ev_loop (G := F__law_emit_value m) (q := q) (a1 := some (Vl.val (.call x ys))) (all := ys) (fun y hy xs h e l => by
        have := vds_le hy
        exact ev_emv m y (vos_mem o'.2.2 hy) (by omega) q xs h e l) ys 0 xs h none rfl e (by omega)
      have e3 : (h.set q (.lst (xs ++ vrs ys)))[q]? = some (.lst (xs ++ vrs ys)) := set_get e
      have t1 : ∀ g, fTup [.str "call", .str x] g = .ok (.tup [.str "call", .str x]) g := fun g => tupV (by simp)
      have m0 := mtL_r (f := mApp) (ra := aCons (sArgs fTup (aCons (sC (.str "call")) (aCons (sBin bIx (sVar 1) (sC (.int 1))) aNil))) aNil) (ro := [some (.ref q), some (Vl.val (.call x ys)), a2]) e3
      have ap := app_q (y := .tup [.str "call", .str x]) e3 (by rw [List.length_append]; omega)
      rw [List.set_set] at ap
      have cn : decide (("call" : Str) = "name") = false := by decide +kernel
      have fin2 : xs ++ Vl.rows (.call x ys) = xs ++ vrs ys ++ [.tup [.str "call", .str x]] := by
        rw [fin, List.append_assoc]
      rw [fin2]
      unfold evBody at el
      have vl : (vls ys).length = ys.length := vls_len ys
      generalize Vl.val (.call x ys) = w at is i0 i1 i2 m0 el
      simp -implicitDefEqProofs only [m__law_emit_value, nSeq_e, nIf_e, cV_e, sArgs_e, aCons_e, sVar_s, sVar_0, sVar_1, sVar_2, sC_e, aNil_e, ob_ok, is, tr_bl, sb_ok, Bool.false_eq_true, if_false, cBin_e, sBin_e, i0, eq_ss, cn, unB_bl, decide_true, if_true, nFor_e, iVal_e, i2, itmV_tup, vl, el, sq_nx, nExpr_e, sMtL_e, m0, i1, t1, ap, nNext_e, outOf_nx]
end K08
set_option Elab.async false
set_option maxRecDepth 100000
set_option linter.unusedVariables false
set_option linter.unusedSimpArgs false
namespace K08
open PySem PySem.Spec PyProof.Rows L2 Z
/-! ### sayings as data -/
inductive Sy where
  | set (x : Str) (v : Vl) | plain (k : Str) (v : Vl) | iff (v : Vl) (a b : List Sy) | whl (v : Vl) (a : List Sy) | tri (a : List Sy) (x : Str) (b : List Sy)
mutual
def Sy.val : Sy → Val
  | .set x v => .tup [.str "set", .str x, v.val]
  | .plain k v => .tup [.str k, v.val]
  | .iff v a b => .tup [.str "if", v.val, .tup (sls a), .tup (sls b)]
  | .whl v a => .tup [.str "while", v.val, .tup (sls a)]
  | .tri a x b => .tup [.str "try", .tup (sls a), .str x, .tup (sls b)]
def sls : List Sy → List Val
  | [] => []
  | y :: ys => y.val :: sls ys
end
def goV (n : Nat) : Val := .tup [.str "go", .int (n : Nat)]
def ifV (n : Nat) : Val := .tup [.str "if", .int (n : Nat)]
def tryV (n : Nat) : Val := .tup [.str "try", .int (n : Nat)]
def setV (x : Str) : Val := .tup [.str "set", .str x]
def doneV : Val := .tup [.str "done"]
mutual
def Sy.rows : Sy → Nat → List Val
  | .set x v, _ => v.rows ++ [setV x]
  | .plain k v, _ => v.rows ++ [.tup [.str k]]
  | .iff v a b, i => v.rows ++ [ifV (i + v.rows.length + (srs b (i + v.rows.length + 1)).length + 2)] ++ srs b (i + v.rows.length + 1) ++ [goV (i + v.rows.length + (srs b (i + v.rows.length + 1)).length + 2 + (srs a (i + v.rows.length + (srs b (i + v.rows.length + 1)).length + 2)).length)] ++ srs a (i + v.rows.length + (srs b (i + v.rows.length + 1)).length + 2)
  | .whl v a, i => v.rows ++ [ifV (i + v.rows.length + 2), goV (i + v.rows.length + 2 + (srs a (i + v.rows.length + 2)).length + 1)] ++ srs a (i + v.rows.length + 2) ++ [goV i]
  | .tri a x b, i => [tryV (i + (srs a (i + 1)).length + 3)] ++ srs a (i + 1) ++ [doneV, goV (i + (srs a (i + 1)).length + 3 + (1 + (srs b (i + (srs a (i + 1)).length + 3 + 1)).length))] ++ (setV x :: srs b (i + (srs a (i + 1)).length + 3 + 1))
def srs : List Sy → Nat → List Val
  | [], _ => []
  | s :: r, i => s.rows i ++ srs r (i + (s.rows i).length)
end
mutual
def Sy.dep : Sy → Nat
  | .set _ _ => 1
  | .plain _ _ => 1
  | .iff _ a b => 1 + max (sds a) (sds b)
  | .whl _ a => 1 + sds a
  | .tri a _ b => 1 + max (sds a) (sds b)
def sds : List Sy → Nat
  | [] => 0
  | y :: ys => max y.dep (sds ys)
end
def PLAIN : List Str := ["say", "back", "throw"]
mutual
def Sy.okB (w : Nat) : Sy → Bool
  | .set x v => shortB x && (v.okB && decide (v.dep ≤ w))
  | .plain k v => decide (k ∈ PLAIN) && (v.okB && decide (v.dep ≤ w))
  | .iff v a b => v.okB && (decide (v.dep ≤ w) && (decide (a.length ≤ 6) && (decide (b.length ≤ 6) && (sos w a && sos w b))))
  | .whl v a => v.okB && (decide (v.dep ≤ w) && (decide (a.length ≤ 6) && sos w a))
  | .tri a x b => shortB x && (decide (a.length ≤ 6) && (decide (b.length ≤ 6) && (sos w a && sos w b)))
def sos (w : Nat) : List Sy → Bool
  | [] => true
  | y :: ys => y.okB w && sos w ys
end
theorem sls_len : ∀ ys : List Sy, (sls ys).length = ys.length
  | [] => rfl
  | y :: ys => by
    show (sls ys).length + 1 = ys.length + 1
    rw [sls_len ys]
theorem sds_le {y : Sy} : ∀ {ys : List Sy}, y ∈ ys → y.dep ≤ sds ys
  | z :: ys, h => by
    show y.dep ≤ max z.dep (sds ys)
    rcases List.mem_cons.mp h with rfl | h
    · exact Nat.le_max_left _ _
    · exact Nat.le_trans (sds_le h) (Nat.le_max_right _ _)
theorem sos_mem {w : Nat} {y : Sy} : ∀ {ys : List Sy}, sos w ys = true → y ∈ ys → y.okB w = true
  | z :: ys, o, h => by
    have o' : (z.okB w && sos w ys) = true := o
    rw [Bool.and_eq_true] at o'
    rcases List.mem_cons.mp h with rfl | h
    · exact o'.1
    · exact sos_mem o'.2 h
theorem sls_get : ∀ {ys : List Sy} {i : Nat} {s : Sy}, ys[i]? = some s → (sls ys)[i]? = some s.val
  | _ :: _, 0, _, e => by cases e; rfl
  | _ :: ys, i + 1, s, e => sls_get (ys := ys) (i := i) e
  | [], _, _, e => by cases e
theorem sls_none {ys : List Sy} {i : Nat} (h : ys.length ≤ i) : (sls ys)[i]? = none := List.getElem?_eq_none (by rw [sls_len]; exact h)
/-! ### no more rows than signs -/
theorem sz_pos (w : Val) : 2 ≤ sz w := by
  cases w <;> first | (show 2 ≤ 5; decide) | (show 2 ≤ 60; decide) | (unfold sz; omega)
mutual
theorem rows_sz : ∀ v : Vl, v.rows.length ≤ sz v.val
  | .num i => by show 1 ≤ 60; decide
  | .nm x => by have := sz_pos (Vl.val (.nm x)); show 1 ≤ _; omega
  | .op k a b => by
    have h1 := rows_sz a
    have h2 := rows_sz b
    show (a.rows ++ b.rows ++ [_]).length ≤ sz (.str k) + 2 + (sz a.val + 2 + (sz b.val + 2 + 0)) + 3
    rw [List.length_append, List.length_append, List.length_singleton]
    omega
  | .call x ys => by
    have h1 := vrs_sz ys
    show (vrs ys ++ [_]).length ≤ sz (.str "call") + 2 + (sz (.str x) + 2 + (szs (vls ys) + 3 + 2 + 0)) + 3
    rw [List.length_append, List.length_singleton]
    omega
theorem vrs_sz : ∀ ys : List Vl, (vrs ys).length ≤ szs (vls ys)
  | [] => Nat.le_refl 0
  | y :: ys => by
    have h1 := rows_sz y
    have h2 := vrs_sz ys
    show (y.rows ++ vrs ys).length ≤ sz y.val + 2 + szs (vls ys)
    rw [List.length_append]
    omega
end
mutual
theorem srow_sz : ∀ (s : Sy) (i : Nat), (s.rows i).length ≤ sz s.val
  | .set x v, i => by
    have := rows_sz v
    show (v.rows ++ [_]).length ≤ sz (.str "set") + 2 + (sz (.str x) + 2 + (sz v.val + 2 + 0)) + 3
    rw [List.length_append, List.length_singleton]
    omega
  | .plain k v, i => by
    have := rows_sz v
    show (v.rows ++ [_]).length ≤ sz (.str k) + 2 + (sz v.val + 2 + 0) + 3
    rw [List.length_append, List.length_singleton]
    omega
  | .iff v a b, i => by
    have h0 := rows_sz v
    have h1 := srs_sz b (i + v.rows.length + 1)
    have h2 := srs_sz a (i + v.rows.length + (srs b (i + v.rows.length + 1)).length + 2)
    show (v.rows ++ [_] ++ srs b _ ++ [_] ++ srs a _).length ≤ sz (.str "if") + 2 + (sz v.val + 2 + (szs (sls a) + 3 + 2 + (szs (sls b) + 3 + 2 + 0))) + 3
    simp only [List.length_append, List.length_singleton]
    omega
  | .whl v a, i => by
    have h0 := rows_sz v
    have h2 := srs_sz a (i + v.rows.length + 2)
    show (v.rows ++ [_, _] ++ srs a _ ++ [_]).length ≤ sz (.str "while") + 2 + (sz v.val + 2 + (szs (sls a) + 3 + 2 + 0)) + 3
    simp only [List.length_append, List.length_singleton, List.length_cons, List.length_nil]
    omega
  | .tri a x b, i => by
    have h1 := srs_sz a (i + 1)
    have h2 := srs_sz b (i + (srs a (i + 1)).length + 3 + 1)
    show ([_] ++ srs a _ ++ [_, _] ++ (_ :: srs b _)).length ≤ sz (.str "try") + 2 + (szs (sls a) + 3 + 2 + (sz (.str x) + 2 + (szs (sls b) + 3 + 2 + 0))) + 3
    simp only [List.length_append, List.length_singleton, List.length_cons, List.length_nil]
    omega
theorem srs_sz : ∀ (ys : List Sy) (i : Nat), (srs ys i).length ≤ szs (sls ys)
  | [], _ => Nat.le_refl 0
  | y :: ys, i => by
    have h1 := srow_sz y i
    have h2 := srs_sz ys (i + (y.rows i).length)
    show (y.rows i ++ srs ys _).length ≤ sz y.val + 2 + szs (sls ys)
    rw [List.length_append]
    omega
end
theorem sls_sz {s : Sy} : ∀ {ys : List Sy}, s ∈ ys → sz s.val + 2 ≤ szs (sls ys)
  | z :: ys, h => by
    show sz s.val + 2 ≤ sz z.val + 2 + szs (sls ys)
    rcases List.mem_cons.mp h with rfl | h
    · omega
    · have := sls_sz h; omega
/-! ### lists that lie and lists that are objects, put together -/
theorem add_lr {xs ys : List Val} {n : Nat} {h : HH} (e : h[n]? = some (.lst ys)) (l : xs.length + ys.length ≤ 10000000) : bAdd (.lst xs) (.ref n) h = .ok (.lst (xs ++ ys)) h := by
  show (match lsts (.lst xs) h, lsts (.ref n) h with
    | some xs, some ys => if xs.length + ys.length ≤ sizeLine then Out.ok (Val.lst (xs ++ ys)) h else .bad
    | _, _ => .bad) = _
  have e1 : lsts (.lst xs) h = some xs := rfl
  have e2 : lsts (.ref n) h = some ys := by
    show (match h[n]? with | some (.lst xs) => some xs | _ => none) = _
    rw [e]
  rw [e1, e2]
  dsimp only
  rw [if_pos (by have := sizeLine_eq; omega)]
theorem add_rl {xs ys : List Val} {n : Nat} {h : HH} (e : h[n]? = some (.lst xs)) (l : xs.length + ys.length ≤ 10000000) : bAdd (.ref n) (.lst ys) h = .ok (.lst (xs ++ ys)) h := by
  show (match lsts (.ref n) h, lsts (.lst ys) h with
    | some xs, some ys => if xs.length + ys.length ≤ sizeLine then Out.ok (Val.lst (xs ++ ys)) h else .bad
    | _, _ => .bad) = _
  have e1 : lsts (.lst ys) h = some ys := rfl
  have e2 : lsts (.ref n) h = some xs := by
    show (match h[n]? with | some (.lst xs) => some xs | _ => none) = _
    rw [e]
  rw [e1, e2]
  dsimp only
  rw [if_pos (by have := sizeLine_eq; omega)]
theorem ext_q {n : Nat} {xs ys : List Val} {h : HH} (e : h[n]? = some (.lst xs)) (l : xs.length + ys.length ≤ 10000000) : mExt (.ref n) [.lst ys] h = .ok .non (h.set n (.lst (xs ++ ys))) := by
  show (match h[n]? with | some (.lst xs) => putL n (xs ++ ys) .non h | _ => .bad) = _
  rw [e]
  show (if (xs ++ ys).length ≤ sizeLine then _ else _) = _
  rw [if_pos (by rw [List.length_append]; have := sizeLine_eq; omega)]
theorem KB.at {n q : Nat} {h h' : HH} {x : Ob} (k : KB n h h') (l : q < n) (e : h[q]? = some x) : h'[q]? = some x := (k q l).trans e
theorem KB.low {n m : Nat} {h h' : HH} (k : KB n h h') (l : m ≤ n) : KB m h h' := fun i hi => k i (by omega)
theorem KB.set {n q : Nat} {h : HH} {x : Ob} (l : n ≤ q) : KB n h (h.set q x) := fun i hi => by rw [List.getElem?_set_ne (by omega)]
theorem KB.new {n : Nat} {h : HH} {x : Ob} (l : n ≤ h.length) : KB n h (h ++ [x]) := fun i hi => by rw [List.getElem?_append_left (by omega)]
theorem lt_of_at {h : HH} {q : Nat} {x : Ob} (e : h[q]? = some x) : q < h.length := (List.getElem?_eq_some_iff.mp e).1
/-! ### the program's own way -/
def SRok (G : List Val → M Val) (ws : List Sy) : Prop := ∀ (h : HH) (i : Nat), ∃ h', G [.tup (sls ws), .int (i : Nat)] h = .ok (.ref h.length) h' ∧ h'[h.length]? = some (.lst (srs ws i)) ∧ KB h.length h h'
def MKok (G : List Val → M Val) (s : Sy) : Prop := ∀ (h : HH) (i : Nat), ∃ h', G [s.val, .int (i : Nat)] h = .ok (.lst (s.rows i)) h' ∧ KB h.length h h'
theorem mk_plain {k : Str} {v : Vl} (o : v.okB = true) (d : v.dep ≤ 5) : MKok F_rows_of_plain (.plain k v) := by
  intro h i
  have e := ev_rv 8 v o (by omega) d h
  have ln : v.rows.length ≤ 1000 := by
    have h1 := rows_len v o
    have h2 := rB_mono d
    have h3 : rB 5 = 121 := rfl
    omega
  have i1 : bIx (Sy.val (.plain k v)) (.int 1) h = .ok v.val h := ix_t1
  have i0 : bIx (Sy.val (.plain k v)) (.int 0) h = .ok (.str k) h := ix_t0
  have t1 : fTup [.str k] h = .ok (.tup [.str k]) h := tupV (by simp)
  have l1 : fLst [.tup [.str k]] h = .ok (.lst [.tup [.str k]]) h := lstV (by simp)
  have ad : bAdd (.lst v.rows) (.lst [.tup [.str k]]) h = .ok (.lst (v.rows ++ [.tup [.str k]])) h := addVL (by rw [List.length_singleton]; omega)
  refine ⟨h, ?_, KB.refl _ _⟩
  have fin : Sy.rows (.plain k v) i = v.rows ++ [.tup [.str k]] := rfl
  rw [fin, e_rows_of_plain]
  generalize Sy.val (.plain k v) = w at i0 i1
  simp -implicitDefEqProofs only [m_rows_of_plain, nSeq_e, nRet_e, sBin_e, sCall_e, aCons_e, sVar_0, sC_e, ob_ok, i1, aNil_e, List.length_cons, List.length_nil, if_true, and_self, e, sArgs_e, i0, t1, l1, ad, sb_ok, sq_ret, outOf_ret]
theorem mk_set {x : Str} {v : Vl} (o : v.okB = true) (d : v.dep ≤ 5) : MKok F_rows_of_set (.set x v) := by
  intro h i
  have e := ev_rv 8 v o (by omega) d h
  have ln : v.rows.length ≤ 1000 := by
    have h1 := rows_len v o
    have h2 := rB_mono d
    have h3 : rB 5 = 121 := rfl
    omega
  have i1 : bIx (Sy.val (.set x v)) (.int 1) h = .ok (.str x) h := ix_t1
  have i2 : bIx (Sy.val (.set x v)) (.int 2) h = .ok v.val h := ix_t2
  have t1 : fTup [.str "set", .str x] h = .ok (setV x) h := tupV (by simp)
  have l1 : fLst [setV x] h = .ok (.lst [setV x]) h := lstV (by simp)
  have ad : bAdd (.lst v.rows) (.lst [setV x]) h = .ok (.lst (v.rows ++ [setV x])) h := addVL (by rw [List.length_singleton]; omega)
  refine ⟨h, ?_, KB.refl _ _⟩
  have fin : Sy.rows (.set x v) i = v.rows ++ [setV x] := rfl
  rw [fin, e_rows_of_set]
  generalize Sy.val (.set x v) = w at i1 i2
  simp -implicitDefEqProofs only [m_rows_of_set, nSeq_e, nRet_e, sBin_e, sCall_e, aCons_e, sVar_0, sC_e, ob_ok, i2, aNil_e, List.length_cons, List.length_nil, if_true, and_self, e, sArgs_e, i1, t1, l1, ad, sb_ok, sq_ret, outOf_ret]
section
variable {C_MADE C_rows_of_if C_rows_of_plain C_rows_of_set C_rows_of_try C_rows_of_while : Addr} {m : Nat}
theorem mk_if {v : Vl} {a b : List Sy} (o : v.okB = true) (d : v.dep ≤ 5) (ha : SRok ((F_rows_of_sayings C_MADE C_rows_of_if C_rows_of_plain C_rows_of_set C_rows_of_try C_rows_of_while) m) a) (hb : SRok ((F_rows_of_sayings C_MADE C_rows_of_if C_rows_of_plain C_rows_of_set C_rows_of_try C_rows_of_while) m) b) (za : szs (sls a) ≤ 3000000) (zb : szs (sls b) ≤ 3000000) : MKok (F_rows_of_if C_MADE C_rows_of_if C_rows_of_plain C_rows_of_set C_rows_of_try C_rows_of_while (m + 1)) (.iff v a b) := by
  intro h i
  have e := ev_rv 8 v o (by omega) d h
  have ln : v.rows.length ≤ 1000 := by
    have h1 := rows_len v o
    have h2 := rB_mono d
    have h3 : rB 5 = 121 := rfl
    omega
  have i1 : bIx (Sy.val (.iff v a b)) (.int 1) h = .ok v.val h := ix_t1
  have i3 : bIx (Sy.val (.iff v a b)) (.int 3) h = .ok (.tup (sls b)) h := ix_t (i := 3) rfl
  have i2 : ∀ g, bIx (Sy.val (.iff v a b)) (.int 2) g = .ok (.tup (sls a)) g := fun _ => ix_t2
  have ll : ∀ g, fLen [.lst v.rows] g = .ok (.int (v.rows.length : Nat)) g := fun _ => len_lst
  have c1 : ((i : Nat) : Int) + ((v.rows.length : Nat) : Int) + 1 = ((i + v.rows.length + 1 : Nat) : Int) := by omega
  obtain ⟨h1, e1, q1, k1⟩ := hb h (i + v.rows.length + 1)
  have sb := srs_sz b (i + v.rows.length + 1)
  generalize eB : srs b (i + v.rows.length + 1) = B at q1 sb
  have lb := len_r q1
  have c2 : ((i : Nat) : Int) + ((v.rows.length : Nat) : Int) + ((B.length : Nat) : Int) + 2 = ((i + v.rows.length + B.length + 2 : Nat) : Int) := by omega
  obtain ⟨h2, e2, q2, k2⟩ := ha h1 (i + v.rows.length + B.length + 2)
  have sa := srs_sz a (i + v.rows.length + B.length + 2)
  generalize eA : srs a (i + v.rows.length + B.length + 2) = A at q2 sa
  have la := len_r q2
  have q1' := k2.at (lt_of_at q1) q1
  have lb' := len_r q1'
  have c3 : ((i + v.rows.length + B.length + 2 : Nat) : Int) + ((A.length : Nat) : Int) = ((i + v.rows.length + B.length + 2 + A.length : Nat) : Int) := by omega
  have t1 : fTup [.str "if", .int ((i + v.rows.length + B.length + 2 : Nat) : Int)] h2 = .ok (ifV (i + v.rows.length + B.length + 2)) h2 := tupV (by simp)
  have l1 : fLst [ifV (i + v.rows.length + B.length + 2)] h2 = .ok (.lst [ifV (i + v.rows.length + B.length + 2)]) h2 := lstV (by simp)
  have t2 : fTup [.str "go", .int ((i + v.rows.length + B.length + 2 + A.length : Nat) : Int)] h2 = .ok (goV (i + v.rows.length + B.length + 2 + A.length)) h2 := tupV (by simp)
  have l2 : fLst [goV (i + v.rows.length + B.length + 2 + A.length)] h2 = .ok (.lst [goV (i + v.rows.length + B.length + 2 + A.length)]) h2 := lstV (by simp)
  have a1 : bAdd (.lst v.rows) (.lst [ifV (i + v.rows.length + B.length + 2)]) h2 = .ok (.lst (v.rows ++ [ifV (i + v.rows.length + B.length + 2)])) h2 := addVL (by rw [List.length_singleton]; omega)
  have a2 := add_lr (xs := v.rows ++ [ifV (i + v.rows.length + B.length + 2)]) q1' (by rw [List.length_append, List.length_singleton]; omega)
  have a3 : bAdd (.lst (v.rows ++ [ifV (i + v.rows.length + B.length + 2)] ++ B)) (.lst [goV (i + v.rows.length + B.length + 2 + A.length)]) h2 = .ok (.lst (v.rows ++ [ifV (i + v.rows.length + B.length + 2)] ++ B ++ [goV (i + v.rows.length + B.length + 2 + A.length)])) h2 := addVL (by simp only [List.length_append, List.length_singleton]; omega)
  have a4 := add_lr (xs := v.rows ++ [ifV (i + v.rows.length + B.length + 2)] ++ B ++ [goV (i + v.rows.length + B.length + 2 + A.length)]) q2 (by simp only [List.length_append, List.length_singleton]; omega)
  refine ⟨h2, ?_, k1.trans (k2.low (Nat.le_of_lt (lt_of_at q1)))⟩
  have fin : Sy.rows (.iff v a b) i = v.rows ++ [ifV (i + v.rows.length + B.length + 2)] ++ B ++ [goV (i + v.rows.length + B.length + 2 + A.length)] ++ A := by
    rw [← eA, ← eB]
    rfl
  rw [fin, e_rows_of_if]
  generalize Sy.val (.iff v a b) = w at i1 i2 i3
  generalize h.length = p1 at e1 q1' lb lb' a2
  generalize h1.length = p2 at e2 q2 la a4
  simp -implicitDefEqProofs only [m_rows_of_if, nSeq_e, nSet_e, sCall_e, aCons_e, sBin_e, sVar_s, sVar_0, sVar_1, sVar_2, sC_e, ob_ok, i1, aNil_e, List.length_cons, List.length_nil, if_true, and_self, e, sb_ok, sq_nx, List.set_cons_zero, List.set_cons_succ, i3, sArgs_e, ll, add_ii, c1, e1, lb, c2, i2, e2, nRet_e, t1, l1, a1, a2, la, c3, t2, l2, a3, a4, sq_ret, outOf_ret]
theorem mk_while {v : Vl} {a : List Sy} (o : v.okB = true) (d : v.dep ≤ 5) (ha : SRok ((F_rows_of_sayings C_MADE C_rows_of_if C_rows_of_plain C_rows_of_set C_rows_of_try C_rows_of_while) m) a) (za : szs (sls a) ≤ 3000000) : MKok (F_rows_of_while C_MADE C_rows_of_if C_rows_of_plain C_rows_of_set C_rows_of_try C_rows_of_while (m + 1)) (.whl v a) := by
  intro h i
  have e := ev_rv 8 v o (by omega) d h
  have ln : v.rows.length ≤ 1000 := by
    have h1 := rows_len v o
    have h2 := rB_mono d
    have h3 : rB 5 = 121 := rfl
    omega
  have i1 : bIx (Sy.val (.whl v a)) (.int 1) h = .ok v.val h := ix_t1
  have i2 : bIx (Sy.val (.whl v a)) (.int 2) h = .ok (.tup (sls a)) h := ix_t2
  have ll : ∀ g, fLen [.lst v.rows] g = .ok (.int (v.rows.length : Nat)) g := fun _ => len_lst
  have c1 : ((i : Nat) : Int) + ((v.rows.length : Nat) : Int) + 2 = ((i + v.rows.length + 2 : Nat) : Int) := by omega
  obtain ⟨h1, e1, q1, k1⟩ := ha h (i + v.rows.length + 2)
  have sa := srs_sz a (i + v.rows.length + 2)
  generalize eA : srs a (i + v.rows.length + 2) = A at q1 sa
  have la := len_r q1
  have c2 : ((i + v.rows.length + 2 : Nat) : Int) + ((A.length : Nat) : Int) + 1 = ((i + v.rows.length + 2 + A.length + 1 : Nat) : Int) := by omega
  have t1 : fTup [.str "if", .int ((i + v.rows.length + 2 : Nat) : Int)] h1 = .ok (ifV (i + v.rows.length + 2)) h1 := tupV (by simp)
  have t2 : fTup [.str "go", .int ((i + v.rows.length + 2 + A.length + 1 : Nat) : Int)] h1 = .ok (goV (i + v.rows.length + 2 + A.length + 1)) h1 := tupV (by simp)
  have t3 : fTup [.str "go", .int ((i : Nat) : Int)] h1 = .ok (goV i) h1 := tupV (by simp)
  have l1 : fLst [ifV (i + v.rows.length + 2), goV (i + v.rows.length + 2 + A.length + 1)] h1 = .ok (.lst [ifV (i + v.rows.length + 2), goV (i + v.rows.length + 2 + A.length + 1)]) h1 := lstV (by simp)
  have l2 : fLst [goV i] h1 = .ok (.lst [goV i]) h1 := lstV (by simp)
  have a1 : bAdd (.lst v.rows) (.lst [ifV (i + v.rows.length + 2), goV (i + v.rows.length + 2 + A.length + 1)]) h1 = .ok (.lst (v.rows ++ [ifV (i + v.rows.length + 2), goV (i + v.rows.length + 2 + A.length + 1)])) h1 := addVL (by simp only [List.length_cons, List.length_nil]; omega)
  have a2 := add_lr (xs := v.rows ++ [ifV (i + v.rows.length + 2), goV (i + v.rows.length + 2 + A.length + 1)]) q1 (by simp only [List.length_append, List.length_cons, List.length_nil]; omega)
  have a3 : bAdd (.lst (v.rows ++ [ifV (i + v.rows.length + 2), goV (i + v.rows.length + 2 + A.length + 1)] ++ A)) (.lst [goV i]) h1 = .ok (.lst (v.rows ++ [ifV (i + v.rows.length + 2), goV (i + v.rows.length + 2 + A.length + 1)] ++ A ++ [goV i])) h1 := addVL (by simp only [List.length_append, List.length_cons, List.length_nil]; omega)
  refine ⟨h1, ?_, k1⟩
  have fin : Sy.rows (.whl v a) i = v.rows ++ [ifV (i + v.rows.length + 2), goV (i + v.rows.length + 2 + A.length + 1)] ++ A ++ [goV i] := by
    rw [← eA]
    rfl
  rw [fin, e_rows_of_while]
  generalize Sy.val (.whl v a) = w at i1 i2
  generalize h.length = p1 at e1 la a2
  simp -implicitDefEqProofs only [m_rows_of_while, nSeq_e, nSet_e, sCall_e, aCons_e, sBin_e, sVar_s, sVar_0, sVar_1, sVar_2, sC_e, ob_ok, i1, aNil_e, List.length_cons, List.length_nil, if_true, and_self, e, sb_ok, sq_nx, List.set_cons_zero, List.set_cons_succ, i2, sArgs_e, ll, add_ii, c1, e1, la, c2, nRet_e, t1, t2, t3, l1, l2, a1, a2, a3, sq_ret, outOf_ret]
theorem mk_try {x : Str} {a b : List Sy} (ha : SRok ((F_rows_of_sayings C_MADE C_rows_of_if C_rows_of_plain C_rows_of_set C_rows_of_try C_rows_of_while) m) a) (hb : SRok ((F_rows_of_sayings C_MADE C_rows_of_if C_rows_of_plain C_rows_of_set C_rows_of_try C_rows_of_while) m) b) (za : szs (sls a) ≤ 3000000) (zb : szs (sls b) ≤ 3000000) : MKok (F_rows_of_try C_MADE C_rows_of_if C_rows_of_plain C_rows_of_set C_rows_of_try C_rows_of_while (m + 1)) (.tri a x b) := by
  intro h i
  have c1 : ((i : Nat) : Int) + 1 = ((i + 1 : Nat) : Int) := by omega
  obtain ⟨h1, e1, q1, k1⟩ := ha h (i + 1)
  have sa := srs_sz a (i + 1)
  generalize eA : srs a (i + 1) = A at q1 sa
  have la := len_r q1
  have c2 : ((i : Nat) : Int) + ((A.length : Nat) : Int) + 3 = ((i + A.length + 3 : Nat) : Int) := by omega
  have c3 : ((i + A.length + 3 : Nat) : Int) + 1 = ((i + A.length + 3 + 1 : Nat) : Int) := by omega
  have t0 : fTup [.str "set", .str x] h1 = .ok (setV x) h1 := tupV (by simp)
  have l0 : fLst [setV x] h1 = .ok (.lst [setV x]) h1 := lstV (by simp)
  obtain ⟨h2, e2, q2, k2⟩ := hb h1 (i + A.length + 3 + 1)
  have sb := srs_sz b (i + A.length + 3 + 1)
  generalize eB : srs b (i + A.length + 3 + 1) = B at q2 sb
  have q1' := k2.at (lt_of_at q1) q1
  have a0 : bAdd (.lst [setV x]) (.ref h1.length) h2 = .ok (.lst (setV x :: B)) h2 := add_lr (xs := [setV x]) q2 (by simp only [List.length_singleton]; omega)
  have lt : fLen [.lst (setV x :: B)] h2 = .ok (.int ((1 + B.length : Nat) : Int)) h2 := by
    rw [len_lst, List.length_cons, Nat.add_comm]
  have c4 : ((i + A.length + 3 : Nat) : Int) + ((1 + B.length : Nat) : Int) = ((i + A.length + 3 + (1 + B.length) : Nat) : Int) := by omega
  have t1 : fTup [.str "try", .int ((i + A.length + 3 : Nat) : Int)] h2 = .ok (tryV (i + A.length + 3)) h2 := tupV (by simp)
  have l1 : fLst [tryV (i + A.length + 3)] h2 = .ok (.lst [tryV (i + A.length + 3)]) h2 := lstV (by simp)
  have t2 : fTup [.str "done"] h2 = .ok doneV h2 := tupV (by simp)
  have t3 : fTup [.str "go", .int ((i + A.length + 3 + (1 + B.length) : Nat) : Int)] h2 = .ok (goV (i + A.length + 3 + (1 + B.length))) h2 := tupV (by simp)
  have l2 : fLst [doneV, goV (i + A.length + 3 + (1 + B.length))] h2 = .ok (.lst [doneV, goV (i + A.length + 3 + (1 + B.length))]) h2 := lstV (by simp)
  have a1 := add_lr (xs := [tryV (i + A.length + 3)]) q1' (by simp only [List.length_singleton]; omega)
  have a2 : bAdd (.lst ([tryV (i + A.length + 3)] ++ A)) (.lst [doneV, goV (i + A.length + 3 + (1 + B.length))]) h2 = .ok (.lst ([tryV (i + A.length + 3)] ++ A ++ [doneV, goV (i + A.length + 3 + (1 + B.length))])) h2 := addVL (by simp only [List.length_append, List.length_cons, List.length_nil]; omega)
  have a3 : bAdd (.lst ([tryV (i + A.length + 3)] ++ A ++ [doneV, goV (i + A.length + 3 + (1 + B.length))])) (.lst (setV x :: B)) h2 = .ok (.lst ([tryV (i + A.length + 3)] ++ A ++ [doneV, goV (i + A.length + 3 + (1 + B.length))] ++ (setV x :: B))) h2 := addVL (by simp only [List.length_append, List.length_cons, List.length_nil]; omega)
  refine ⟨h2, ?_, k1.trans (k2.low (Nat.le_of_lt (lt_of_at q1)))⟩
  have fin : Sy.rows (.tri a x b) i = [tryV (i + A.length + 3)] ++ A ++ [doneV, goV (i + A.length + 3 + (1 + B.length))] ++ (setV x :: B) := by
    rw [← eB, ← eA]
    rfl
  rw [fin, e_rows_of_try]
  have g4 : ∀ (g : List Val → En → HH → SO) (ro : En), gTp 4 g (Sy.val (.tri a x b)) ro h = g [.str "try", .tup (sls a), .str x, .tup (sls b)] ro h := fun _ _ => rfl
  generalize Sy.val (.tri a x b) = w at g4
  generalize h.length = p1 at e1 la a1 q1'
  generalize h1.length = p2 at e2 a0
  simp -implicitDefEqProofs only [m_rows_of_try, nSeq_e, nAsg_e, sVar_0, sb_ok, g4, gsCons_nm, gsNil_e, List.set_cons_zero, List.set_cons_succ, asg_nx, sq_nx, nSet_e, sCall_e, aCons_e, sBin_e, sVar_s, sVar_1, sVar_2, sC_e, ob_ok, aNil_e, List.length_cons, List.length_nil, if_true, and_self, add_ii, c1, e1, sArgs_e, la, c2, t0, l0, c3, e2, a0, nRet_e, t1, l1, a1, t2, lt, c4, t3, l2, a2, a3, sq_ret, outOf_ret]
end
end K08
set_option Elab.async false
set_option maxRecDepth 100000
set_option linter.unusedVariables false
set_option linter.unusedSimpArgs false
namespace K08
open PySem PySem.Spec PyProof.Rows L2 Z
theorem callL_e {i np : Nat} {L : List (Addr × (List Val → M Val))} {ra : En → M (List Val)} {ro : En} {h : HH} {a : Addr} {F : List Val → M Val} (e1 : sVar i ro h = .ok (.glo a) h) (e2 : disp L a = some F) : sCallL i np L ra ro h = obind (ra ro h) fun ws h1 => (if ws.length = np then F ws else fail) h1 := by
  show obind (sVar i ro h) _ = _
  rw [e1]
  show (match disp L a with
    | some F => bind (ra ro) fun ws => if ws.length = np then F ws else fail
    | none => fail) h = _
  rw [e2]
  rfl
def Sy.word : Sy → Str
  | .set _ _ => "set"
  | .plain k _ => k
  | .iff _ _ _ => "if"
  | .whl _ _ => "while"
  | .tri _ _ _ => "try"
theorem ix_word (s : Sy) {h : HH} : bIx s.val (.int 0) h = .ok (.str s.word) h := by cases s <;> exact ix_t0
structure Unl (C_rows_of_if C_rows_of_plain C_rows_of_set C_rows_of_try C_rows_of_while : Addr) : Prop where
  ip : C_rows_of_if ≠ C_rows_of_plain
  is : C_rows_of_if ≠ C_rows_of_set
  it : C_rows_of_if ≠ C_rows_of_try
  iw : C_rows_of_if ≠ C_rows_of_while
  ps : C_rows_of_plain ≠ C_rows_of_set
  pt : C_rows_of_plain ≠ C_rows_of_try
  pw : C_rows_of_plain ≠ C_rows_of_while
  st : C_rows_of_set ≠ C_rows_of_try
  sw : C_rows_of_set ≠ C_rows_of_while
  tw : C_rows_of_try ≠ C_rows_of_while
section
variable {C_MADE C_rows_of_if C_rows_of_plain C_rows_of_set C_rows_of_try C_rows_of_while : Addr}
def dl (C_MADE C_rows_of_if C_rows_of_plain C_rows_of_set C_rows_of_try C_rows_of_while : Addr) (m : Nat) : List (Addr × (List Val → M Val)) := [(C_rows_of_set, F_rows_of_set), (C_rows_of_plain, F_rows_of_plain), (C_rows_of_if, F_rows_of_if C_MADE C_rows_of_if C_rows_of_plain C_rows_of_set C_rows_of_try C_rows_of_while m), (C_rows_of_while, F_rows_of_while C_MADE C_rows_of_if C_rows_of_plain C_rows_of_set C_rows_of_try C_rows_of_while m), (C_rows_of_try, F_rows_of_try C_MADE C_rows_of_if C_rows_of_plain C_rows_of_set C_rows_of_try C_rows_of_while m)]
theorem disp_yes {a : Addr} {F : List Val → M Val} {r : List (Addr × (List Val → M Val))} : disp ((a, F) :: r) a = some F := if_pos rfl
theorem disp_no {a b : Addr} {F : List Val → M Val} {r : List (Addr × (List Val → M Val))} (n : b ≠ a) : disp ((a, F) :: r) b = disp r b := if_neg n
/-- which def makes a saying's rows -/
def Kind (m : Nat) (C_MADE C_rows_of_if C_rows_of_plain C_rows_of_set C_rows_of_try C_rows_of_while : Addr) : Sy → Addr × (List Val → M Val)
  | .set _ _ => (C_rows_of_set, F_rows_of_set)
  | .plain _ _ => (C_rows_of_plain, F_rows_of_plain)
  | .iff _ _ _ => (C_rows_of_if, F_rows_of_if C_MADE C_rows_of_if C_rows_of_plain C_rows_of_set C_rows_of_try C_rows_of_while m)
  | .whl _ _ => (C_rows_of_while, F_rows_of_while C_MADE C_rows_of_if C_rows_of_plain C_rows_of_set C_rows_of_try C_rows_of_while m)
  | .tri _ _ _ => (C_rows_of_try, F_rows_of_try C_MADE C_rows_of_if C_rows_of_plain C_rows_of_set C_rows_of_try C_rows_of_while m)
theorem kind_disp (U : Unl C_rows_of_if C_rows_of_plain C_rows_of_set C_rows_of_try C_rows_of_while) (m : Nat) (s : Sy) : disp ((dl C_MADE C_rows_of_if C_rows_of_plain C_rows_of_set C_rows_of_try C_rows_of_while) m) (Kind m C_MADE C_rows_of_if C_rows_of_plain C_rows_of_set C_rows_of_try C_rows_of_while s).1 = some (Kind m C_MADE C_rows_of_if C_rows_of_plain C_rows_of_set C_rows_of_try C_rows_of_while s).2 := by
  unfold dl
  cases s with
  | set _ _ => exact disp_yes
  | plain _ _ => exact (disp_no U.ps).trans disp_yes
  | iff _ _ _ => exact (disp_no U.is).trans ((disp_no U.ip).trans disp_yes)
  | whl _ _ => exact (disp_no (Ne.symm U.sw)).trans ((disp_no (Ne.symm U.pw)).trans ((disp_no (Ne.symm U.iw)).trans disp_yes))
  | tri _ _ _ => exact (disp_no (Ne.symm U.st)).trans ((disp_no (Ne.symm U.pt)).trans ((disp_no (Ne.symm U.it)).trans ((disp_no U.tw).trans disp_yes)))
theorem kind_look {w m : Nat} {s : Sy} (o : s.okB w = true) : ((kv_MADE C_rows_of_if C_rows_of_plain C_rows_of_set C_rows_of_try C_rows_of_while)).lookup s.word = some (Kind m C_MADE C_rows_of_if C_rows_of_plain C_rows_of_set C_rows_of_try C_rows_of_while s).1 := by
  cases s with
  | set _ _ => rfl
  | plain k v =>
    have o' : (decide (k ∈ PLAIN) && (v.okB && decide (v.dep ≤ w))) = true := o
    rw [Bool.and_eq_true, decide_eq_true_eq] at o'
    have hk := o'.1
    simp only [PLAIN, List.mem_cons, List.not_mem_nil, or_false] at hk
    show ((kv_MADE C_rows_of_if C_rows_of_plain C_rows_of_set C_rows_of_try C_rows_of_while)).lookup k = some C_rows_of_plain
    rcases hk with rfl | rfl | rfl <;> rfl
  | iff _ _ _ => rfl
  | whl _ _ => rfl
  | tri _ _ _ => rfl
def rBody (m : Nat) (C_MADE C_rows_of_if C_rows_of_plain C_rows_of_set C_rows_of_try C_rows_of_while : Addr) : SS := (nSeq (nSet 4 (sBin (bKget C_MADE (kv_MADE C_rows_of_if C_rows_of_plain C_rows_of_set C_rows_of_try C_rows_of_while)) (sC (.glo C_MADE)) (sBin bIx (sVar 3) (sC (.int 0))))) (nSeq (nExpr (sMtL mExt (sVar 2) (aCons (sCallL 4 2 (dl C_MADE C_rows_of_if C_rows_of_plain C_rows_of_set C_rows_of_try C_rows_of_while m) (aCons (sVar 3) (aCons (sBin bAdd (sVar 1) (sArgs fLen (aCons (sVar 2) aNil))) aNil))) aNil))) nNext))
theorem sayings_is (m : Nat) : m_rows_of_sayings C_MADE C_rows_of_if C_rows_of_plain C_rows_of_set C_rows_of_try C_rows_of_while ((F_rows_of_if C_MADE C_rows_of_if C_rows_of_plain C_rows_of_set C_rows_of_try C_rows_of_while) m) ((F_rows_of_while C_MADE C_rows_of_if C_rows_of_plain C_rows_of_set C_rows_of_try C_rows_of_while) m) ((F_rows_of_try C_MADE C_rows_of_if C_rows_of_plain C_rows_of_set C_rows_of_try C_rows_of_while) m) ((F_rows_of_sayings C_MADE C_rows_of_if C_rows_of_plain C_rows_of_set C_rows_of_try C_rows_of_while) m) = (nSeq (nSet 2 (sArgs fNew aNil)) (nSeq (nFor (iVal (sVar 0)) (gNm 3) (rBody m C_MADE C_rows_of_if C_rows_of_plain C_rows_of_set C_rows_of_try C_rows_of_while)) (nSeq (nRet (sVar 2)) nNext))) := rfl
theorem r_turn (U : Unl C_rows_of_if C_rows_of_plain C_rows_of_set C_rows_of_try C_rows_of_while) {w m : Nat} {s : Sy} (o : s.okB w = true) (mk : MKok (Kind m C_MADE C_rows_of_if C_rows_of_plain C_rows_of_set C_rows_of_try C_rows_of_while s).2 s) {a0 a4 : Option Val} {q i : Nat} {acc : List Val} {h : HH} (e : h[q]? = some (.lst acc)) (l : acc.length + sz s.val ≤ 5000000) :
    ∃ a4' h', rBody m C_MADE C_rows_of_if C_rows_of_plain C_rows_of_set C_rows_of_try C_rows_of_while [a0, some (.int (i : Nat)), some (.ref q), some s.val, a4] h = .go .nx [a0, some (.int (i : Nat)), some (.ref q), some s.val, a4'] h' ∧ h'[q]? = some (.lst (acc ++ s.rows (i + acc.length))) ∧ KB q h h' := by
  obtain ⟨h1, e1, k1⟩ := mk h (i + acc.length)
  have ql := lt_of_at e
  have e' := k1.at ql e
  have kg : bKget C_MADE ((kv_MADE C_rows_of_if C_rows_of_plain C_rows_of_set C_rows_of_try C_rows_of_while)) (.glo C_MADE) (.str s.word) h = .ok (.glo (Kind m C_MADE C_rows_of_if C_rows_of_plain C_rows_of_set C_rows_of_try C_rows_of_while s).1) h := by
    show (if C_MADE = C_MADE then (match ((kv_MADE C_rows_of_if C_rows_of_plain C_rows_of_set C_rows_of_try C_rows_of_while)).lookup s.word with
      | some a => Out.ok (Val.glo a) h
      | none => .bad) else .bad) = _
    rw [if_pos rfl, kind_look (m := m) (C_MADE := C_MADE) o]
  have ds := kind_disp (C_MADE := C_MADE) U m s
  generalize Kind m C_MADE C_rows_of_if C_rows_of_plain C_rows_of_set C_rows_of_try C_rows_of_while s = kd at kg ds e1
  obtain ⟨ka, kf⟩ := kd
  dsimp only at kg ds e1
  have sc := callL_e (i := 4) (np := 2) (ra := aCons (sVar 3) (aCons (sBin bAdd (sVar 1) (sArgs fLen (aCons (sVar 2) aNil))) aNil)) (ro := [a0, some (.int (i : Nat)), some (.ref q), some s.val, some (.glo ka)]) (h := h) rfl ds
  have m0 := mtL_r (f := mExt) (ra := aCons (sCallL 4 2 ((dl C_MADE C_rows_of_if C_rows_of_plain C_rows_of_set C_rows_of_try C_rows_of_while) m) (aCons (sVar 3) (aCons (sBin bAdd (sVar 1) (sArgs fLen (aCons (sVar 2) aNil))) aNil))) aNil) (ro := [a0, some (.int (i : Nat)), some (.ref q), some s.val, some (.glo ka)]) e
  have ll := len_r e
  have c1 : ((i : Nat) : Int) + ((acc.length : Nat) : Int) = ((i + acc.length : Nat) : Int) := by omega
  have rz := srow_sz s (i + acc.length)
  have ex := ext_q (ys := s.rows (i + acc.length)) e' (by omega)
  have iw := ix_word s (h := h)
  refine ⟨some (.glo ka), _, ?_, set_get e', k1.low (Nat.le_of_lt ql) |>.trans (KB.set (Nat.le_refl q))⟩
  generalize s.rows (i + acc.length) = R at e1 ex
  generalize s.val = sv at iw sc m0 e1
  generalize s.word = wd at iw kg
  simp -implicitDefEqProofs only [rBody, nSeq_e, nSet_e, sBin_e, sC_e, ob_ok, sVar_s, sVar_0, sVar_1, sVar_2, iw, kg, sb_ok, sq_nx, List.set_cons_zero, List.set_cons_succ, nExpr_e, sMtL_e, m0, aCons_e, sc, sArgs_e, aNil_e, ll, add_ii, c1, List.length_cons, List.length_nil, if_true, e1, ex, nNext_e]
theorem r_loop (U : Unl C_rows_of_if C_rows_of_plain C_rows_of_set C_rows_of_try C_rows_of_while) {w m : Nat} {all : List Sy} (oo : sos w all = true) (mk : ∀ s ∈ all, MKok (Kind m C_MADE C_rows_of_if C_rows_of_plain C_rows_of_set C_rows_of_try C_rows_of_while s).2 s) {a0 : Option Val} {q i : Nat} :
    ∀ (ss : List Sy) (j : Nat) (acc : List Val) (h : HH) (a3 a4 : Option Val), all.drop j = ss → h[q]? = some (.lst acc) → acc.length + szs (sls ss) ≤ 5000000 →
      ∃ a3' a4' h', turns (gNm 3) (rBody m C_MADE C_rows_of_if C_rows_of_plain C_rows_of_set C_rows_of_try C_rows_of_while) (.st (sls all)) ss.length j [a0, some (.int (i : Nat)), some (.ref q), a3, a4] h = .go .nx [a0, some (.int (i : Nat)), some (.ref q), a3', a4'] h' ∧ h'[q]? = some (.lst (acc ++ srs ss (i + acc.length))) ∧ KB q h h'
  | [], j, acc, h, a3, a4, ed, e, l => by
    have lj : all.length ≤ j := by
      have := congrArg List.length ed
      rw [List.length_drop] at this
      simp at this
      omega
    exact ⟨a3, a4, h, turn_end (by rw [nxt_st, sls_none lj]), by rw [e]; show _ = some (Ob.lst (acc ++ [])); rw [List.append_nil], KB.refl _ _⟩
  | s :: ss, j, acc, h, a3, a4, ed, e, l => by
    have es : all[j]? = some s := by
      have := congrArg (fun l => l[0]?) ed
      simpa using this
    have ed' : all.drop (j + 1) = ss := by
      have := congrArg List.tail ed
      simpa using this
    have sm := List.mem_of_getElem? es
    have l' : acc.length + (sz s.val + 2 + szs (sls ss)) ≤ 5000000 := l
    obtain ⟨b4, h1, e1, q1, k1⟩ := r_turn (C_MADE := C_MADE) U (sos_mem oo sm) (mk s sm) (a0 := a0) (a4 := a4) (i := i) e (by omega)
    have rz := srow_sz s (i + acc.length)
    obtain ⟨c3, c4, h2, e2, q2, k2⟩ := r_loop U oo mk ss (j + 1) (acc ++ s.rows (i + acc.length)) h1 (some s.val) b4 ed' q1 (by rw [List.length_append]; omega)
    refine ⟨c3, c4, h2, ?_, ?_, k1.trans k2⟩
    · rw [List.length_cons, turn_nx (w := s.val) (ro1 := [a0, some (.int (i : Nat)), some (.ref q), some s.val, a4]) (by rw [nxt_st, sls_get es]) rfl e1, e2]
    · rw [q2, List.length_append, List.append_assoc, ← Nat.add_assoc]
      rfl
/-- sayings, by fuel -/
theorem ev_rss (U : Unl C_rows_of_if C_rows_of_plain C_rows_of_set C_rows_of_try C_rows_of_while) {w : Nat} (w5 : w ≤ 5) (m : Nat) (ws : List Sy) (o : sos w ws = true) (l : 2 * sds ws + 1 ≤ m) (z : szs (sls ws) ≤ 3000000) : SRok ((F_rows_of_sayings C_MADE C_rows_of_if C_rows_of_plain C_rows_of_set C_rows_of_try C_rows_of_while) m) ws := by
  match m, l with
  | m + 1, l =>
    intro h i
    have nw : fNew [] h = .ok (.ref h.length) (h ++ [.lst []]) := fNew_ok (by simp)
    have e0 : (h ++ [Ob.lst []])[h.length]? = some (.lst []) := List.getElem?_concat_length
    have mk : ∀ s ∈ ws, MKok (Kind m C_MADE C_rows_of_if C_rows_of_plain C_rows_of_set C_rows_of_try C_rows_of_while s).2 s := by
      intro s hs
      have os := sos_mem o hs
      have ds := sds_le hs
      have zs := sls_sz hs
      cases s with
      | set x v =>
        have o' : (shortB x && (v.okB && decide (v.dep ≤ w))) = true := os
        rw [Bool.and_eq_true, Bool.and_eq_true, decide_eq_true_eq] at o'
        exact mk_set o'.2.1 (by omega)
      | plain k v =>
        have o' : (decide (k ∈ PLAIN) && (v.okB && decide (v.dep ≤ w))) = true := os
        rw [Bool.and_eq_true, Bool.and_eq_true, decide_eq_true_eq, decide_eq_true_eq] at o'
        exact mk_plain o'.2.1 (by omega)
      | iff v a b =>
        have o' : (v.okB && (decide (v.dep ≤ w) && (decide (a.length ≤ 6) && (decide (b.length ≤ 6) && (sos w a && sos w b))))) = true := os
        simp only [Bool.and_eq_true, decide_eq_true_eq] at o'
        obtain ⟨o1, o2, o3, o4, o5, o6⟩ := o'
        have d' : 1 + max (sds a) (sds b) ≤ sds ws := ds
        have z' : sz (.str "if") + 2 + (sz v.val + 2 + (szs (sls a) + 3 + 2 + (szs (sls b) + 3 + 2 + 0))) + 3 + 2 ≤ szs (sls ws) := zs
        match m, l with
        | m + 1, l => exact mk_if o1 (by omega) (ev_rss U w5 m a o5 (by omega) (by omega)) (ev_rss U w5 m b o6 (by omega) (by omega)) (by omega) (by omega)
        | 0, l => exact absurd l (by omega)
      | whl v a =>
        have o' : (v.okB && (decide (v.dep ≤ w) && (decide (a.length ≤ 6) && sos w a))) = true := os
        simp only [Bool.and_eq_true, decide_eq_true_eq] at o'
        obtain ⟨o1, o2, o3, o5⟩ := o'
        have d' : 1 + sds a ≤ sds ws := ds
        have z' : sz (.str "while") + 2 + (sz v.val + 2 + (szs (sls a) + 3 + 2 + 0)) + 3 + 2 ≤ szs (sls ws) := zs
        match m, l with
        | m + 1, l => exact mk_while o1 (by omega) (ev_rss U w5 m a o5 (by omega) (by omega)) (by omega)
        | 0, l => exact absurd l (by omega)
      | tri a x b =>
        have o' : (shortB x && (decide (a.length ≤ 6) && (decide (b.length ≤ 6) && (sos w a && sos w b)))) = true := os
        simp only [Bool.and_eq_true, decide_eq_true_eq] at o'
        obtain ⟨o1, o3, o4, o5, o6⟩ := o'
        have d' : 1 + max (sds a) (sds b) ≤ sds ws := ds
        have z' : sz (.str "try") + 2 + (szs (sls a) + 3 + 2 + (sz (.str x) + 2 + (szs (sls b) + 3 + 2 + 0))) + 3 + 2 ≤ szs (sls ws) := zs
        match m, l with
        | m + 1, l => exact mk_try (ev_rss U w5 m a o5 (by omega) (by omega)) (ev_rss U w5 m b o6 (by omega) (by omega)) (by omega) (by omega)
        | 0, l => exact absurd l (by omega)
    obtain ⟨a3, a4, h1, el, q1, k1⟩ := r_loop (C_MADE := C_MADE) U o mk (a0 := some (.tup (sls ws))) (q := h.length) (i := i) ws 0 [] (h ++ [.lst []]) none none rfl e0 (by simp; omega)
    refine ⟨h1, ?_, by rw [q1]; rfl, (KB.new (Nat.le_refl _)).trans k1⟩
    rw [e_rows_of_sayings, sayings_is]
    have sl := sls_len ws
    generalize h.length = p at nw el
    simp -implicitDefEqProofs only [nSeq_e, nSet_e, sArgs_e, aNil_e, ob_ok, nw, sb_ok, sq_nx, List.set_cons_zero, List.set_cons_succ, nFor_e, iVal_e, sVar_0, itmV_tup, sl, el, nRet_e, sVar_2, sq_ret, outOf_ret]
termination_by m
decreasing_by all_goals omega
end
end K08
set_option Elab.async false
set_option maxRecDepth 100000
set_option linter.unusedVariables false
set_option linter.unusedSimpArgs false
namespace K08
open PySem PySem.Spec PyProof.Rows L2 Z
/-! ### the law's own way -/
theorem set_mid {α : Type} (y w : α) : ∀ (xs zs : List α), (xs ++ y :: zs).set xs.length w = xs ++ w :: zs
  | [], _ => rfl
  | x :: xs, zs => by
    show x :: (xs ++ y :: zs).set xs.length w = x :: (xs ++ w :: zs)
    rw [set_mid y w xs zs]
def hq (h : HH) (q : Nat) (L : List Val) : HH := h.set q (.lst L)
theorem hq_at {h : HH} {q : Nat} {x : Ob} (e : h[q]? = some x) (L : List Val) : (hq h q L)[q]? = some (.lst L) := set_get e
theorem hq_set {h : HH} {q : Nat} (L M : List Val) : (hq h q L).set q (.lst M) = hq h q M := List.set_set ..
theorem ixN_at {n j : Nat} (hj : j < n) : ixN n (j : Int) = some j := by
  unfold ixN
  rw [if_pos (by omega), if_pos (by omega), Int.toNat_natCast]
theorem store {h : HH} {q k : Nat} {x : Ob} (e : h[q]? = some x) {P T : List Val} {y w : Val} {mi : SE} {ro : En} (r0 : ro[0]? = some (some (.ref q))) (hk : k = P.length) (ei : mi ro (hq h q (P ++ y :: T)) = .ok (.int (k : Nat)) (hq h q (P ++ y :: T))) :
    gSb (sVar 0) mi w ro (hq h q (P ++ y :: T)) = .go .nx ro (hq h q (P ++ w :: T)) := by
  subst hk
  rw [gSb_e (j := P.length) (sVar_e r0) ei (hq_at e _) (ixN_at (by rw [List.length_append, List.length_cons]; omega)), set_mid, hq_set]
def EMok (G : List Val → M Val) (ws : List Sy) : Prop := ∀ (q : Nat) (xs : List Val) (h : HH) (x : Ob), h[q]? = some x → xs.length + szs (sls ws) ≤ 3000000 → G [.ref q, .tup (sls ws)] (hq h q xs) = .ok .non (hq h q (xs ++ srs ws xs.length))
def EOok (G : List Val → M Val) (s : Sy) : Prop := ∀ (q : Nat) (xs : List Val) (h : HH) (x : Ob), h[q]? = some x → xs.length + sz s.val ≤ 3000000 → G [.ref q, s.val] (hq h q xs) = .ok .non (hq h q (xs ++ s.rows xs.length))
section
variable {m : Nat}
theorem eo_try {a b : List Sy} {x : Str} (ha : EMok (F__law_emit m) a) (hb : EMok (F__law_emit m) b) : EOok (F__law_emit_one (m + 1)) (.tri a x b) := by
  intro q xs h y e l
  have l' : xs.length + (sz (.str "try") + 2 + (szs (sls a) + 3 + 2 + (sz (.str x) + 2 + (szs (sls b) + 3 + 2 + 0))) + 3) ≤ 3000000 := l
  have sx := sz_pos (.str x)
  have L0 := hq_at e
  have SS' := hq_set (h := h) (q := q)
  have i0 : ∀ g, bIx (Sy.val (.tri a x b)) (.int 0) g = .ok (.str "try") g := fun _ => ix_t0
  have i1 : ∀ g, bIx (Sy.val (.tri a x b)) (.int 1) g = .ok (.tup (sls a)) g := fun _ => ix_t1
  have i2 : ∀ g, bIx (Sy.val (.tri a x b)) (.int 2) g = .ok (.str x) g := fun _ => ix_t2
  have i3 : ∀ g, bIx (Sy.val (.tri a x b)) (.int 3) g = .ok (.tup (sls b)) g := fun _ => ix_t (i := 3) rfl
  have ln := fun L => len_r (L0 L)
  have ap := fun L y (z : L.length ≤ 4000000) => app_q (y := y) (L0 L) z
  -- the steps' lists
  have s1 := ap xs .non (by omega)
  rw [SS'] at s1
  have s2 := ha q (xs ++ [.non]) h y e (by rw [List.length_append, List.length_singleton]; omega)
  have n1 : (xs ++ [Val.non]).length = xs.length + 1 := by rw [List.length_append, List.length_singleton]
  rw [n1] at s2
  have sa := srs_sz a (xs.length + 1)
  generalize eA : srs a (xs.length + 1) = A at s2 sa
  have s3 := ext_q (ys := [doneV, .non, setV x]) (L0 (xs ++ [.non] ++ A)) (by simp only [List.length_append, List.length_singleton, List.length_cons, List.length_nil]; omega)
  rw [SS'] at s3
  have f3 : xs ++ [.non] ++ A ++ [doneV, .non, setV x] = xs ++ .non :: (A ++ [doneV, .non, setV x]) := by simp
  rw [f3] at s3
  have l3 := ln (xs ++ .non :: (A ++ [doneV, .non, setV x]))
  have n3 : ((xs ++ Val.non :: (A ++ [doneV, .non, setV x])).length : Nat) = xs.length + A.length + 4 := by
    simp only [List.length_append, List.length_cons, List.length_nil]; omega
  rw [n3] at l3
  have c3 : (((xs.length + A.length + 4 : Nat)) : Int) - 1 = ((xs.length + A.length + 3 : Nat) : Int) := by omega
  have t3 : ∀ g, fTup [.str "try", .int ((xs.length + A.length + 3 : Nat) : Int)] g = .ok (tryV (xs.length + A.length + 3)) g := fun g => tupV (by simp)
  have s4 := store (ro := [some (.ref q), some (Sy.val (.tri a x b)), some (.str "try"), some (.int (xs.length : Nat)), none, none]) (mi := sVar 3) e (P := xs) (T := A ++ [doneV, .non, setV x]) (y := .non) (w := tryV (xs.length + A.length + 3)) rfl rfl rfl
  have l4 := ln (xs ++ tryV (xs.length + A.length + 3) :: (A ++ [doneV, .non, setV x]))
  have n4 : ((xs ++ tryV (xs.length + A.length + 3) :: (A ++ [doneV, .non, setV x])).length : Nat) = xs.length + A.length + 4 := by
    simp only [List.length_append, List.length_cons, List.length_nil]; omega
  rw [n4] at l4
  have c4 : (((xs.length + A.length + 4 : Nat)) : Int) - 2 = ((xs.length + A.length + 2 : Nat) : Int) := by omega
  have s5 := hb q (xs ++ tryV (xs.length + A.length + 3) :: (A ++ [doneV, .non, setV x])) h y e (by rw [n4]; omega)
  rw [n4] at s5
  have sb := srs_sz b (xs.length + A.length + 4)
  generalize eB : srs b (xs.length + A.length + 4) = B at s5 sb
  have f5 : xs ++ tryV (xs.length + A.length + 3) :: (A ++ [doneV, .non, setV x]) ++ B = (xs ++ tryV (xs.length + A.length + 3) :: (A ++ [doneV])) ++ .non :: (setV x :: B) := by simp
  rw [f5] at s5
  have l5 := ln ((xs ++ tryV (xs.length + A.length + 3) :: (A ++ [doneV])) ++ .non :: (setV x :: B))
  have n5 : (((xs ++ tryV (xs.length + A.length + 3) :: (A ++ [doneV])) ++ Val.non :: (setV x :: B)).length : Nat) = xs.length + A.length + 3 + (1 + B.length) := by
    simp only [List.length_append, List.length_cons, List.length_nil]; omega
  rw [n5] at l5
  have t5 : ∀ g, fTup [.str "go", .int ((xs.length + A.length + 3 + (1 + B.length) : Nat) : Int)] g = .ok (goV (xs.length + A.length + 3 + (1 + B.length))) g := fun g => tupV (by simp)
  have s6 := store (ro := [some (.ref q), some (Sy.val (.tri a x b)), some (.str "try"), some (.int (xs.length : Nat)), none, some (.int (xs.length + A.length + 2 : Nat))]) (mi := sVar 5) (k := xs.length + A.length + 2) e (P := xs ++ tryV (xs.length + A.length + 3) :: (A ++ [doneV])) (T := setV x :: B) (y := .non) (w := goV (xs.length + A.length + 3 + (1 + B.length))) rfl (by simp only [List.length_append, List.length_cons, List.length_nil]; omega) rfl
  have fin : xs ++ Sy.rows (.tri a x b) xs.length = (xs ++ tryV (xs.length + A.length + 3) :: (A ++ [doneV])) ++ goV (xs.length + A.length + 3 + (1 + B.length)) :: (setV x :: B) := by
    have : Sy.rows (.tri a x b) xs.length = [tryV (xs.length + A.length + 3)] ++ A ++ [doneV, goV (xs.length + A.length + 3 + (1 + B.length))] ++ (setV x :: B) := by
      rw [← eB, ← eA]
      rfl
    rw [this]
    simp
  rw [fin, e__law_emit_one]
  have tD : ∀ g, fTup [.str "done"] g = .ok doneV g := fun g => tupV (by simp)
  have tS : ∀ g, fTup [.str "set", .str x] g = .ok (setV x) g := fun g => tupV (by simp)
  have lD : ∀ g, fLst [doneV, .non, setV x] g = .ok (.lst [doneV, .non, setV x]) g := fun g => lstV (by simp)
  have m1 := mtL_r (f := mApp) (ra := aCons (sC .non) aNil) (ro := [some (.ref q), some (Sy.val (.tri a x b)), some (.str "try"), some (.int (xs.length : Nat)), none, none]) (L0 xs)
  have m3 := mtL_r (f := mExt) (ra := aCons (sArgs fLst (aCons (sArgs fTup (aCons (sC (.str "done")) aNil)) (aCons (sC .non) (aCons (sArgs fTup (aCons (sC (.str "set")) (aCons (sBin bIx (sVar 1) (sC (.int 2))) aNil))) aNil)))) aNil) (ro := [some (.ref q), some (Sy.val (.tri a x b)), some (.str "try"), some (.int (xs.length : Nat)), none, none]) (L0 (xs ++ [.non] ++ A))
  have l0 := ln xs
  generalize Sy.val (.tri a x b) = w at i0 i1 i2 i3 s4 s6 m1 m3
  simp -implicitDefEqProofs only [m__law_emit_one, nSeq_e, nSet_e, sBin_e, sVar_s, sVar_0, sVar_1, sVar_2, sC_e, ob_ok, i0, sb_ok, sq_nx, List.set_cons_zero, List.set_cons_succ, sArgs_e, aCons_e, aNil_e, l0, nIf_e, cBin_e, eq_ss, decide_true, unB_bl, if_true, nExpr_e, sMtL_e, m1, s1, sCall_e, i1, List.length_cons, List.length_nil, and_self, s2, m3, tD, i2, tS, lD, s3, nAsg_e, l3, sub_ii, c3, t3, s4, asg_nx, l4, c4, i3, s5, l5, t5, s6, nRetN_e, sq_ret, outOf_ret]
theorem eo_if {v : Vl} {a b : List Sy} (o : v.okB = true) (d : v.dep ≤ 5) (ha : EMok (F__law_emit m) a) (hb : EMok (F__law_emit m) b) : EOok (F__law_emit_one (m + 1)) (.iff v a b) := by
  intro q xs h y e l
  have l' : xs.length + (sz (.str "if") + 2 + (sz v.val + 2 + (szs (sls a) + 3 + 2 + (szs (sls b) + 3 + 2 + 0))) + 3) ≤ 3000000 := l
  have rv := rows_sz v
  have L0 := hq_at e
  have SS' := hq_set (h := h) (q := q)
  have i0 : ∀ g, bIx (Sy.val (.iff v a b)) (.int 0) g = .ok (.str "if") g := fun _ => ix_t0
  have i1 : ∀ g, bIx (Sy.val (.iff v a b)) (.int 1) g = .ok v.val g := fun _ => ix_t1
  have i2 : ∀ g, bIx (Sy.val (.iff v a b)) (.int 2) g = .ok (.tup (sls a)) g := fun _ => ix_t2
  have i3 : ∀ g, bIx (Sy.val (.iff v a b)) (.int 3) g = .ok (.tup (sls b)) g := fun _ => ix_t (i := 3) rfl
  have ln := fun L => len_r (L0 L)
  have ap := fun L y (z : L.length ≤ 4000000) => app_q (y := y) (L0 L) z
  have s0 := ev_emv 8 v o (by omega) q xs (hq h q xs) (L0 xs) (by omega)
  rw [SS'] at s0
  have nb : decide (("if" : Str) = "try") = false ∧ decide (("if" : Str) = "set") = false := by decide +kernel
  have fi : ∀ g, fInt [.bl false] g = .ok (.int 0) g := fun _ => rfl
  have i10 : ∀ g, bIx (Sy.val (.iff v a b)) (.int (1 + 0)) g = .ok v.val g := fun _ => ix_t1
  have l0 := ln xs
  have l1 := ln (xs ++ v.rows)
  have n1 : (xs ++ v.rows).length = xs.length + v.rows.length := List.length_append
  rw [n1] at l1
  have s1 := ap (xs ++ v.rows) .non (by rw [n1]; omega)
  rw [SS'] at s1
  have s2 := hb q (xs ++ v.rows ++ [.non]) h y e (by rw [List.length_append, List.length_singleton, n1]; omega)
  have n2 : (xs ++ v.rows ++ [Val.non]).length = xs.length + v.rows.length + 1 := by rw [List.length_append, List.length_singleton, n1]
  rw [n2] at s2
  have sb := srs_sz b (xs.length + v.rows.length + 1)
  generalize eB : srs b (xs.length + v.rows.length + 1) = B at s2 sb
  have l2 := ln (xs ++ v.rows ++ [.non] ++ B)
  have n3 : (xs ++ v.rows ++ [Val.non] ++ B).length = xs.length + v.rows.length + 1 + B.length := by rw [List.length_append, n2]
  rw [n3] at l2
  have s3 := ap (xs ++ v.rows ++ [.non] ++ B) .non (by rw [n3]; omega)
  rw [SS'] at s3
  have f3 : xs ++ v.rows ++ [.non] ++ B ++ [.non] = (xs ++ v.rows) ++ .non :: (B ++ [.non]) := by simp
  rw [f3] at s3
  have l3 := ln ((xs ++ v.rows) ++ .non :: (B ++ [.non]))
  have n4 : ((xs ++ v.rows) ++ Val.non :: (B ++ [.non])).length = xs.length + v.rows.length + B.length + 2 := by
    simp only [List.length_append, List.length_cons, List.length_nil]; omega
  rw [n4] at l3
  have t3 : ∀ g, fTup [.str "if", .int ((xs.length + v.rows.length + B.length + 2 : Nat) : Int)] g = .ok (ifV (xs.length + v.rows.length + B.length + 2)) g := fun g => tupV (by simp)
  have s4 := store (ro := [some (.ref q), some (Sy.val (.iff v a b)), some (.str "if"), some (.int (xs.length : Nat)), some (.int (xs.length + v.rows.length : Nat)), some (.int (xs.length + v.rows.length + 1 + B.length : Nat))]) (mi := sVar 4) (k := xs.length + v.rows.length) e (P := xs ++ v.rows) (T := B ++ [.non]) (y := .non) (w := ifV (xs.length + v.rows.length + B.length + 2)) rfl (by rw [n1]) rfl
  have n5 : ((xs ++ v.rows) ++ ifV (xs.length + v.rows.length + B.length + 2) :: (B ++ [.non])).length = xs.length + v.rows.length + B.length + 2 := by
    simp only [List.length_append, List.length_cons, List.length_nil]; omega
  have s5 := ha q ((xs ++ v.rows) ++ ifV (xs.length + v.rows.length + B.length + 2) :: (B ++ [.non])) h y e (by rw [n5]; omega)
  rw [n5] at s5
  have sa := srs_sz a (xs.length + v.rows.length + B.length + 2)
  generalize eA : srs a (xs.length + v.rows.length + B.length + 2) = A at s5 sa
  have f5 : (xs ++ v.rows) ++ ifV (xs.length + v.rows.length + B.length + 2) :: (B ++ [.non]) ++ A = ((xs ++ v.rows) ++ ifV (xs.length + v.rows.length + B.length + 2) :: B) ++ .non :: A := by simp
  rw [f5] at s5
  have l5 := ln (((xs ++ v.rows) ++ ifV (xs.length + v.rows.length + B.length + 2) :: B) ++ .non :: A)
  have n6 : (((xs ++ v.rows) ++ ifV (xs.length + v.rows.length + B.length + 2) :: B) ++ Val.non :: A).length = xs.length + v.rows.length + B.length + 2 + A.length := by
    simp only [List.length_append, List.length_cons, List.length_nil]; omega
  rw [n6] at l5
  have t5 : ∀ g, fTup [.str "go", .int ((xs.length + v.rows.length + B.length + 2 + A.length : Nat) : Int)] g = .ok (goV (xs.length + v.rows.length + B.length + 2 + A.length)) g := fun g => tupV (by simp)
  have s6 := store (ro := [some (.ref q), some (Sy.val (.iff v a b)), some (.str "if"), some (.int (xs.length : Nat)), some (.int (xs.length + v.rows.length : Nat)), some (.int (xs.length + v.rows.length + 1 + B.length : Nat))]) (mi := sVar 5) (k := xs.length + v.rows.length + 1 + B.length) e (P := (xs ++ v.rows) ++ ifV (xs.length + v.rows.length + B.length + 2) :: B) (T := A) (y := .non) (w := goV (xs.length + v.rows.length + B.length + 2 + A.length)) rfl (by simp only [List.length_append, List.length_cons, List.length_nil]; omega) rfl
  have fin : xs ++ Sy.rows (.iff v a b) xs.length = ((xs ++ v.rows) ++ ifV (xs.length + v.rows.length + B.length + 2) :: B) ++ goV (xs.length + v.rows.length + B.length + 2 + A.length) :: A := by
    have : Sy.rows (.iff v a b) xs.length = v.rows ++ [ifV (xs.length + v.rows.length + B.length + 2)] ++ B ++ [goV (xs.length + v.rows.length + B.length + 2 + A.length)] ++ A := by
      rw [← eA, ← eB]
      rfl
    rw [this]
    simp
  rw [fin, e__law_emit_one]
  have m1 := mtL_r (f := mApp) (ra := aCons (sC .non) aNil) (ro := [some (.ref q), some (Sy.val (.iff v a b)), some (.str "if"), some (.int (xs.length : Nat)), some (.int (xs.length + v.rows.length : Nat)), none]) (L0 (xs ++ v.rows))
  have m3 := mtL_r (f := mApp) (ra := aCons (sC .non) aNil) (ro := [some (.ref q), some (Sy.val (.iff v a b)), some (.str "if"), some (.int (xs.length : Nat)), some (.int (xs.length + v.rows.length : Nat)), some (.int (xs.length + v.rows.length + 1 + B.length : Nat))]) (L0 (xs ++ v.rows ++ [.non] ++ B))
  generalize Sy.val (.iff v a b) = w at i0 i1 i2 i3 i10 s4 s6 m1 m3
  simp -implicitDefEqProofs only [m__law_emit_one, nSeq_e, nSet_e, sBin_e, sVar_s, sVar_0, sVar_1, sVar_2, sC_e, ob_ok, i0, sb_ok, sq_nx, List.set_cons_zero, List.set_cons_succ, sArgs_e, aCons_e, aNil_e, l0, nIf_e, cBin_e, eq_ss, nb.1, nb.2, unB_bl, Bool.false_eq_true, if_false, nNext_e, nExpr_e, sCall_e, fi, add_ii, i10, List.length_cons, List.length_nil, if_true, and_self, s0, l1, decide_true, sMtL_e, m1, s1, i3, s2, l2, m3, s3, nAsg_e, l3, t3, s4, asg_nx, i2, s5, l5, t5, s6, outOf_nx]
theorem eo_while {v : Vl} {a : List Sy} (o : v.okB = true) (d : v.dep ≤ 5) (ha : EMok (F__law_emit m) a) : EOok (F__law_emit_one (m + 1)) (.whl v a) := by
  intro q xs h y e l
  have l' : xs.length + (sz (.str "while") + 2 + (sz v.val + 2 + (szs (sls a) + 3 + 2 + 0)) + 3) ≤ 3000000 := l
  have rv := rows_sz v
  have L0 := hq_at e
  have SS' := hq_set (h := h) (q := q)
  have i0 : ∀ g, bIx (Sy.val (.whl v a)) (.int 0) g = .ok (.str "while") g := fun _ => ix_t0
  have i10 : ∀ g, bIx (Sy.val (.whl v a)) (.int (1 + 0)) g = .ok v.val g := fun _ => ix_t1
  have i2 : ∀ g, bIx (Sy.val (.whl v a)) (.int 2) g = .ok (.tup (sls a)) g := fun _ => ix_t2
  have ln := fun L => len_r (L0 L)
  have ap := fun L y (z : L.length ≤ 4000000) => app_q (y := y) (L0 L) z
  have s0 := ev_emv 8 v o (by omega) q xs (hq h q xs) (L0 xs) (by omega)
  rw [SS'] at s0
  have nb : decide (("while" : Str) = "try") = false ∧ decide (("while" : Str) = "set") = false ∧ decide (("while" : Str) = "if") = false := by decide +kernel
  have fi : ∀ g, fInt [.bl false] g = .ok (.int 0) g := fun _ => rfl
  have l0 := ln xs
  have l1 := ln (xs ++ v.rows)
  have n1 : (xs ++ v.rows).length = xs.length + v.rows.length := List.length_append
  rw [n1] at l1
  have c1 : ((xs.length + v.rows.length : Nat) : Int) + 2 = ((xs.length + v.rows.length + 2 : Nat) : Int) := by omega
  have t1 : ∀ g, fTup [.str "if", .int ((xs.length + v.rows.length + 2 : Nat) : Int)] g = .ok (ifV (xs.length + v.rows.length + 2)) g := fun g => tupV (by simp)
  have q1 : ∀ g, fLst [ifV (xs.length + v.rows.length + 2), .non] g = .ok (.lst [ifV (xs.length + v.rows.length + 2), .non]) g := fun g => lstV (by simp)
  have s1 := ext_q (ys := [ifV (xs.length + v.rows.length + 2), .non]) (L0 (xs ++ v.rows)) (by simp only [List.length_append, List.length_cons, List.length_nil]; omega)
  rw [SS'] at s1
  have n2 : (xs ++ v.rows ++ [ifV (xs.length + v.rows.length + 2), Val.non]).length = xs.length + v.rows.length + 2 := by simp only [List.length_append, List.length_cons, List.length_nil]
  have s2 := ha q (xs ++ v.rows ++ [ifV (xs.length + v.rows.length + 2), .non]) h y e (by rw [n2]; omega)
  rw [n2] at s2
  have sa := srs_sz a (xs.length + v.rows.length + 2)
  generalize eA : srs a (xs.length + v.rows.length + 2) = A at s2 sa
  have t2 : ∀ g, fTup [.str "go", .int ((xs.length : Nat) : Int)] g = .ok (goV xs.length) g := fun g => tupV (by simp)
  have s3 := ap (xs ++ v.rows ++ [ifV (xs.length + v.rows.length + 2), .non] ++ A) (goV xs.length) (by rw [List.length_append, n2]; omega)
  rw [SS'] at s3
  have f3 : xs ++ v.rows ++ [ifV (xs.length + v.rows.length + 2), .non] ++ A ++ [goV xs.length] = (xs ++ v.rows ++ [ifV (xs.length + v.rows.length + 2)]) ++ .non :: (A ++ [goV xs.length]) := by simp
  rw [f3] at s3
  have l3 := ln ((xs ++ v.rows ++ [ifV (xs.length + v.rows.length + 2)]) ++ .non :: (A ++ [goV xs.length]))
  have n4 : ((xs ++ v.rows ++ [ifV (xs.length + v.rows.length + 2)]) ++ Val.non :: (A ++ [goV xs.length])).length = xs.length + v.rows.length + 2 + A.length + 1 := by
    simp only [List.length_append, List.length_cons, List.length_nil]; omega
  rw [n4] at l3
  have t3 : ∀ g, fTup [.str "go", .int ((xs.length + v.rows.length + 2 + A.length + 1 : Nat) : Int)] g = .ok (goV (xs.length + v.rows.length + 2 + A.length + 1)) g := fun g => tupV (by simp)
  have c4 : ((xs.length + v.rows.length : Nat) : Int) + 1 = ((xs.length + v.rows.length + 1 : Nat) : Int) := by omega
  have s4 := store (ro := [some (.ref q), some (Sy.val (.whl v a)), some (.str "while"), some (.int (xs.length : Nat)), some (.int (xs.length + v.rows.length : Nat)), none]) (mi := sBin bAdd (sVar 4) (sC (.int 1))) (k := xs.length + v.rows.length + 1) e (P := xs ++ v.rows ++ [ifV (xs.length + v.rows.length + 2)]) (T := A ++ [goV xs.length]) (y := .non) (w := goV (xs.length + v.rows.length + 2 + A.length + 1)) rfl (by simp only [List.length_append, List.length_cons, List.length_nil]) (by
    simp -implicitDefEqProofs only [sBin_e, sVar_s, sVar_0, sC_e, ob_ok, add_ii, c4])
  have fin : xs ++ Sy.rows (.whl v a) xs.length = (xs ++ v.rows ++ [ifV (xs.length + v.rows.length + 2)]) ++ goV (xs.length + v.rows.length + 2 + A.length + 1) :: (A ++ [goV xs.length]) := by
    have : Sy.rows (.whl v a) xs.length = v.rows ++ [ifV (xs.length + v.rows.length + 2), goV (xs.length + v.rows.length + 2 + A.length + 1)] ++ A ++ [goV xs.length] := by
      rw [← eA]
      rfl
    rw [this]
    simp
  rw [fin, e__law_emit_one]
  have m1 := mtL_r (f := mExt) (ra := aCons (sArgs fLst (aCons (sArgs fTup (aCons (sC (.str "if")) (aCons (sBin bAdd (sVar 4) (sC (.int 2))) aNil))) (aCons (sC .non) aNil))) aNil) (ro := [some (.ref q), some (Sy.val (.whl v a)), some (.str "while"), some (.int (xs.length : Nat)), some (.int (xs.length + v.rows.length : Nat)), none]) (L0 (xs ++ v.rows))
  have m3 := mtL_r (f := mApp) (ra := aCons (sArgs fTup (aCons (sC (.str "go")) (aCons (sVar 3) aNil))) aNil) (ro := [some (.ref q), some (Sy.val (.whl v a)), some (.str "while"), some (.int (xs.length : Nat)), some (.int (xs.length + v.rows.length : Nat)), none]) (L0 (xs ++ v.rows ++ [ifV (xs.length + v.rows.length + 2), .non] ++ A))
  generalize Sy.val (.whl v a) = w at i0 i2 i10 s4 m1 m3
  simp -implicitDefEqProofs only [m__law_emit_one, nSeq_e, nSet_e, sBin_e, sVar_s, sVar_0, sVar_1, sVar_2, sC_e, ob_ok, i0, sb_ok, sq_nx, List.set_cons_zero, List.set_cons_succ, sArgs_e, aCons_e, aNil_e, l0, nIf_e, cBin_e, eq_ss, nb.1, nb.2.1, nb.2.2, unB_bl, Bool.false_eq_true, if_false, nNext_e, nExpr_e, sCall_e, fi, add_ii, i10, List.length_cons, List.length_nil, if_true, and_self, s0, l1, decide_true, sMtL_e, m1, c1, t1, q1, s1, i2, s2, m3, t2, s3, nAsg_e, l3, t3, s4, asg_nx, outOf_nx]
theorem cut_mid {a b c : Val} : cutW [a, b, c] (some 1) (some (-1)) = [b] := by
  show (List.take _ (List.drop _ [a, b, c])) = _
  have e1 : HT.sIx [a, b, c].length 0 (some 1) = 1 := (by decide : HT.sIx 3 0 (some 1) = 1)
  have e2 : HT.sIx [a, b, c].length [a, b, c].length (some (-1)) = 2 := (by decide : HT.sIx 3 3 (some (-1)) = 2)
  rw [e1, e2]
  rfl
theorem cut_two {a b : Val} : cutW [a, b] (some 1) (some (-1)) = [] := by
  show (List.take _ (List.drop _ [a, b])) = _
  have e1 : HT.sIx [a, b].length 0 (some 1) = 1 := (by decide : HT.sIx 2 0 (some 1) = 1)
  have e2 : HT.sIx [a, b].length [a, b].length (some (-1)) = 1 := (by decide : HT.sIx 2 2 (some (-1)) = 1)
  rw [e1, e2]
  rfl
theorem eo_set {v : Vl} {x : Str} (o : v.okB = true) (d : v.dep ≤ 5) : EOok (F__law_emit_one (m + 1)) (.set x v) := by
  intro q xs h y e l
  have l' : xs.length + (sz (.str "set") + 2 + (sz (.str x) + 2 + (sz v.val + 2 + 0)) + 3) ≤ 3000000 := l
  have rv := rows_sz v
  have L0 := hq_at e
  have SS' := hq_set (h := h) (q := q)
  have i0 : ∀ g, bIx (Sy.val (.set x v)) (.int 0) g = .ok (.str "set") g := fun _ => ix_t0
  have i11 : ∀ g, bIx (Sy.val (.set x v)) (.int (1 + 1)) g = .ok v.val g := fun _ => ix_t2
  have ln := fun L => len_r (L0 L)
  have s0 := ev_emv 8 v o (by omega) q xs (hq h q xs) (L0 xs) (by omega)
  rw [SS'] at s0
  have nb : decide (("set" : Str) = "try") = false ∧ decide (("set" : Str) = "if") = false ∧ decide (("set" : Str) = "while") = false := by decide +kernel
  have fi : ∀ g, fInt [.bl true] g = .ok (.int 1) g := fun _ => rfl
  have l0 := ln xs
  have l1 := ln (xs ++ v.rows)
  have n1 : (xs ++ v.rows).length = xs.length + v.rows.length := List.length_append
  rw [n1] at l1
  have s1 := app_q (y := setV x) (L0 (xs ++ v.rows)) (by rw [n1]; omega)
  rw [SS'] at s1
  have t1 : ∀ g, fTup [.str "set"] g = .ok (.tup [.str "set"]) g := fun g => tupV (by simp)
  have sl : ∀ g, bSl (Sy.val (.set x v)) (some 1) (some (-1)) g = .ok (.tup [.str x]) g := fun g => by
    show Out.ok (Val.tup (cutW [.str "set", .str x, v.val] (some 1) (some (-1)))) g = _
    rw [cut_mid]
  have ng : ∀ g, uNeg (.int 1) g = .ok (.int (-1)) g := fun _ => rfl
  have ad : ∀ g, bAdd (.tup [.str "set"]) (.tup [.str x]) g = .ok (setV x) g := fun g => add_tt (by simp)
  have fin : xs ++ Sy.rows (.set x v) xs.length = xs ++ v.rows ++ [setV x] := by
    rw [List.append_assoc]; rfl
  rw [fin, e__law_emit_one]
  have m1 := mtL_r (f := mApp) (ra := aCons (sBin bAdd (sArgs fTup (aCons (sVar 2) aNil)) (sSl (sVar 1) (oSome (sC (.int 1))) (oSome (sUn uNeg (sC (.int 1)))))) aNil) (ro := [some (.ref q), some (Sy.val (.set x v)), some (.str "set"), some (.int (xs.length : Nat)), some (.int (xs.length + v.rows.length : Nat)), none]) (L0 (xs ++ v.rows))
  generalize Sy.val (.set x v) = w at i0 i11 sl m1
  simp -implicitDefEqProofs only [m__law_emit_one, nSeq_e, nSet_e, sBin_e, sVar_s, sVar_0, sVar_1, sVar_2, sC_e, ob_ok, i0, sb_ok, sq_nx, List.set_cons_zero, List.set_cons_succ, sArgs_e, aCons_e, aNil_e, l0, nIf_e, cBin_e, eq_ss, nb.1, nb.2.1, nb.2.2, unB_bl, Bool.false_eq_true, if_false, nNext_e, nExpr_e, sCall_e, decide_true, fi, add_ii, i11, List.length_cons, List.length_nil, if_true, and_self, s0, l1, sMtL_e, m1, t1, sSl_e, oSome_e, unI_i, sUn_e, ng, sl, ad, s1, outOf_nx]
theorem eo_plain {v : Vl} {k : Str} (hk : k ∈ PLAIN) (o : v.okB = true) (d : v.dep ≤ 5) : EOok (F__law_emit_one (m + 1)) (.plain k v) := by
  intro q xs h y e l
  have l' : xs.length + (sz (.str k) + 2 + (sz v.val + 2 + 0) + 3) ≤ 3000000 := l
  have rv := rows_sz v
  have L0 := hq_at e
  have SS' := hq_set (h := h) (q := q)
  have i0 : ∀ g, bIx (Sy.val (.plain k v)) (.int 0) g = .ok (.str k) g := fun _ => ix_t0
  have i10 : ∀ g, bIx (Sy.val (.plain k v)) (.int (1 + 0)) g = .ok v.val g := fun _ => ix_t1
  have ln := fun L => len_r (L0 L)
  have s0 := ev_emv 8 v o (by omega) q xs (hq h q xs) (L0 xs) (by omega)
  rw [SS'] at s0
  have key : ∀ z ∈ PLAIN, decide (z = "try") = false ∧ decide (z = "set") = false ∧ decide (z = "if") = false ∧ decide (z = "while") = false := by decide +kernel
  obtain ⟨nb1, nb2, nb3, nb4⟩ := key k hk
  have fi : ∀ g, fInt [.bl false] g = .ok (.int 0) g := fun _ => rfl
  have l0 := ln xs
  have l1 := ln (xs ++ v.rows)
  have n1 : (xs ++ v.rows).length = xs.length + v.rows.length := List.length_append
  rw [n1] at l1
  have s1 := app_q (y := .tup [.str k]) (L0 (xs ++ v.rows)) (by rw [n1]; omega)
  rw [SS'] at s1
  have t1 : ∀ g, fTup [.str k] g = .ok (.tup [.str k]) g := fun g => tupV (by simp)
  have sl : ∀ g, bSl (Sy.val (.plain k v)) (some 1) (some (-1)) g = .ok (.tup []) g := fun g => by
    show Out.ok (Val.tup (cutW [.str k, v.val] (some 1) (some (-1)))) g = _
    rw [cut_two]
  have ng : ∀ g, uNeg (.int 1) g = .ok (.int (-1)) g := fun _ => rfl
  have ad : ∀ g, bAdd (.tup [.str k]) (.tup []) g = .ok (.tup [.str k]) g := fun g => add_tt (by simp)
  have fin : xs ++ Sy.rows (.plain k v) xs.length = xs ++ v.rows ++ [.tup [.str k]] := by
    rw [List.append_assoc]; rfl
  rw [fin, e__law_emit_one]
  have m1 := mtL_r (f := mApp) (ra := aCons (sBin bAdd (sArgs fTup (aCons (sVar 2) aNil)) (sSl (sVar 1) (oSome (sC (.int 1))) (oSome (sUn uNeg (sC (.int 1)))))) aNil) (ro := [some (.ref q), some (Sy.val (.plain k v)), some (.str k), some (.int (xs.length : Nat)), some (.int (xs.length + v.rows.length : Nat)), none]) (L0 (xs ++ v.rows))
  generalize Sy.val (.plain k v) = w at i0 i10 sl m1
  simp -implicitDefEqProofs only [m__law_emit_one, nSeq_e, nSet_e, sBin_e, sVar_s, sVar_0, sVar_1, sVar_2, sC_e, ob_ok, i0, sb_ok, sq_nx, List.set_cons_zero, List.set_cons_succ, sArgs_e, aCons_e, aNil_e, l0, nIf_e, cBin_e, eq_ss, nb1, nb2, nb3, nb4, unB_bl, Bool.false_eq_true, if_false, nNext_e, nExpr_e, sCall_e, fi, add_ii, i10, List.length_cons, List.length_nil, if_true, and_self, s0, l1, sMtL_e, m1, t1, sSl_e, oSome_e, unI_i, sUn_e, ng, sl, ad, s1, outOf_nx]
end
end K08
set_option Elab.async false
set_option maxRecDepth 100000
set_option linter.unusedVariables false
set_option linter.unusedSimpArgs false
namespace K08
open PySem PySem.Spec PyProof.Rows L2 Z
/-! ### sayings, one behind another -/
def eBody (m : Nat) : SS := (nSeq (nExpr (sCall (F__law_emit_one m) 2 0 2 (fun ws _ => ws) (aCons (sVar 0) (aCons (sVar 2) aNil)) aNil)) nNext)
theorem emit_is (m : Nat) : m__law_emit (F__law_emit_one m) (F__law_emit m) = (nSeq (nFor (iVal (sVar 1)) (gNm 2) (eBody m)) nNext) := rfl
theorem e_loop {m q : Nat} {all : List Sy} {a1 : Option Val} {h : HH} {x : Ob} (e : h[q]? = some x) (eo : ∀ s ∈ all, EOok (F__law_emit_one m) s) : ∀ (ss : List Sy) (j : Nat) (xs : List Val) (a2 : Option Val), all.drop j = ss → xs.length + szs (sls ss) ≤ 3000000 →
    ∃ a2', turns (gNm 2) (eBody m) (.st (sls all)) ss.length j [some (.ref q), a1, a2] (hq h q xs) = .go .nx [some (.ref q), a1, a2'] (hq h q (xs ++ srs ss xs.length))
  | [], j, xs, a2, ed, l => by
    have lj : all.length ≤ j := by
      have := congrArg List.length ed
      rw [List.length_drop] at this
      simp at this
      omega
    refine ⟨a2, ?_⟩
    have f : xs ++ srs [] xs.length = xs := List.append_nil xs
    rw [f]
    exact turn_end (by rw [nxt_st, sls_none lj])
  | s :: ss, j, xs, a2, ed, l => by
    have es : all[j]? = some s := by
      have := congrArg (fun l => l[0]?) ed
      simpa using this
    have ed' : all.drop (j + 1) = ss := by
      have := congrArg List.tail ed
      simpa using this
    have l' : xs.length + (sz s.val + 2 + szs (sls ss)) ≤ 3000000 := l
    have g := eo s (List.mem_of_getElem? es) q xs h x e (by omega)
    have rz := srow_sz s xs.length
    obtain ⟨a2', ih⟩ := e_loop e eo ss (j + 1) (xs ++ s.rows xs.length) (some s.val) ed' (by rw [List.length_append]; omega)
    refine ⟨a2', ?_⟩
    have bd : eBody m [some (.ref q), a1, some s.val] (hq h q xs) = .go .nx [some (.ref q), a1, some s.val] (hq h q (xs ++ s.rows xs.length)) := by
      simp -implicitDefEqProofs only [eBody, nSeq_e, nExpr_e, sCall_e, aCons_e, sVar_0, sVar_2, aNil_e, ob_ok, List.length_cons, List.length_nil, if_true, and_self, g, sb_ok, sq_nx, nNext_e]
    rw [List.length_cons, turn_nx (w := s.val) (ro1 := [some (.ref q), a1, some s.val]) (by rw [nxt_st, sls_get es]) rfl bd, ih, List.length_append, List.append_assoc]
    rfl
theorem ev_em {w : Nat} (w5 : w ≤ 5) (m : Nat) (ws : List Sy) (o : sos w ws = true) (l : 2 * sds ws + 1 ≤ m) : EMok (F__law_emit m) ws := by
  match m, l with
  | m + 1, l =>
    intro q xs h x e lx
    have eo : ∀ s ∈ ws, EOok (F__law_emit_one m) s := by
      intro s hs
      have os := sos_mem o hs
      have ds := sds_le hs
      have dp : 1 ≤ s.dep := by cases s <;> first | exact Nat.le_refl 1 | (unfold Sy.dep; omega)
      match m, l with
      | 0, l => exact absurd l (by omega)
      | m + 1, l =>
        cases s with
        | set x v =>
          have o' : (shortB x && (v.okB && decide (v.dep ≤ w))) = true := os
          rw [Bool.and_eq_true, Bool.and_eq_true, decide_eq_true_eq] at o'
          exact eo_set o'.2.1 (by omega)
        | plain k v =>
          have o' : (decide (k ∈ PLAIN) && (v.okB && decide (v.dep ≤ w))) = true := os
          rw [Bool.and_eq_true, Bool.and_eq_true, decide_eq_true_eq, decide_eq_true_eq] at o'
          exact eo_plain o'.1 o'.2.1 (by omega)
        | iff v a b =>
          have o' : (v.okB && (decide (v.dep ≤ w) && (decide (a.length ≤ 6) && (decide (b.length ≤ 6) && (sos w a && sos w b))))) = true := os
          simp only [Bool.and_eq_true, decide_eq_true_eq] at o'
          obtain ⟨o1, o2, o3, o4, o5, o6⟩ := o'
          have d' : 1 + max (sds a) (sds b) ≤ sds ws := ds
          exact eo_if o1 (by omega) (ev_em w5 m a o5 (by omega)) (ev_em w5 m b o6 (by omega))
        | whl v a =>
          have o' : (v.okB && (decide (v.dep ≤ w) && (decide (a.length ≤ 6) && sos w a))) = true := os
          simp only [Bool.and_eq_true, decide_eq_true_eq] at o'
          obtain ⟨o1, o2, o3, o5⟩ := o'
          have d' : 1 + sds a ≤ sds ws := ds
          exact eo_while o1 (by omega) (ev_em w5 m a o5 (by omega))
        | tri a x b =>
          have o' : (shortB x && (decide (a.length ≤ 6) && (decide (b.length ≤ 6) && (sos w a && sos w b)))) = true := os
          simp only [Bool.and_eq_true, decide_eq_true_eq] at o'
          obtain ⟨o1, o3, o4, o5, o6⟩ := o'
          have d' : 1 + max (sds a) (sds b) ≤ sds ws := ds
          exact eo_try (ev_em w5 m a o5 (by omega)) (ev_em w5 m b o6 (by omega))
    obtain ⟨a2, el⟩ := e_loop (a1 := some (.tup (sls ws))) e eo ws 0 xs none rfl lx
    have sl := sls_len ws
    rw [e__law_emit, emit_is]
    simp -implicitDefEqProofs only [nSeq_e, nFor_e, iVal_e, sVar_1, ob_ok, itmV_tup, sl, sb_ok, el, sq_nx, nNext_e, outOf_nx]
termination_by m
decreasing_by all_goals omega
def ENDS : List Val := [.tup [.str "put", .int 0], .tup [.str "back"]]
def rowsW (ws : List Sy) : List Val := srs ws 0 ++ ENDS
theorem rowsW_len (ws : List Sy) : (rowsW ws).length = (srs ws 0).length + 2 := by unfold rowsW; rw [List.length_append]; rfl
theorem hq_self {h : HH} {q : Nat} {L : List Val} (e : h[q]? = some (.lst L)) : hq h q L = h := by
  obtain ⟨l1, l2⟩ := List.getElem?_eq_some_iff.mp e
  unfold hq
  rw [← l2]
  exact List.set_getElem_self l1
/-- good sayings of a part -/
structure Ws (ws : List Sy) : Prop where
  o : sos 5 ws = true
  d : sds ws ≤ 11
  z : szs (sls ws) ≤ 2900000
theorem ev_lrows {ws : List Sy} {h : HH} (g : Ws ws) : ∃ h', F__law_rows [.tup (sls ws)] h = .ok (.tup (rowsW ws)) h' ∧ KB h.length h h' := by
  have nw : fNew [] h = .ok (.ref h.length) (h ++ [.lst []]) := fNew_ok (by simp)
  have e0 : (h ++ [Ob.lst []])[h.length]? = some (.lst []) := List.getElem?_concat_length
  have hqe : hq (h ++ [.lst []]) h.length [] = h ++ [.lst []] := hq_self e0
  have em := ev_em (Nat.le_refl 5) 24 ws g.o (by have := g.d; omega) h.length [] (h ++ [.lst []]) (.lst []) e0 (by have := g.z; simp; omega)
  rw [hqe, List.nil_append] at em
  have em' : F__law_emit 24 [.ref h.length, .tup (sls ws)] (h ++ [.lst []]) = .ok .non (hq (h ++ [.lst []]) h.length (srs ws 0)) := em
  have e1 := hq_at e0 (srs ws 0)
  have rz := srs_sz ws 0
  have l1 : ∀ g, fLst ENDS g = .ok (.lst ENDS) g := fun g => lstV (by simp [ENDS])
  have l1' : ∀ g, fLst [.tup [.str "put", .int 0], .tup [.str "back"]] g = .ok (.lst ENDS) g := l1
  have t1 : ∀ g, fTup [.str "put", .int 0] g = .ok (.tup [.str "put", .int 0]) g := fun g => tupV (by simp)
  have t2 : ∀ g, fTup [.str "back"] g = .ok (.tup [.str "back"]) g := fun g => tupV (by simp)
  have ad := add_rl (ys := ENDS) e1 (by have := g.z; simp [ENDS]; omega)
  refine ⟨(h ++ [Ob.lst []]).set h.length (.lst (srs ws 0)), ?_, (KB.new (Nat.le_refl _)).trans (KB.set (x := .lst (srs ws 0)) (Nat.le_refl _))⟩
  rw [e__law_rows]
  unfold rowsW
  unfold hq at em' ad
  generalize h.length = p at nw em' ad
  simp -implicitDefEqProofs only [m__law_rows, nSeq_e, nSet_e, sArgs_e, aNil_e, ob_ok, nw, sb_ok, sq_nx, List.set_cons_zero, List.set_cons_succ, nExpr_e, sCall_e, aCons_e, sVar_0, sVar_1, List.length_cons, List.length_nil, if_true, and_self, em', nRet_e, sBin_e, sC_e, t1, t2, l1', ad, fTpl_l, sq_ret, outOf_ret]
/-! ### trees' parts -/
structure Pt where
  nm : Str
  ns : List Str
  ws : List Sy
def Pt.val (p : Pt) : Val := .tup [.str p.nm, .tup (p.ns.map Val.str), .tup (sls p.ws)]
def Pt.made (p : Pt) : Val := .tup [.str p.nm, .tup (p.ns.map Val.str), .tup (rowsW p.ws)]
def trV (ps : List Pt) : Val := .tup (ps.map Pt.val)
/-- the first part that is too long -/
def long1 : List Pt → Option Nat
  | [] => none
  | p :: r => if 60 < (rowsW p.ws).length then some (rowsW p.ws).length else long1 r
def dueV (ps : List Pt) : Val := match long1 ps with
  | some n => .int (n : Nat)
  | none => .tup (ps.map Pt.made)
def dBody : SS := (nSeq (nSet 5 (sCall F__law_rows 1 0 1 (fun ws _ => ws) (aCons (sVar 4) aNil) aNil)) (nSeq (nIf (cBin (bOrd fun i j => decide (j < i)) (sArgs fLen (aCons (sVar 5) aNil)) (sC (.int 60))) (nSeq (nRet (sArgs fLen (aCons (sVar 5) aNil))) nNext) nNext) (nSeq (nExpr (sMtL mApp (sVar 1) (aCons (sArgs fTup (aCons (sVar 2) (aCons (sVar 3) (aCons (sVar 5) aNil)))) aNil))) nNext)))
def g3 : GM := gTp 3 (gsCons (gNm 2) (gsCons (gNm 3) (gsCons (gNm 4) gsNil)))
theorem due_is : m__law_due = (nSeq (nSet 1 (sArgs fNew aNil)) (nSeq (nFor (iVal (sVar 0)) g3 dBody) (nSeq (nRet (sArgs fTpl (aCons (sVar 1) aNil))) nNext))) := rfl
theorem due_loop {q : Nat} {all : List Pt} {a0 : Option Val} (gw : ∀ p ∈ all, Ws p.ws) : ∀ (ps : List Pt) (j : Nat) (acc : List Val) (h : HH) (a2 a3 a4 a5 : Option Val), all.drop j = ps → h[q]? = some (.lst acc) → acc.length + ps.length ≤ 1000 →
    ∃ b2 b3 b4 b5 h', KB q h h' ∧ (match long1 ps with
      | some n => turns g3 dBody (.st (all.map Pt.val)) ps.length j [a0, some (.ref q), a2, a3, a4, a5] h = .go (.ret (.int (n : Nat))) [a0, some (.ref q), b2, b3, b4, b5] h'
      | none => turns g3 dBody (.st (all.map Pt.val)) ps.length j [a0, some (.ref q), a2, a3, a4, a5] h = .go .nx [a0, some (.ref q), b2, b3, b4, b5] h' ∧ h'[q]? = some (.lst (acc ++ ps.map Pt.made)))
  | [], j, acc, h, a2, a3, a4, a5, ed, e, l => by
    have lj : all.length ≤ j := by
      have := congrArg List.length ed
      rw [List.length_drop] at this
      simp at this
      omega
    refine ⟨a2, a3, a4, a5, h, KB.refl _ _, turn_end ?_, by rw [e]; simp⟩
    rw [nxt_st, List.getElem?_eq_none (by rw [List.length_map]; exact lj)]
  | p :: ps, j, acc, h, a2, a3, a4, a5, ed, e, l => by
    have es : all[j]? = some p := by
      have := congrArg (fun l => l[0]?) ed
      simpa using this
    have ed' : all.drop (j + 1) = ps := by
      have := congrArg List.tail ed
      simpa using this
    rw [List.length_cons] at l
    obtain ⟨h1, e1, k1⟩ := ev_lrows (h := h) (gw p (List.mem_of_getElem? es))
    have ql := lt_of_at e
    have e' := k1.at ql e
    have nx : nxt (.st (all.map Pt.val)) j h = some (some p.val) := by rw [nxt_st, List.getElem?_map, es]; rfl
    have tg : g3 p.val [a0, some (.ref q), a2, a3, a4, a5] h = .go .nx [a0, some (.ref q), some (.str p.nm), some (.tup (p.ns.map Val.str)), some (.tup (sls p.ws)), a5] h := rfl
    have ll : fLen [.tup (rowsW p.ws)] h1 = .ok (.int ((rowsW p.ws).length : Nat)) h1 := len_tup
    unfold long1
    by_cases c : 60 < (rowsW p.ws).length
    · rw [if_pos c]
      have c' : decide ((60 : Int) < ((rowsW p.ws).length : Nat)) = true := decide_eq_true (by omega)
      refine ⟨some (.str p.nm), some (.tup (p.ns.map Val.str)), some (.tup (sls p.ws)), some (.tup (rowsW p.ws)), h1, k1.low (Nat.le_of_lt ql), ?_⟩
      refine turn_ret nx tg ?_
      simp -implicitDefEqProofs only [dBody, nSeq_e, nSet_e, sCall_e, aCons_e, sVar_s, sVar_0, aNil_e, ob_ok, List.length_cons, List.length_nil, if_true, and_self, e1, sb_ok, sq_nx, List.set_cons_zero, List.set_cons_succ, nIf_e, cBin_e, sArgs_e, ll, sC_e, bOrd_e, c', unB_bl, nRet_e, sq_ret]
    · rw [if_neg c]
      have c' : decide ((60 : Int) < ((rowsW p.ws).length : Nat)) = false := decide_eq_false (by omega)
      have m0 := mtL_r (f := mApp) (ra := aCons (sArgs fTup (aCons (sVar 2) (aCons (sVar 3) (aCons (sVar 5) aNil)))) aNil) (ro := [a0, some (.ref q), some (.str p.nm), some (.tup (p.ns.map Val.str)), some (.tup (sls p.ws)), some (.tup (rowsW p.ws))]) e'
      have tm : fTup [.str p.nm, .tup (p.ns.map Val.str), .tup (rowsW p.ws)] h1 = .ok p.made h1 := tupV (by simp)
      have ap := app_q (y := p.made) e' (by omega)
      have e2 : (h1.set q (.lst (acc ++ [p.made])))[q]? = some (.lst (acc ++ [p.made])) := set_get e'
      have bd : dBody [a0, some (.ref q), some (.str p.nm), some (.tup (p.ns.map Val.str)), some (.tup (sls p.ws)), a5] h = .go .nx [a0, some (.ref q), some (.str p.nm), some (.tup (p.ns.map Val.str)), some (.tup (sls p.ws)), some (.tup (rowsW p.ws))] (h1.set q (.lst (acc ++ [p.made]))) := by
        simp -implicitDefEqProofs only [dBody, nSeq_e, nSet_e, sCall_e, aCons_e, sVar_s, sVar_0, sVar_1, sVar_2, aNil_e, ob_ok, List.length_cons, List.length_nil, if_true, and_self, e1, sb_ok, sq_nx, List.set_cons_zero, List.set_cons_succ, nIf_e, cBin_e, sArgs_e, ll, sC_e, bOrd_e, c', unB_bl, Bool.false_eq_true, if_false, nNext_e, nExpr_e, sMtL_e, m0, tm, ap]
      obtain ⟨b2, b3, b4, b5, h3, k3, ih⟩ := due_loop gw ps (j + 1) (acc ++ [p.made]) _ (some (.str p.nm)) (some (.tup (p.ns.map Val.str))) (some (.tup (sls p.ws))) (some (.tup (rowsW p.ws))) ed' e2 (by rw [List.length_append, List.length_singleton]; omega)
      refine ⟨b2, b3, b4, b5, h3, (k1.low (Nat.le_of_lt ql)).trans ((KB.set (Nat.le_refl q)).trans k3), ?_⟩
      have st := turn_nx (k := ps.length) nx tg bd
      cases lg : long1 ps with
      | some n =>
        rw [lg] at ih
        exact st.trans ih
      | none =>
        rw [lg] at ih
        exact ⟨st.trans ih.1, by rw [ih.2, List.append_assoc]; rfl⟩
theorem ev_due {ps : List Pt} {h : HH} (gw : ∀ p ∈ ps, Ws p.ws) (l : ps.length ≤ 100) : ∃ h', F__law_due [trV ps] h = .ok (dueV ps) h' ∧ KB h.length h h' := by
  have nw : fNew [] h = .ok (.ref h.length) (h ++ [.lst []]) := fNew_ok (by simp)
  have e0 : (h ++ [Ob.lst []])[h.length]? = some (.lst []) := List.getElem?_concat_length
  obtain ⟨b2, b3, b4, b5, h1, k1, el⟩ := due_loop (a0 := some (trV ps)) gw ps 0 [] (h ++ [.lst []]) none none none none rfl e0 (by simp; omega)
  have im : itmV (trV ps) (h ++ [.lst []]) = .ok (.st (ps.map Pt.val), ps.length) (h ++ [.lst []]) := by
    show Out.ok (Itm.st (ps.map Pt.val), (ps.map Pt.val).length) _ = _
    rw [List.length_map]
  refine ⟨h1, ?_, (KB.new (Nat.le_refl _)).trans k1⟩
  rw [e__law_due, due_is]
  unfold dueV
  generalize h.length = p at nw el
  cases lg : long1 ps with
  | some n =>
    rw [lg] at el
    dsimp only at el
    simp -implicitDefEqProofs only [nSeq_e, nSet_e, sArgs_e, aNil_e, ob_ok, nw, sb_ok, sq_nx, List.set_cons_zero, List.set_cons_succ, nFor_e, iVal_e, sVar_0, im, el, sq_ret, outOf_ret]
  | none =>
    rw [lg] at el
    obtain ⟨el1, el2⟩ := el
    rw [List.nil_append] at el2
    have tp := tpl_r el2
    simp -implicitDefEqProofs only [nSeq_e, nSet_e, sArgs_e, aNil_e, ob_ok, nw, sb_ok, sq_nx, List.set_cons_zero, List.set_cons_succ, nFor_e, iVal_e, sVar_0, im, el1, nRet_e, aCons_e, sVar_1, tp, sq_ret, outOf_ret]
/-! ### made -/
section
variable {C_MADE C_TooLong C_rows_of_if C_rows_of_plain C_rows_of_set C_rows_of_try C_rows_of_while : Addr}
def mBody (C_MADE C_TooLong C_rows_of_if C_rows_of_plain C_rows_of_set C_rows_of_try C_rows_of_while : Addr) : SS := (nSeq (nSet 5 (sBin bAdd (sCall (F_rows_of_sayings C_MADE C_rows_of_if C_rows_of_plain C_rows_of_set C_rows_of_try C_rows_of_while 24) 2 0 2 (fun ws _ => ws) (aCons (sVar 4) (aCons (sC (.int 0)) aNil)) aNil) (sArgs fLst (aCons (sArgs fTup (aCons (sC (.str "put")) (aCons (sC (.int 0)) aNil))) (aCons (sArgs fTup (aCons (sC (.str "back")) aNil)) aNil))))) (nSeq (nIf (cBin (bOrd fun i j => decide (j < i)) (sArgs fLen (aCons (sVar 5) aNil)) (sC c_MOST_ROWS)) (nSeq (nRaiseF C_TooLong "many" (sArgs fLen (aCons (sVar 5) aNil))) nNext) nNext) (nSeq (nExpr (sMtL mApp (sVar 1) (aCons (sArgs fTup (aCons (sVar 2) (aCons (sVar 3) (aCons (sArgs fTpl (aCons (sVar 5) aNil)) aNil)))) aNil))) nNext)))
theorem made_is : m_made C_MADE C_TooLong C_rows_of_if C_rows_of_plain C_rows_of_set C_rows_of_try C_rows_of_while = (nSeq (nSet 1 (sArgs fNew aNil)) (nSeq (nFor (iVal (sVar 0)) g3 (mBody C_MADE C_TooLong C_rows_of_if C_rows_of_plain C_rows_of_set C_rows_of_try C_rows_of_while)) (nSeq (nRet (sArgs fTpl (aCons (sVar 1) aNil))) nNext))) := rfl
theorem nRaiseF_e {C : Addr} {f : Str} {m : SE} {ro : En} {h : HH} : nRaiseF C f m ro h = sbind (m ro h) ro fun w h1 => .go (.ex ⟨.ref C, [(f, w)]⟩) ro h1 := rfl
theorem made_loop (U : Unl C_rows_of_if C_rows_of_plain C_rows_of_set C_rows_of_try C_rows_of_while) {q : Nat} {all : List Pt} {a0 : Option Val} (gw : ∀ p ∈ all, Ws p.ws) : ∀ (ps : List Pt) (j : Nat) (acc : List Val) (h : HH) (a2 a3 a4 a5 : Option Val), all.drop j = ps → h[q]? = some (.lst acc) → acc.length + ps.length ≤ 1000 →
    ∃ b2 b3 b4 b5 h', KB q h h' ∧ (match long1 ps with
      | some n => turns g3 (mBody C_MADE C_TooLong C_rows_of_if C_rows_of_plain C_rows_of_set C_rows_of_try C_rows_of_while) (.st (all.map Pt.val)) ps.length j [a0, some (.ref q), a2, a3, a4, a5] h = .go (.ex ⟨.ref C_TooLong, [("many", .int (n : Nat))]⟩) [a0, some (.ref q), b2, b3, b4, b5] h'
      | none => turns g3 (mBody C_MADE C_TooLong C_rows_of_if C_rows_of_plain C_rows_of_set C_rows_of_try C_rows_of_while) (.st (all.map Pt.val)) ps.length j [a0, some (.ref q), a2, a3, a4, a5] h = .go .nx [a0, some (.ref q), b2, b3, b4, b5] h' ∧ h'[q]? = some (.lst (acc ++ ps.map Pt.made)))
  | [], j, acc, h, a2, a3, a4, a5, ed, e, l => by
    have lj : all.length ≤ j := by
      have := congrArg List.length ed
      rw [List.length_drop] at this
      simp at this
      omega
    refine ⟨a2, a3, a4, a5, h, KB.refl _ _, turn_end ?_, by rw [e]; simp⟩
    rw [nxt_st, List.getElem?_eq_none (by rw [List.length_map]; exact lj)]
  | p :: ps, j, acc, h, a2, a3, a4, a5, ed, e, l => by
    have es : all[j]? = some p := by
      have := congrArg (fun l => l[0]?) ed
      simpa using this
    have ed' : all.drop (j + 1) = ps := by
      have := congrArg List.tail ed
      simpa using this
    rw [List.length_cons] at l
    have G := gw p (List.mem_of_getElem? es)
    obtain ⟨h1, e1, q1, k1⟩ := ev_rss (C_MADE := C_MADE) U (Nat.le_refl 5) 24 p.ws G.o (by have := G.d; omega) (by have := G.z; omega) h 0
    have ql := lt_of_at e
    have e' := k1.at ql e
    have rz := srs_sz p.ws 0
    have ad := add_rl (ys := ENDS) q1 (by have := G.z; simp [ENDS]; omega)
    have ad' : bAdd (.ref h.length) (.lst ENDS) h1 = .ok (.lst (rowsW p.ws)) h1 := ad
    have l1 : ∀ g, fLst [.tup [.str "put", .int 0], .tup [.str "back"]] g = .ok (.lst ENDS) g := fun g => lstV (by simp)
    have t1 : ∀ g, fTup [.str "put", .int 0] g = .ok (.tup [.str "put", .int 0]) g := fun g => tupV (by simp)
    have t2 : ∀ g, fTup [.str "back"] g = .ok (.tup [.str "back"]) g := fun g => tupV (by simp)
    have e1' : F_rows_of_sayings C_MADE C_rows_of_if C_rows_of_plain C_rows_of_set C_rows_of_try C_rows_of_while 24 [.tup (sls p.ws), .int 0] h = .ok (.ref h.length) h1 := e1
    have nx : nxt (.st (all.map Pt.val)) j h = some (some p.val) := by rw [nxt_st, List.getElem?_map, es]; rfl
    have tg : g3 p.val [a0, some (.ref q), a2, a3, a4, a5] h = .go .nx [a0, some (.ref q), some (.str p.nm), some (.tup (p.ns.map Val.str)), some (.tup (sls p.ws)), a5] h := rfl
    have ll : fLen [.lst (rowsW p.ws)] h1 = .ok (.int ((rowsW p.ws).length : Nat)) h1 := len_lst
    have mr : c_MOST_ROWS = .int 60 := rfl
    unfold long1
    have k1q : KB q h h1 := k1.low (Nat.le_of_lt ql)
    generalize h.length = ph at e1' ad'
    by_cases c : 60 < (rowsW p.ws).length
    · rw [if_pos c]
      have c' : decide ((60 : Int) < ((rowsW p.ws).length : Nat)) = true := decide_eq_true (by omega)
      refine ⟨some (.str p.nm), some (.tup (p.ns.map Val.str)), some (.tup (sls p.ws)), some (.lst (rowsW p.ws)), h1, k1q, ?_⟩
      refine turn_ex nx tg ?_
      simp -implicitDefEqProofs only [mBody, nSeq_e, nSet_e, sBin_e, sCall_e, aCons_e, sVar_s, sVar_0, sC_e, aNil_e, ob_ok, List.length_cons, List.length_nil, if_true, and_self, e1', sArgs_e, t1, t2, l1, ad', sb_ok, sq_nx, List.set_cons_zero, List.set_cons_succ, nIf_e, cBin_e, ll, mr, bOrd_e, c', unB_bl, nRaiseF_e, sq_ex]
    · rw [if_neg c]
      have c' : decide ((60 : Int) < ((rowsW p.ws).length : Nat)) = false := decide_eq_false (by omega)
      have m0 := mtL_r (f := mApp) (ra := aCons (sArgs fTup (aCons (sVar 2) (aCons (sVar 3) (aCons (sArgs fTpl (aCons (sVar 5) aNil)) aNil)))) aNil) (ro := [a0, some (.ref q), some (.str p.nm), some (.tup (p.ns.map Val.str)), some (.tup (sls p.ws)), some (.lst (rowsW p.ws))]) e'
      have tm : fTup [.str p.nm, .tup (p.ns.map Val.str), .tup (rowsW p.ws)] h1 = .ok p.made h1 := tupV (by simp)
      have ap := app_q (y := p.made) e' (by omega)
      have e2 : (h1.set q (.lst (acc ++ [p.made])))[q]? = some (.lst (acc ++ [p.made])) := set_get e'
      have bd : mBody C_MADE C_TooLong C_rows_of_if C_rows_of_plain C_rows_of_set C_rows_of_try C_rows_of_while [a0, some (.ref q), some (.str p.nm), some (.tup (p.ns.map Val.str)), some (.tup (sls p.ws)), a5] h = .go .nx [a0, some (.ref q), some (.str p.nm), some (.tup (p.ns.map Val.str)), some (.tup (sls p.ws)), some (.lst (rowsW p.ws))] (h1.set q (.lst (acc ++ [p.made]))) := by
        simp -implicitDefEqProofs only [mBody, nSeq_e, nSet_e, sBin_e, sCall_e, aCons_e, sVar_s, sVar_0, sVar_1, sVar_2, sC_e, aNil_e, ob_ok, List.length_cons, List.length_nil, if_true, and_self, e1', sArgs_e, t1, t2, l1, ad', sb_ok, sq_nx, List.set_cons_zero, List.set_cons_succ, nIf_e, cBin_e, ll, mr, bOrd_e, c', unB_bl, Bool.false_eq_true, if_false, nNext_e, nExpr_e, sMtL_e, m0, fTpl_l, tm, ap]
      obtain ⟨b2, b3, b4, b5, h3, k3, ih⟩ := made_loop U gw ps (j + 1) (acc ++ [p.made]) _ (some (.str p.nm)) (some (.tup (p.ns.map Val.str))) (some (.tup (sls p.ws))) (some (.lst (rowsW p.ws))) ed' e2 (by rw [List.length_append, List.length_singleton]; omega)
      refine ⟨b2, b3, b4, b5, h3, k1q.trans ((KB.set (Nat.le_refl q)).trans k3), ?_⟩
      have st := turn_nx (k := ps.length) nx tg bd
      cases lg : long1 ps with
      | some n =>
        rw [lg] at ih
        exact st.trans ih
      | none =>
        rw [lg] at ih
        exact ⟨st.trans ih.1, by rw [ih.2, List.append_assoc]; rfl⟩
theorem ev_made (U : Unl C_rows_of_if C_rows_of_plain C_rows_of_set C_rows_of_try C_rows_of_while) {ps : List Pt} {h : HH} (gw : ∀ p ∈ ps, Ws p.ws) (l : ps.length ≤ 100) : ∃ h', KB h.length h h' ∧ F_made C_MADE C_TooLong C_rows_of_if C_rows_of_plain C_rows_of_set C_rows_of_try C_rows_of_while [trV ps] h = (match long1 ps with
    | some n => .ex ⟨.ref C_TooLong, [("many", .int (n : Nat))]⟩ h'
    | none => .ok (.tup (ps.map Pt.made)) h') := by
  have nw : fNew [] h = .ok (.ref h.length) (h ++ [.lst []]) := fNew_ok (by simp)
  have e0 : (h ++ [Ob.lst []])[h.length]? = some (.lst []) := List.getElem?_concat_length
  obtain ⟨b2, b3, b4, b5, h1, k1, el⟩ := made_loop (C_MADE := C_MADE) (C_TooLong := C_TooLong) U (a0 := some (trV ps)) gw ps 0 [] (h ++ [.lst []]) none none none none rfl e0 (by simp; omega)
  have im : itmV (trV ps) (h ++ [.lst []]) = .ok (.st (ps.map Pt.val), ps.length) (h ++ [.lst []]) := by
    show Out.ok (Itm.st (ps.map Pt.val), (ps.map Pt.val).length) _ = _
    rw [List.length_map]
  refine ⟨h1, (KB.new (Nat.le_refl _)).trans k1, ?_⟩
  rw [e_made, made_is]
  generalize h.length = p at nw el
  cases lg : long1 ps with
  | some n =>
    rw [lg] at el
    dsimp only at el
    simp -implicitDefEqProofs only [nSeq_e, nSet_e, sArgs_e, aNil_e, ob_ok, nw, sb_ok, sq_nx, List.set_cons_zero, List.set_cons_succ, nFor_e, iVal_e, sVar_0, im, el, sq_ex, outOf_ex]
  | none =>
    rw [lg] at el
    obtain ⟨el1, el2⟩ := el
    rw [List.nil_append] at el2
    have tp := tpl_r el2
    simp -implicitDefEqProofs only [nSeq_e, nSet_e, sArgs_e, aNil_e, ob_ok, nw, sb_ok, sq_nx, List.set_cons_zero, List.set_cons_succ, nFor_e, iVal_e, sVar_0, im, el1, nRet_e, aCons_e, sVar_1, tp, sq_ret, outOf_ret]
end
end K08
set_option Elab.async false
set_option maxRecDepth 100000
set_option linter.unusedVariables false
set_option linter.unusedSimpArgs false
namespace K08
open PySem PySem.Spec PyProof.Rows L2 Z
/-! ### how great rows and trees are -/
def rowF (r : Val) : Prop := fine 0 1 r = true ∧ sz r ≤ 190
theorem row1 {k : Str} (a : shortB k = true) : rowF (.tup [.str k]) := by
  obtain ⟨f, l⟩ := short_fine (n := 0) (d := 0) a
  refine ⟨fine_tup.mpr ⟨by simp, fun w hw => ?_⟩, ?_⟩
  · rcases List.mem_singleton.mp hw with rfl; exact f
  · show sz (.str k) + 2 + 0 + 3 ≤ 190
    omega
theorem row2s {k x : Str} (a : shortB k = true) (b : shortB x = true) : rowF (.tup [.str k, .str x]) := by
  obtain ⟨f, l⟩ := short_fine (n := 0) (d := 0) a
  obtain ⟨g, m⟩ := short_fine (n := 0) (d := 0) b
  refine ⟨fine_tup.mpr ⟨by simp, fun w hw => ?_⟩, ?_⟩
  · simp only [List.mem_cons, List.not_mem_nil, or_false] at hw
    rcases hw with rfl | rfl
    · exact f
    · exact g
  · show sz (.str k) + 2 + (sz (.str x) + 2 + 0) + 3 ≤ 190
    omega
theorem row2i {k : Str} {i : Int} (a : shortB k = true) (b : i.natAbs ≤ 10 ^ 13) : rowF (.tup [.str k, .int i]) := by
  obtain ⟨f, l⟩ := short_fine (n := 0) (d := 0) a
  have g : fine 0 0 (.int i) = true := num_fine (Nat.le_trans b (by decide))
  refine ⟨fine_tup.mpr ⟨by simp, fun w hw => ?_⟩, ?_⟩
  · simp only [List.mem_cons, List.not_mem_nil, or_false] at hw
    rcases hw with rfl | rfl
    · exact f
    · exact g
  · show sz (.str k) + 2 + (60 + 2 + 0) + 3 ≤ 190
    omega
theorem row2n {k : Str} {n : Nat} (a : shortB k = true) (b : n ≤ 10 ^ 13) : rowF (.tup [.str k, .int (n : Nat)]) := row2i a (by omega)
theorem words_short : shortB "put" = true ∧ shortB "get" = true ∧ shortB "call" = true ∧ shortB "if" = true ∧ shortB "go" = true ∧ shortB "try" = true ∧ shortB "done" = true ∧ shortB "set" = true ∧ shortB "while" = true ∧ shortB "back" = true := by decide +kernel
theorem plain_short : ∀ k ∈ PLAIN, shortB k = true := by decide +kernel
mutual
theorem vrow_fine : ∀ v : Vl, v.okB = true → ∀ r ∈ v.rows, rowF r
  | .num i, o, r, hr => by
    have o' : decide (i.natAbs ≤ 10 ^ 13) = true := o
    rcases List.mem_singleton.mp hr with rfl
    exact row2i words_short.1 (of_decide_eq_true o')
  | .nm x, o, r, hr => by
    rcases List.mem_singleton.mp hr with rfl
    exact row2s words_short.2.1 o
  | .op k a b, o, r, hr => by
    have o' : (decide (k ∈ OPSL) && (a.okB && b.okB)) = true := o
    simp only [Bool.and_eq_true, decide_eq_true_eq] at o'
    have hr' : r ∈ a.rows ++ b.rows ++ [.tup [.str k]] := hr
    rcases List.mem_append.mp hr' with h | h
    · rcases List.mem_append.mp h with h | h
      · exact vrow_fine a o'.2.1 r h
      · exact vrow_fine b o'.2.2 r h
    · rcases List.mem_singleton.mp h with rfl
      exact row1 (ops_short k o'.1).1
  | .call x ys, o, r, hr => by
    have o' : (shortB x && (decide (ys.length ≤ 3) && vos ys)) = true := o
    simp only [Bool.and_eq_true, decide_eq_true_eq] at o'
    have hr' : r ∈ vrs ys ++ [.tup [.str "call", .str x]] := hr
    rcases List.mem_append.mp hr' with h | h
    · exact vrows_fine ys o'.2.2 r h
    · rcases List.mem_singleton.mp h with rfl
      exact row2s words_short.2.2.1 o'.1
theorem vrows_fine : ∀ ys : List Vl, vos ys = true → ∀ r ∈ vrs ys, rowF r
  | [], o, r, hr => by cases hr
  | y :: ys, o, r, hr => by
    have o' : (y.okB && vos ys) = true := o
    rw [Bool.and_eq_true] at o'
    have hr' : r ∈ y.rows ++ vrs ys := hr
    rcases List.mem_append.mp hr' with h | h
    · exact vrow_fine y o'.1 r h
    · exact vrows_fine ys o'.2 r h
end
mutual
theorem srow_fine {w : Nat} : ∀ (s : Sy) (i : Nat), s.okB w = true → i + (s.rows i).length ≤ 10 ^ 13 → ∀ r ∈ s.rows i, rowF r
  | .set x v, i, o, l, r, hr => by
    have o' : (shortB x && (v.okB && decide (v.dep ≤ w))) = true := o
    simp only [Bool.and_eq_true, decide_eq_true_eq] at o'
    have hr' : r ∈ v.rows ++ [setV x] := hr
    rcases List.mem_append.mp hr' with h | h
    · exact vrow_fine v o'.2.1 r h
    · rcases List.mem_singleton.mp h with rfl
      exact row2s words_short.2.2.2.2.2.2.2.1 o'.1
  | .plain k v, i, o, l, r, hr => by
    have o' : (decide (k ∈ PLAIN) && (v.okB && decide (v.dep ≤ w))) = true := o
    simp only [Bool.and_eq_true, decide_eq_true_eq] at o'
    have hr' : r ∈ v.rows ++ [.tup [.str k]] := hr
    rcases List.mem_append.mp hr' with h | h
    · exact vrow_fine v o'.2.1 r h
    · rcases List.mem_singleton.mp h with rfl
      exact row1 (plain_short k o'.1)
  | .iff v a b, i, o, l, r, hr => by
    have o' : (v.okB && (decide (v.dep ≤ w) && (decide (a.length ≤ 6) && (decide (b.length ≤ 6) && (sos w a && sos w b))))) = true := o
    simp only [Bool.and_eq_true, decide_eq_true_eq] at o'
    obtain ⟨o1, o2, o3, o4, o5, o6⟩ := o'
    have l' : i + (v.rows ++ [ifV (i + v.rows.length + (srs b (i + v.rows.length + 1)).length + 2)] ++ srs b (i + v.rows.length + 1) ++ [goV (i + v.rows.length + (srs b (i + v.rows.length + 1)).length + 2 + (srs a (i + v.rows.length + (srs b (i + v.rows.length + 1)).length + 2)).length)] ++ srs a (i + v.rows.length + (srs b (i + v.rows.length + 1)).length + 2)).length ≤ 10 ^ 13 := l
    have hr' : r ∈ v.rows ++ [ifV (i + v.rows.length + (srs b (i + v.rows.length + 1)).length + 2)] ++ srs b (i + v.rows.length + 1) ++ [goV (i + v.rows.length + (srs b (i + v.rows.length + 1)).length + 2 + (srs a (i + v.rows.length + (srs b (i + v.rows.length + 1)).length + 2)).length)] ++ srs a (i + v.rows.length + (srs b (i + v.rows.length + 1)).length + 2) := hr
    simp only [List.length_append, List.length_singleton] at l'
    rcases List.mem_append.mp hr' with h | h
    · rcases List.mem_append.mp h with h | h
      · rcases List.mem_append.mp h with h | h
        · rcases List.mem_append.mp h with h | h
          · exact vrow_fine v o1 r h
          · rcases List.mem_singleton.mp h with rfl
            exact row2n words_short.2.2.2.1 (by omega)
        · exact srows_fine b _ o6 (by omega) r h
      · rcases List.mem_singleton.mp h with rfl
        exact row2n words_short.2.2.2.2.1 (by omega)
    · exact srows_fine a _ o5 (by omega) r h
  | .whl v a, i, o, l, r, hr => by
    have o' : (v.okB && (decide (v.dep ≤ w) && (decide (a.length ≤ 6) && sos w a))) = true := o
    simp only [Bool.and_eq_true, decide_eq_true_eq] at o'
    obtain ⟨o1, o2, o3, o5⟩ := o'
    have l' : i + (v.rows ++ [ifV (i + v.rows.length + 2), goV (i + v.rows.length + 2 + (srs a (i + v.rows.length + 2)).length + 1)] ++ srs a (i + v.rows.length + 2) ++ [goV i]).length ≤ 10 ^ 13 := l
    have hr' : r ∈ v.rows ++ [ifV (i + v.rows.length + 2), goV (i + v.rows.length + 2 + (srs a (i + v.rows.length + 2)).length + 1)] ++ srs a (i + v.rows.length + 2) ++ [goV i] := hr
    simp only [List.length_append, List.length_cons, List.length_nil] at l'
    rcases List.mem_append.mp hr' with h | h
    · rcases List.mem_append.mp h with h | h
      · rcases List.mem_append.mp h with h | h
        · exact vrow_fine v o1 r h
        · simp only [List.mem_cons, List.not_mem_nil, or_false] at h
          rcases h with rfl | rfl
          · exact row2n words_short.2.2.2.1 (by omega)
          · exact row2n words_short.2.2.2.2.1 (by omega)
      · exact srows_fine a _ o5 (by omega) r h
    · rcases List.mem_singleton.mp h with rfl
      exact row2n words_short.2.2.2.2.1 (by omega)
  | .tri a x b, i, o, l, r, hr => by
    have o' : (shortB x && (decide (a.length ≤ 6) && (decide (b.length ≤ 6) && (sos w a && sos w b)))) = true := o
    simp only [Bool.and_eq_true, decide_eq_true_eq] at o'
    obtain ⟨o1, o3, o4, o5, o6⟩ := o'
    have l' : i + ([tryV (i + (srs a (i + 1)).length + 3)] ++ srs a (i + 1) ++ [doneV, goV (i + (srs a (i + 1)).length + 3 + (1 + (srs b (i + (srs a (i + 1)).length + 3 + 1)).length))] ++ (setV x :: srs b (i + (srs a (i + 1)).length + 3 + 1))).length ≤ 10 ^ 13 := l
    have hr' : r ∈ [tryV (i + (srs a (i + 1)).length + 3)] ++ srs a (i + 1) ++ [doneV, goV (i + (srs a (i + 1)).length + 3 + (1 + (srs b (i + (srs a (i + 1)).length + 3 + 1)).length))] ++ (setV x :: srs b (i + (srs a (i + 1)).length + 3 + 1)) := hr
    simp only [List.length_append, List.length_cons, List.length_nil] at l'
    rcases List.mem_append.mp hr' with h | h
    · rcases List.mem_append.mp h with h | h
      · rcases List.mem_append.mp h with h | h
        · rcases List.mem_singleton.mp h with rfl
          exact row2n words_short.2.2.2.2.2.1 (by omega)
        · exact srows_fine a _ o5 (by omega) r h
      · simp only [List.mem_cons, List.not_mem_nil, or_false] at h
        rcases h with rfl | rfl
        · exact row1 words_short.2.2.2.2.2.2.1
        · exact row2n words_short.2.2.2.2.1 (by omega)
    · rcases List.mem_cons.mp h with rfl | h
      · exact row2s words_short.2.2.2.2.2.2.2.1 o1
      · exact srows_fine b _ o6 (by omega) r h
theorem srows_fine {w : Nat} : ∀ (ys : List Sy) (i : Nat), sos w ys = true → i + (srs ys i).length ≤ 10 ^ 13 → ∀ r ∈ srs ys i, rowF r
  | [], i, o, l, r, hr => by cases hr
  | y :: ys, i, o, l, r, hr => by
    have o' : (y.okB w && sos w ys) = true := o
    rw [Bool.and_eq_true] at o'
    have hr' : r ∈ y.rows i ++ srs ys (i + (y.rows i).length) := hr
    have l' : i + (y.rows i ++ srs ys (i + (y.rows i).length)).length ≤ 10 ^ 13 := l
    rw [List.length_append] at l'
    rcases List.mem_append.mp hr' with h | h
    · exact srow_fine y i o'.1 (by omega) r h
    · exact srows_fine ys _ o'.2 (by omega) r h
end
theorem rowsW_fine {ws : List Sy} (g : Ws ws) : ∀ r ∈ rowsW ws, rowF r := by
  intro r hr
  unfold rowsW at hr
  rcases List.mem_append.mp hr with h | h
  · exact srows_fine ws 0 g.o (by have := srs_sz ws 0; have := g.z; omega) r h
  · have h' : r ∈ [Val.tup [.str "put", .int 0], .tup [.str "back"]] := h
    simp only [List.mem_cons, List.not_mem_nil, or_false] at h'
    rcases h' with rfl | rfl
    · exact row2i words_short.1 (by decide)
    · exact row1 words_short.2.2.2.2.2.2.2.2.2
mutual
theorem sy_fine {w : Nat} (w5 : w ≤ 5) : ∀ s : Sy, s.okB w = true → fine 0 (2 * s.dep + 9) s.val = true
  | .set x v, o => by
    have o' : (shortB x && (v.okB && decide (v.dep ≤ w))) = true := o
    simp only [Bool.and_eq_true, decide_eq_true_eq] at o'
    refine (fine_tup (d := 10)).mpr ⟨by simp, fun y hy => ?_⟩
    simp only [List.mem_cons, List.not_mem_nil, or_false] at hy
    rcases hy with rfl | rfl | rfl
    · exact (short_fine words_short.2.2.2.2.2.2.2.1).1
    · exact (short_fine o'.1).1
    · exact fine_up (by omega) (val_fine v o'.2.1).1
  | .plain k v, o => by
    have o' : (decide (k ∈ PLAIN) && (v.okB && decide (v.dep ≤ w))) = true := o
    simp only [Bool.and_eq_true, decide_eq_true_eq] at o'
    refine (fine_tup (d := 10)).mpr ⟨by simp, fun y hy => ?_⟩
    simp only [List.mem_cons, List.not_mem_nil, or_false] at hy
    rcases hy with rfl | rfl
    · exact (short_fine (plain_short k o'.1)).1
    · exact fine_up (by omega) (val_fine v o'.2.1).1
  | .iff v a b, o => by
    have o' : (v.okB && (decide (v.dep ≤ w) && (decide (a.length ≤ 6) && (decide (b.length ≤ 6) && (sos w a && sos w b))))) = true := o
    simp only [Bool.and_eq_true, decide_eq_true_eq] at o'
    obtain ⟨o1, o2, o3, o4, o5, o6⟩ := o'
    have la := sls_len a
    have lb := sls_len b
    have ed : 2 * (1 + max (sds a) (sds b)) + 9 = (2 * max (sds a) (sds b) + 9 + 1) + 1 := by omega
    show fine 0 (2 * (1 + max (sds a) (sds b)) + 9) (.tup [.str "if", v.val, .tup (sls a), .tup (sls b)]) = true
    rw [ed]
    refine fine_tup.mpr ⟨by simp, fun y hy => ?_⟩
    simp only [List.mem_cons, List.not_mem_nil, or_false] at hy
    rcases hy with rfl | rfl | rfl | rfl
    · exact (short_fine words_short.2.2.2.1).1
    · exact fine_up (by omega) (val_fine v o1).1
    · exact fine_tup.mpr ⟨by omega, sys_fine w5 a o5 _ (Nat.le_max_left ..)⟩
    · exact fine_tup.mpr ⟨by omega, sys_fine w5 b o6 _ (Nat.le_max_right ..)⟩
  | .whl v a, o => by
    have o' : (v.okB && (decide (v.dep ≤ w) && (decide (a.length ≤ 6) && sos w a))) = true := o
    simp only [Bool.and_eq_true, decide_eq_true_eq] at o'
    obtain ⟨o1, o2, o3, o5⟩ := o'
    have la := sls_len a
    have ed : 2 * (1 + sds a) + 9 = (2 * sds a + 9 + 1) + 1 := by omega
    show fine 0 (2 * (1 + sds a) + 9) (.tup [.str "while", v.val, .tup (sls a)]) = true
    rw [ed]
    refine fine_tup.mpr ⟨by simp, fun y hy => ?_⟩
    simp only [List.mem_cons, List.not_mem_nil, or_false] at hy
    rcases hy with rfl | rfl | rfl
    · exact (short_fine words_short.2.2.2.2.2.2.2.2.1).1
    · exact fine_up (by omega) (val_fine v o1).1
    · exact fine_tup.mpr ⟨by omega, sys_fine w5 a o5 _ (Nat.le_refl _)⟩
  | .tri a x b, o => by
    have o' : (shortB x && (decide (a.length ≤ 6) && (decide (b.length ≤ 6) && (sos w a && sos w b)))) = true := o
    simp only [Bool.and_eq_true, decide_eq_true_eq] at o'
    obtain ⟨o1, o3, o4, o5, o6⟩ := o'
    have la := sls_len a
    have lb := sls_len b
    have ed : 2 * (1 + max (sds a) (sds b)) + 9 = (2 * max (sds a) (sds b) + 9 + 1) + 1 := by omega
    show fine 0 (2 * (1 + max (sds a) (sds b)) + 9) (.tup [.str "try", .tup (sls a), .str x, .tup (sls b)]) = true
    rw [ed]
    refine fine_tup.mpr ⟨by simp, fun y hy => ?_⟩
    simp only [List.mem_cons, List.not_mem_nil, or_false] at hy
    rcases hy with rfl | rfl | rfl | rfl
    · exact (short_fine words_short.2.2.2.2.2.1).1
    · exact fine_tup.mpr ⟨by omega, sys_fine w5 a o5 _ (Nat.le_max_left ..)⟩
    · exact (short_fine o1).1
    · exact fine_tup.mpr ⟨by omega, sys_fine w5 b o6 _ (Nat.le_max_right ..)⟩
theorem sys_fine {w : Nat} (w5 : w ≤ 5) : ∀ ys : List Sy, sos w ys = true → ∀ d, sds ys ≤ d → ∀ x ∈ sls ys, fine 0 (2 * d + 9) x = true
  | [], o, d, l, x, hx => by cases hx
  | y :: ys, o, d, l, x, hx => by
    have o' : (y.okB w && sos w ys) = true := o
    rw [Bool.and_eq_true] at o'
    have l' : max y.dep (sds ys) ≤ d := l
    have hx' : x ∈ y.val :: sls ys := hx
    rcases List.mem_cons.mp hx' with rfl | h
    · exact fine_up (by omega) (sy_fine w5 y o'.1)
    · exact sys_fine w5 ys o'.2 d (by omega) x h
end
/-- good trees -/
structure Pk (p : Pt) : Prop where
  s : shortB p.nm = true
  n : p.ns.length ≤ 3
  m : ∀ x ∈ p.ns, shortB x = true
  w : Ws p.ws
  l : p.ws.length ≤ 100
structure Tr (ps : List Pt) : Prop where
  k : ∀ p ∈ ps, Pk p
  l : ps.length ≤ 100
  z : sz (trV ps) ≤ 16000000
theorem ns_fine {p : Pt} (g : Pk p) {d : Nat} : fine 0 (d + 1) (.tup (p.ns.map Val.str)) = true ∧ sz (.tup (p.ns.map Val.str)) ≤ 255 := by
  refine ⟨fine_tup.mpr ⟨by rw [List.length_map]; have := g.n; omega, fun w hw => ?_⟩, ?_⟩
  · obtain ⟨x, hx, rfl⟩ := List.mem_map.mp hw
    exact (short_fine (g.m x hx)).1
  · have b : szs (p.ns.map Val.str) ≤ (p.ns.map Val.str).length * (82 + 2) := szs_le fun w hw => by
      obtain ⟨x, hx, rfl⟩ := List.mem_map.mp hw
      exact (short_fine (n := 0) (d := 0) (g.m x hx)).2
    show szs (p.ns.map Val.str) + 3 ≤ 255
    rw [List.length_map] at b
    have := g.n
    omega
theorem tr_fine {ps : List Pt} (t : Tr ps) : fine 0 36 (trV ps) = true := by
  refine fine_tup.mpr ⟨by rw [List.length_map]; have := t.l; omega, fun w hw => ?_⟩
  obtain ⟨p, hp, rfl⟩ := List.mem_map.mp hw
  have g := t.k p hp
  refine fine_tup.mpr ⟨by simp, fun w hw => ?_⟩
  simp only [List.mem_cons, List.not_mem_nil, or_false] at hw
  rcases hw with rfl | rfl | rfl
  · exact (short_fine g.s).1
  · exact (ns_fine g).1
  · exact fine_tup.mpr ⟨by rw [sls_len]; have := g.l; omega, fun w hw => fine_up (by omega) (sys_fine (Nat.le_refl 5) p.ws g.w.o 11 g.w.d w hw)⟩
theorem due_fine {ps : List Pt} (gk : ∀ p ∈ ps, Pk p) (l : ps.length ≤ 100) : fine 0 4 (dueV ps) = true ∧ sz (dueV ps) ≤ 2000000 := by
  unfold dueV
  have key : match long1 ps with
      | some n => n ≤ 10 ^ 13
      | none => ∀ p ∈ ps, (rowsW p.ws).length ≤ 60 := by
    clear l
    induction ps with
    | nil => exact fun p hp => by cases hp
    | cons p r ih =>
      have ih' := ih fun q hq => gk q (List.mem_cons_of_mem _ hq)
      unfold long1
      by_cases c : 60 < (rowsW p.ws).length
      · rw [if_pos c]
        have g := (gk p List.mem_cons_self).w
        have e := rowsW_len p.ws
        have e2 := srs_sz p.ws 0
        have e3 := g.z
        show (rowsW p.ws).length ≤ 10 ^ 13
        omega
      · rw [if_neg c]
        cases lg : long1 r with
        | some n => rw [lg] at ih'; exact ih'
        | none =>
          rw [lg] at ih'
          intro q hq
          rcases List.mem_cons.mp hq with rfl | h
          · omega
          · exact ih' q h
  cases lg : long1 ps with
  | some n =>
    rw [lg] at key
    refine ⟨num_fine ?_, ?_⟩
    · have : (((n : Nat) : Int)).natAbs = n := by omega
      rw [this]
      exact Nat.le_trans key (by decide)
    · show 60 ≤ 2000000
      omega
  | none =>
    rw [lg] at key
    have each : ∀ p ∈ ps, fine 0 3 p.made = true ∧ sz p.made ≤ 12000 := by
      intro p hp
      have g := gk p hp
      have k6 := key p hp
      have rf := rowsW_fine g.w
      obtain ⟨s1, s2⟩ := short_fine (n := 0) (d := 2) g.s
      obtain ⟨n1, n2⟩ := ns_fine g (d := 1)
      have b : szs (rowsW p.ws) ≤ (rowsW p.ws).length * (190 + 2) := szs_le fun w hw => (rf w hw).2
      refine ⟨fine_tup.mpr ⟨by simp, fun w hw => ?_⟩, ?_⟩
      · simp only [List.mem_cons, List.not_mem_nil, or_false] at hw
        rcases hw with rfl | rfl | rfl
        · exact s1
        · exact n1
        · exact fine_tup.mpr ⟨by omega, fun w hw => (rf w hw).1⟩
      · show sz (.str p.nm) + 2 + (sz (.tup (p.ns.map Val.str)) + 2 + (szs (rowsW p.ws) + 3 + 2 + 0)) + 3 ≤ 12000
        have : (rowsW p.ws).length * (190 + 2) ≤ 60 * 192 := Nat.mul_le_mul k6 (Nat.le_refl _)
        omega
    refine ⟨fine_tup.mpr ⟨by rw [List.length_map]; omega, fun w hw => ?_⟩, ?_⟩
    · obtain ⟨p, hp, rfl⟩ := List.mem_map.mp hw
      exact (each p hp).1
    · have b : szs (ps.map Pt.made) ≤ (ps.map Pt.made).length * (12000 + 2) := szs_le fun w hw => by
        obtain ⟨p, hp, rfl⟩ := List.mem_map.mp hw
        exact (each p hp).2
      rw [List.length_map] at b
      show szs (ps.map Pt.made) + 3 ≤ 2000000
      have : ps.length * (12000 + 2) ≤ 100 * 12002 := Nat.mul_le_mul l (Nat.le_refl _)
      omega
/-! ### what is told -/
section
variable {C_Busy C_MADE C_NoHook C_NoMark C_NoNumbers C_NoPart C_NoProgram C_NoRow C_NoText C_NoWord C_TooLong C_TooMany C_Unsound C_rows_of_if C_rows_of_plain C_rows_of_set C_rows_of_try C_rows_of_while : Addr}
theorem told_long {w : Val} {v : Val} {h h' : HH} (e : F_made C_MADE C_TooLong C_rows_of_if C_rows_of_plain C_rows_of_set C_rows_of_try C_rows_of_while [w] h = .ex ⟨.ref C_TooLong, [("many", v)]⟩ h') :
    F__law_told C_Busy C_MADE C_NoHook C_NoMark C_NoNumbers C_NoPart C_NoProgram C_NoRow C_NoText C_NoWord C_TooLong C_TooMany C_Unsound C_rows_of_if C_rows_of_plain C_rows_of_set C_rows_of_try C_rows_of_while [w] h = .ok v h' := by
  rw [e__law_told]
  unfold m__law_told
  have c1 : sCall (F_made C_MADE C_TooLong C_rows_of_if C_rows_of_plain C_rows_of_set C_rows_of_try C_rows_of_while) 1 0 1 (fun ws _ => ws) (aCons (sVar 0) aNil) aNil [some w, none, none] h = .ex ⟨.ref C_TooLong, [("many", v)]⟩ h' := by
    simp -implicitDefEqProofs only [sCall_e, aCons_e, sVar_0, aNil_e, ob_ok, List.length_cons, List.length_nil, if_true, and_self, e]
  rw [nSeq_e]
  unfold nTryM
  rw [nSeq_e, nRet_e, c1, sb_ex, sq_ex]
  dsimp only
  unfold hand
  have o1 : onlyN C_TooLong [] (.ref C_TooLong) = some true := if_pos rfl
  dsimp only
  rw [o1]
  dsimp only
  rw [uni2_e (o := .go (.ret v) [some w, none, some (.bl false)] h') ?_]
  · rfl
  · intro a dd
    have ev : exV ⟨.ref C_TooLong, [("many", v)]⟩ a dd = .exn a dd ["many"] [v] := rfl
    rw [ev]
    have ts : ∀ gs : List Addr, ∀ n : Nat, sameCs (gs.map Val.glo) (gs.map Val.glo) = true := by
      intro gs _
      induction gs with
      | nil => rfl
      | cons g gs ih =>
        show (decide (g = g) && sameCs (gs.map Val.glo) (gs.map Val.glo)) = true
        rw [ih, decide_eq_true rfl]; rfl
    have ei : exIs ⟨.ref C_TooLong, [("many", v)]⟩ a dd (.exn a dd ["many"] [v]) = true := by
      show (decide (a = a) && (decide (dd = dd) && !false)) = true
      rw [decide_eq_true rfl, decide_eq_true rfl]; rfl
    have f1 : ∀ (cs : List Addr) (b : Bool), fIsX ⟨.ref C_TooLong, [("many", v)]⟩ a dd (cs.map Val.glo) b [.exn a dd ["many"] [v], .tup (cs.map Val.glo)] h' = .ok (.bl b) h' := fun cs b => if_pos ⟨ei, ts cs 0⟩
    have f2 : fIsX ⟨.ref C_TooLong, [("many", v)]⟩ a dd [.ty "OverflowError"] true [.exn a dd ["many"] [v], .ty "OverflowError"] h' = .ok (.bl true) h' := if_pos ⟨ei, by rfl⟩
    have f3 : fIsX ⟨.ref C_TooLong, [("many", v)]⟩ a dd [.glo C_Unsound] false [.exn a dd ["many"] [v], .glo C_Unsound] h' = .ok (.bl false) h' := if_pos ⟨ei, ts [C_Unsound] 0⟩
    have f0 := f1 [C_NoHook, C_NoMark, C_NoNumbers, C_NoPart, C_NoProgram, C_NoRow, C_NoText, C_NoWord, C_TooMany, C_Busy] false
    have ft : fTup [.glo C_NoHook, .glo C_NoMark, .glo C_NoNumbers, .glo C_NoPart, .glo C_NoProgram, .glo C_NoRow, .glo C_NoText, .glo C_NoWord, .glo C_TooMany, .glo C_Busy] h' = .ok (.tup [.glo C_NoHook, .glo C_NoMark, .glo C_NoNumbers, .glo C_NoPart, .glo C_NoProgram, .glo C_NoRow, .glo C_NoText, .glo C_NoWord, .glo C_TooMany, .glo C_Busy]) h' := fTup_ok (by simp)
    simp only [List.map_cons, List.map_nil] at f0
    have fd : ∀ r : En, sFld ⟨.ref C_TooLong, [("many", v)]⟩ a dd "many" (sVar 1) (some w :: some (.exn a dd ["many"] [v]) :: r) h' = .ok v h' := by
      intro r
      show bind (sVar 1 (some w :: some (.exn a dd ["many"] [v]) :: r)) _ h' = _
      rw [bind_e, sVar_1, ob_ok]
      dsimp only
      rw [if_pos ⟨rfl, rfl, rfl⟩]
      show (match lkp "many" ["many"] [v] with | some w => ret w | none => fail) h' = _
      have : lkp "many" ["many"] [v] = some v := if_pos rfl
      rw [this]
      rfl
    simp -implicitDefEqProofs only [nSeq_e, nSet_e, sArgs_e, aCons_e, sVar_1, sVar_2, List.set_cons_zero, List.set_cons_succ, ob_ok, sC_e, aNil_e, ft, f0, sb_ok, sq_nx, nRet_e, nIf_e, cOr_e, cV_e, f2, f3, tr_bl, Bool.false_eq_true, if_false, cNot_e, Bool.not_true, nNext_e, fd, sq_ret]
    all_goals rfl
theorem told_ok {w v : Val} {h h' : HH} (e : F_made C_MADE C_TooLong C_rows_of_if C_rows_of_plain C_rows_of_set C_rows_of_try C_rows_of_while [w] h = .ok v h') :
    F__law_told C_Busy C_MADE C_NoHook C_NoMark C_NoNumbers C_NoPart C_NoProgram C_NoRow C_NoText C_NoWord C_TooLong C_TooMany C_Unsound C_rows_of_if C_rows_of_plain C_rows_of_set C_rows_of_try C_rows_of_while [w] h = .ok v h' := by
  rw [e__law_told]
  unfold m__law_told
  have c1 : sCall (F_made C_MADE C_TooLong C_rows_of_if C_rows_of_plain C_rows_of_set C_rows_of_try C_rows_of_while) 1 0 1 (fun ws _ => ws) (aCons (sVar 0) aNil) aNil [some w, none, none] h = .ok v h' := by
    simp -implicitDefEqProofs only [sCall_e, aCons_e, sVar_0, aNil_e, ob_ok, List.length_cons, List.length_nil, if_true, and_self, e]
  rw [nSeq_e]
  unfold nTryM
  rw [nSeq_e, nRet_e, c1, sb_ok, sq_ret]
  rfl
theorem ev_told (U : Unl C_rows_of_if C_rows_of_plain C_rows_of_set C_rows_of_try C_rows_of_while) {ps : List Pt} {h : HH} (gw : ∀ p ∈ ps, Ws p.ws) (l : ps.length ≤ 100) :
    ∃ h', F__law_told C_Busy C_MADE C_NoHook C_NoMark C_NoNumbers C_NoPart C_NoProgram C_NoRow C_NoText C_NoWord C_TooLong C_TooMany C_Unsound C_rows_of_if C_rows_of_plain C_rows_of_set C_rows_of_try C_rows_of_while [trV ps] h = .ok (dueV ps) h' ∧ KB h.length h h' := by
  obtain ⟨h', k, e⟩ := ev_made (C_MADE := C_MADE) (C_TooLong := C_TooLong) U (h := h) gw l
  refine ⟨h', ?_, k⟩
  unfold dueV
  cases lg : long1 ps with
  | some n =>
    rw [lg] at e
    exact told_long e
  | none =>
    rw [lg] at e
    exact told_ok e
theorem ev_right (U : Unl C_rows_of_if C_rows_of_plain C_rows_of_set C_rows_of_try C_rows_of_while) {ps : List Pt} {h : HH} (t : Tr ps) :
    ∃ h', F__law_right C_Busy C_MADE C_NoHook C_NoMark C_NoNumbers C_NoPart C_NoProgram C_NoRow C_NoText C_NoWord C_TooLong C_TooMany C_Unsound C_rows_of_if C_rows_of_plain C_rows_of_set C_rows_of_try C_rows_of_while [trV ps] h = .ok (.bl true) h' ∧ KB h.length h h' := by
  have gw : ∀ p ∈ ps, Ws p.ws := fun p hp => (t.k p hp).w
  obtain ⟨h1, e1, k1⟩ := ev_due (h := h) gw t.l
  obtain ⟨f, z⟩ := due_fine t.k t.l
  have a := fine_asc 4 _ f
  have rp := fun g => ev_repr (h := g) (n := 0) (d := 4) (w := dueV ps) (by omega) (by omega) f (by omega)
  have rt := fun g => ev_repr (h := g) (n := 0) (d := 36) (w := trV ps) (by omega) (by omega) (tr_fine t) t.z
  have et := fun g => ev_told (C_Busy := C_Busy) (C_MADE := C_MADE) (C_NoHook := C_NoHook) (C_NoMark := C_NoMark) (C_NoNumbers := C_NoNumbers) (C_NoPart := C_NoPart) (C_NoProgram := C_NoProgram) (C_NoRow := C_NoRow) (C_NoText := C_NoText) (C_NoWord := C_NoWord) (C_TooLong := C_TooLong) (C_TooMany := C_TooMany) (C_Unsound := C_Unsound) U (h := g) gw t.l
  rw [e__law_right]
  unfold m__law_right
  generalize F__law_told C_Busy C_MADE C_NoHook C_NoMark C_NoNumbers C_NoPart C_NoProgram C_NoRow C_NoText C_NoWord C_TooLong C_TooMany C_Unsound C_rows_of_if C_rows_of_plain C_rows_of_set C_rows_of_try C_rows_of_while = TF at et ⊢
  generalize (toD (dueV ps)).shown = y at a rp
  generalize (toD (trV ps)).shown = x at rt
  generalize dueV ps = v at e1 et rp
  generalize trV ps = w at e1 et rt
  obtain ⟨zs, h3, e3, l3, r3, p3⟩ := lc_draw (g := gNm 3) (m := sArgs fRepr (aCons (sCall TF 1 0 1 (fun ws _ => ws) (aCons (sVar 0) aNil) aNil) aNil)) (ro := [some w, some (.str y), some (.str x), none]) (ys := nums 0 2) (fun _ g => KB h1.length h1 g) (fun _ z => z = .str y) (fun i u g e p => by
    obtain ⟨g', e', k'⟩ := et g
    refine ⟨[some w, some (.str y), some (.str x), some u], .str y, g', rfl, ?_, rfl, p.trans (k'.low (p.len (Nat.le_refl _)))⟩
    simp -implicitDefEqProofs only [sArgs_e, sCall_e, aCons_e, sVar_0, aNil_e, ob_ok, List.length_cons, List.length_nil, if_true, and_self, e', rp]) 2 0 [] h1 rfl (KB.refl _ _)
  have ez : zs = [.str y, .str y] := by
    match zs, l3, r3 with
    | [a, b], _, r3 => rw [r3 0 a rfl, r3 1 b rfl]
  subst ez
  rw [List.nil_append] at e3
  have wp : wipeN [some w, some (.str y), some (.str x), none] [3] = [some w, some (.str y), some (.str x), none] := rfl
  have lc : sLc (iRgN 1 (aCons (sC (.int 2)) aNil)) (gNm 3) tYesZ (sArgs fRepr (aCons (sCall TF 1 0 1 (fun ws _ => ws) (aCons (sVar 0) aNil) aNil) aNil)) [3] [some w, some (.str y), some (.str x), none] h1 = .ok (.lst [.str y, .str y]) h3 := by
    have i2 : iRgN 1 (aCons (sC (.int 2)) aNil) [some w, some (.str y), some (.str x), none] h1 = .ok (.st (nums 0 2), 2) h1 := iRg1_ev (n := 2) (m := sC (.int 2)) sC_e (by omega)
    rw [sLc_eq i2, wp, e3]
    rfl
  have fl : ∀ g, fLst [.str y, .str y] g = .ok (.lst [.str y, .str y]) g := fun g => fLst_ok (by simp)
  refine ⟨h3, ?_, k1.trans (p3.low (k1.len (Nat.le_refl _)))⟩
  simp -implicitDefEqProofs only [nSeq_e, nSet_e, sCall_e, aCons_e, sVar_s, sVar_0, sVar_1, sVar_2, aNil_e, ob_ok, List.length_cons, List.length_nil, if_true, and_self, e1, sArgs_e, rp, rt, sb_ok, sq_nx, List.set_cons_zero, List.set_cons_succ, nRet_e, sAnd_e, sBin_e, lc, fl, two_eq (asc_ok a), tr_bl, eq_ss, decide_true, sq_ret, outOf_ret]
end
end K08
set_option Elab.async false
set_option maxRecDepth 100000
set_option linter.unusedVariables false
set_option linter.unusedSimpArgs false
namespace K08
open PySem PySem.Spec PyProof.Rows L2 Z
/-! ### trees made short -/
theorem sos_of {w : Nat} : ∀ {ys : List Sy}, (∀ s ∈ ys, s.okB w = true) → sos w ys = true
  | [], _ => rfl
  | y :: ys, h => by
    show (y.okB w && sos w ys) = true
    rw [h y List.mem_cons_self, sos_of fun s hs => h s (List.mem_cons_of_mem _ hs)]
    rfl
theorem sds_of {d : Nat} : ∀ {ys : List Sy}, (∀ s ∈ ys, s.dep ≤ d) → sds ys ≤ d
  | [], _ => Nat.zero_le _
  | y :: ys, h => by
    show max y.dep (sds ys) ≤ d
    have a := h y List.mem_cons_self
    have b := sds_of (d := d) fun s hs => h s (List.mem_cons_of_mem _ hs)
    omega
theorem sls_take (n : Nat) : ∀ ys : List Sy, sls (ys.take n) = (sls ys).take n := by
  induction n with
  | zero => intro ys; rfl
  | succ n ih =>
    intro ys
    cases ys with
    | nil => rfl
    | cons y r =>
      show y.val :: sls (r.take n) = y.val :: (sls r).take n
      rw [ih]
theorem cutW_but {xs : List Val} : cutW xs none (some (-1)) = xs.take (xs.length - 1) := by
  unfold cutW
  have a : HT.sIx xs.length 0 none = 0 := rfl
  have b : HT.sIx xs.length xs.length (some (-1)) = xs.length - 1 := by
    show (if (-1 : Int) < 0 then ((-1 : Int) + (xs.length : Int)).toNat else min (-1 : Int).toNat xs.length) = _
    rw [if_pos (by decide)]
    omega
  rw [a, b]
  rfl
theorem Ws.take {ws : List Sy} (g : Ws ws) (n : Nat) : Ws (ws.take n) ∧ szs (sls (ws.take n)) ≤ szs (sls ws) := by
  have z := szs_take n (sls ws)
  rw [← sls_take] at z
  have z' := g.z
  exact ⟨⟨sos_of fun s hs => sos_mem g.o (List.mem_of_mem_take hs), sds_of fun s hs => Nat.le_trans (sds_le (List.mem_of_mem_take hs)) g.d, by omega⟩, z⟩
def wCond : En → M Bool := cBin (bOrd fun i j => decide (j < i)) (sArgs fLen (aCons (sCall F__law_rows 1 0 1 (fun ws _ => ws) (aCons (sVar 4) aNil) aNil) aNil)) (sC (.int 60))
def wBody : SS := (nSeq (nSet 4 (sSl (sVar 4) oNone (oSome (sUn uNeg (sC (.int 1)))))) nNext)
def shBody : SS := (nSeq (nWhile 9 wCond wBody) (nSeq (nExpr (sMtL mApp (sVar 1) (aCons (sArgs fTup (aCons (sVar 2) (aCons (sVar 3) (aCons (sVar 4) aNil)))) aNil))) nNext))
theorem short_is : m__law_short = (nSeq (nSet 1 (sArgs fNew aNil)) (nSeq (nFor (iVal (sVar 0)) g3 shBody) (nSeq (nRet (sArgs fTpl (aCons (sVar 1) aNil))) nNext))) := rfl
theorem short_while {a0 a1 a2 a3 : Option Val} : ∀ (n : Nat) (ws : List Sy) (h : HH), ws.length + 1 ≤ n → Ws ws → ∃ (ws' : List Sy) (h' : HH), wturns wCond wBody n [a0, a1, a2, a3, some (.tup (sls ws))] h = .go .nx [a0, a1, a2, a3, some (.tup (sls ws'))] h' ∧ KB h.length h h' ∧ Ws ws' ∧ (rowsW ws').length ≤ 60 ∧ szs (sls ws') ≤ szs (sls ws) ∧ ws'.length ≤ ws.length
  | 0, ws, h, l, g => by omega
  | n + 1, ws, h, l, g => by
    obtain ⟨h1, e1, k1⟩ := ev_lrows (h := h) g
    have ll : fLen [.tup (rowsW ws)] h1 = .ok (.int ((rowsW ws).length : Nat)) h1 := len_tup
    unfold wturns
    by_cases c : 60 < (rowsW ws).length
    · have c' : decide ((60 : Int) < ((rowsW ws).length : Nat)) = true := decide_eq_true (by omega)
      have ec : wCond [a0, a1, a2, a3, some (.tup (sls ws))] h = .ok true h1 := by
        simp -implicitDefEqProofs only [wCond, cBin_e, sArgs_e, sCall_e, aCons_e, sVar_s, sVar_0, aNil_e, ob_ok, List.length_cons, List.length_nil, if_true, and_self, e1, ll, sC_e, bOrd_e, c', unB_bl]
      have eb : wBody [a0, a1, a2, a3, some (.tup (sls ws))] h1 = .go .nx [a0, a1, a2, a3, some (.tup (sls (ws.take (ws.length - 1))))] h1 := by
        simp -implicitDefEqProofs only [wBody, nSeq_e, nSet_e, sSl_e, sVar_s, sVar_0, ob_ok, oNone_e, oSome_e, sUn_e, sC_e, neg_i, unI_i, sl_t, cutW_but, sb_ok, sq_nx, List.set_cons_zero, List.set_cons_succ, nNext_e, sls_len, sls_take]
      have wp : 0 < ws.length := by
        cases ws with
        | nil => exact absurd c (by decide)
        | cons y r => simp
      have tl : (ws.take (ws.length - 1)).length = ws.length - 1 := by rw [List.length_take]; omega
      obtain ⟨g', z'⟩ := g.take (ws.length - 1)
      obtain ⟨ws', h', e2, k2, g2, r2, z2, l2⟩ := short_while (a0 := a0) (a1 := a1) (a2 := a2) (a3 := a3) n (ws.take (ws.length - 1)) h1 (by omega) g'
      refine ⟨ws', h', ?_, k1.trans (k2.low (k1.len (Nat.le_refl _))), g2, r2, by omega, by omega⟩
      rw [ec, sb_ok]
      rw [if_pos rfl, eb]
      exact e2
    · have c' : decide ((60 : Int) < ((rowsW ws).length : Nat)) = false := decide_eq_false (by omega)
      have ec : wCond [a0, a1, a2, a3, some (.tup (sls ws))] h = .ok false h1 := by
        simp -implicitDefEqProofs only [wCond, cBin_e, sArgs_e, sCall_e, aCons_e, sVar_s, sVar_0, aNil_e, ob_ok, List.length_cons, List.length_nil, if_true, and_self, e1, ll, sC_e, bOrd_e, c', unB_bl]
      refine ⟨ws, h1, ?_, k1, g, by omega, Nat.le_refl _, Nat.le_refl _⟩
      rw [ec, sb_ok, if_neg (by simp)]
theorem short_loop {q : Nat} {all : List Pt} {a0 : Option Val} (gk : ∀ p ∈ all, Pk p ∧ p.ws.length ≤ 8) : ∀ (ps : List Pt) (j : Nat) (acc : List Val) (h : HH) (a2 a3 a4 : Option Val), all.drop j = ps → h[q]? = some (.lst acc) → acc.length + ps.length ≤ 1000 →
    ∃ (qs : List Pt) (b2 b3 b4 : Option Val) (h' : HH), turns g3 shBody (.st (all.map Pt.val)) ps.length j [a0, some (.ref q), a2, a3, a4] h = .go .nx [a0, some (.ref q), b2, b3, b4] h' ∧ h'[q]? = some (.lst (acc ++ qs.map Pt.val)) ∧ KB q h h' ∧ (∀ p ∈ qs, Pk p ∧ (rowsW p.ws).length ≤ 60) ∧ qs.length = ps.length ∧ szs (qs.map Pt.val) ≤ szs (ps.map Pt.val)
  | [], j, acc, h, a2, a3, a4, ed, e, l => by
    have lj : all.length ≤ j := by
      have := congrArg List.length ed
      rw [List.length_drop] at this
      simp at this
      omega
    refine ⟨[], a2, a3, a4, h, turn_end ?_, by rw [e]; simp, KB.refl _ _, (fun p hp => nomatch hp), rfl, Nat.le_refl _⟩
    rw [nxt_st, List.getElem?_eq_none (by rw [List.length_map]; exact lj)]
  | p :: ps, j, acc, h, a2, a3, a4, ed, e, l => by
    have es : all[j]? = some p := by
      have := congrArg (fun l => l[0]?) ed
      simpa using this
    have ed' : all.drop (j + 1) = ps := by
      have := congrArg List.tail ed
      simpa using this
    rw [List.length_cons] at l
    obtain ⟨g, gl⟩ := gk p (List.mem_of_getElem? es)
    obtain ⟨ws', h1, e1, k1, g1, r1, z1, l1⟩ := short_while (a0 := a0) (a1 := some (.ref q)) (a2 := some (.str p.nm)) (a3 := some (.tup (p.ns.map Val.str))) 9 p.ws h (by omega) g.w
    have ql := lt_of_at e
    have e' := k1.at ql e
    have nx : nxt (.st (all.map Pt.val)) j h = some (some p.val) := by rw [nxt_st, List.getElem?_map, es]; rfl
    have tg : g3 p.val [a0, some (.ref q), a2, a3, a4] h = .go .nx [a0, some (.ref q), some (.str p.nm), some (.tup (p.ns.map Val.str)), some (.tup (sls p.ws))] h := rfl
    have m0 := mtL_r (f := mApp) (ra := aCons (sArgs fTup (aCons (sVar 2) (aCons (sVar 3) (aCons (sVar 4) aNil)))) aNil) (ro := [a0, some (.ref q), some (.str p.nm), some (.tup (p.ns.map Val.str)), some (.tup (sls ws'))]) e'
    have tm : fTup [.str p.nm, .tup (p.ns.map Val.str), .tup (sls ws')] h1 = .ok (Pt.val ⟨p.nm, p.ns, ws'⟩) h1 := tupV (by simp)
    have ap := app_q (y := Pt.val ⟨p.nm, p.ns, ws'⟩) e' (by omega)
    have e2 : (h1.set q (.lst (acc ++ [Pt.val ⟨p.nm, p.ns, ws'⟩])))[q]? = some (.lst (acc ++ [Pt.val ⟨p.nm, p.ns, ws'⟩])) := set_get e'
    have bd : shBody [a0, some (.ref q), some (.str p.nm), some (.tup (p.ns.map Val.str)), some (.tup (sls p.ws))] h = .go .nx [a0, some (.ref q), some (.str p.nm), some (.tup (p.ns.map Val.str)), some (.tup (sls ws'))] (h1.set q (.lst (acc ++ [Pt.val ⟨p.nm, p.ns, ws'⟩]))) := by
      have e1' : nWhile 9 wCond wBody [a0, some (.ref q), some (.str p.nm), some (.tup (p.ns.map Val.str)), some (.tup (sls p.ws))] h = .go .nx [a0, some (.ref q), some (.str p.nm), some (.tup (p.ns.map Val.str)), some (.tup (sls ws'))] h1 := e1
      simp -implicitDefEqProofs only [shBody, nSeq_e, e1', sq_nx, nExpr_e, sMtL_e, sVar_s, sVar_0, sVar_1, sVar_2, ob_ok, m0, aCons_e, sArgs_e, aNil_e, tm, ap, sb_ok, nNext_e]
    obtain ⟨qs, b2, b3, b4, h3, ih, ie, k3, gq, lq, zq⟩ := short_loop gk ps (j + 1) (acc ++ [Pt.val ⟨p.nm, p.ns, ws'⟩]) _ (some (.str p.nm)) (some (.tup (p.ns.map Val.str))) (some (.tup (sls ws'))) ed' e2 (by rw [List.length_append, List.length_singleton]; omega)
    refine ⟨⟨p.nm, p.ns, ws'⟩ :: qs, b2, b3, b4, h3, (turn_nx (k := ps.length) nx tg bd).trans ih, by rw [ie, List.append_assoc]; rfl, (k1.low (Nat.le_of_lt ql)).trans ((KB.set (Nat.le_refl q)).trans k3), ?_, by rw [List.length_cons, List.length_cons, lq], ?_⟩
    · intro y hy
      rcases List.mem_cons.mp hy with rfl | hy
      · exact ⟨⟨g.s, g.n, g.m, g1, Nat.le_trans l1 g.l⟩, r1⟩
      · exact gq y hy
    · show sz (.str p.nm) + 2 + (sz (.tup (p.ns.map Val.str)) + 2 + (szs (sls ws') + 3 + 2 + 0)) + 3 + 2 + szs (qs.map Pt.val) ≤ sz (.str p.nm) + 2 + (sz (.tup (p.ns.map Val.str)) + 2 + (szs (sls p.ws) + 3 + 2 + 0)) + 3 + 2 + szs (ps.map Pt.val)
      omega
theorem long_none : ∀ {qs : List Pt}, (∀ p ∈ qs, (rowsW p.ws).length ≤ 60) → long1 qs = none
  | [], _ => rfl
  | p :: r, h => by
    unfold long1
    rw [if_neg (by have := h p List.mem_cons_self; omega)]
    exact long_none fun q hq => h q (List.mem_cons_of_mem _ hq)
theorem ev_short {ps : List Pt} {h : HH} (t : Tr ps) (l8 : ∀ p ∈ ps, p.ws.length ≤ 8) : ∃ (qs : List Pt) (h' : HH), F__law_short [trV ps] h = .ok (trV qs) h' ∧ KB h.length h h' ∧ Tr qs ∧ dueV qs = .tup (qs.map Pt.made) := by
  have nw : fNew [] h = .ok (.ref h.length) (h ++ [.lst []]) := fNew_ok (by simp)
  have e0 : (h ++ [Ob.lst []])[h.length]? = some (.lst []) := List.getElem?_concat_length
  obtain ⟨qs, b2, b3, b4, h1, el, e1, k1, gq, lq, zq⟩ := short_loop (a0 := some (trV ps)) (fun p hp => ⟨t.k p hp, l8 p hp⟩) ps 0 [] (h ++ [.lst []]) none none none rfl e0 (by have := t.l; simp; omega)
  have im : itmV (trV ps) (h ++ [.lst []]) = .ok (.st (ps.map Pt.val), ps.length) (h ++ [.lst []]) := by
    show Out.ok (Itm.st (ps.map Pt.val), (ps.map Pt.val).length) _ = _
    rw [List.length_map]
  refine ⟨qs, h1, ?_, (KB.new (Nat.le_refl _)).trans k1, ⟨fun p hp => (gq p hp).1, by have := t.l; omega, ?_⟩, ?_⟩
  · rw [e__law_short, short_is]
    rw [List.nil_append] at e1
    generalize h.length = p at nw el e1
    have tp := tpl_r e1
    simp -implicitDefEqProofs only [nSeq_e, nSet_e, sArgs_e, aNil_e, ob_ok, nw, sb_ok, sq_nx, List.set_cons_zero, List.set_cons_succ, nFor_e, iVal_e, sVar_0, im, el, nRet_e, aCons_e, sVar_1, tp, sq_ret, outOf_ret]
    rfl
  · have z := t.z
    have z' : szs (ps.map Pt.val) + 3 ≤ 16000000 := z
    show szs (qs.map Pt.val) + 3 ≤ 16000000
    omega
  · unfold dueV
    rw [long_none fun p hp => (gq p hp).2]
end K08
set_option Elab.async false
set_option maxRecDepth 100000
set_option linter.unusedVariables false
set_option linter.unusedSimpArgs false
namespace K08
open PySem PySem.Spec PyProof.Rows L2 Z
/-! ### values that are drawn -/
theorem Aft.dic {b q : Nat} {h h' : HH} {x : Ob} (A : Aft b h h') (nb : q ≠ b) (e : h[q]? = some x) : h'[q]? = some x := (A.kp.2 q (lt_of_at e) nb).trans e
theorem ten_pow {j : Nat} {h : HH} (l : j ≤ 100) : bPow (.int 10) (.int (j : Nat)) h = .ok (.int (10 ^ j)) h := pow_ii (n := 4) (by decide) (by omega)
theorem ev_worth {b : Nat} {h : HH} (B : BagK b h) : ∃ (i : Int) (h' : HH), F__law_worth [.ref b] h = .ok (.int i) h' ∧ i.natAbs ≤ 10 ^ 13 ∧ Aft b h h' := by
  obtain ⟨v, h1, t1, a1, b1, A1⟩ := ev_take (many := 8) B (by decide) (by decide)
  rw [e__law_worth]
  by_cases w0 : v < 7
  · obtain ⟨u, h2, t2, a2, b2, A2⟩ := ev_take (many := 9) A1.bag (by decide) (by decide)
    refine ⟨u - 4, h2, ?_, by omega, A1.trans A2⟩
    simp -implicitDefEqProofs only [m__law_worth, nSeq_e, nSet_e, sCall_e, aCons_e, sVar_0, sVar_1, sC_e, aNil_e, ob_ok, List.length_cons, List.length_nil, if_true, and_self, t1, sb_ok, sq_nx, List.set_cons_zero, List.set_cons_succ, nIf_e, cBin_e, bOrd_e, unB_bl, decide_eq_true w0, nRet_e, sBin_e, t2, sub_ii, sq_ret, outOf_ret]
  · have p12 := fun g => ten_pow (j := 12) (h := g) (by decide)
    have p6 := fun g => ten_pow (j := 6) (h := g) (by decide)
    have p11 := fun g => ten_pow (j := 11) (h := g) (by decide)
    have p9 := fun g => ten_pow (j := 9) (h := g) (by decide)
    obtain ⟨u, h2, t2, a2, b2, A2⟩ := ev_take (many := 10 ^ 9) A1.bag (by decide) (by decide)
    obtain ⟨x, h3, t3, a3, b3, A3⟩ := ev_take (many := 3) A2.bag (by decide) (by decide)
    obtain ⟨y, h4, t4, a4, b4, A4⟩ := ev_take (many := 2) A3.bag (by decide) (by decide)
    obtain ⟨g, hg, ix⟩ := ix_any (xs := [.int (10 ^ 12), .int (10 ^ 6), .int (10 ^ 11 + u)]) (h := h3) a3 (by simpa using b3)
    obtain ⟨s, hs, iy⟩ := ix_any (xs := [.int 1, .int (-1)]) (h := h4) a4 (by simpa using b4)
    have ll : fLst [.int (10 ^ 12), .int (10 ^ 6), .int (10 ^ 11 + u)] h2 = .ok (.lst [.int (10 ^ 12), .int (10 ^ 6), .int (10 ^ 11 + u)]) h2 := lstV (by simp)
    have lm : fLst [.int 1, .int (-1)] h3 = .ok (.lst [.int 1, .int (-1)]) h3 := lstV (by simp)
    have eg : ∃ gi : Int, g = .int gi ∧ 0 ≤ gi ∧ gi ≤ 10 ^ 12 := by
      simp only [List.mem_cons, List.not_mem_nil, or_false] at hg
      rcases hg with rfl | rfl | rfl
      · exact ⟨_, rfl, by decide, by decide⟩
      · exact ⟨_, rfl, by decide, by decide⟩
      · exact ⟨_, rfl, by omega, by omega⟩
    have es : ∃ si : Int, s = .int si ∧ (si = 1 ∨ si = -1) := by
      simp only [List.mem_cons, List.not_mem_nil, or_false] at hs
      rcases hs with rfl | rfl
      · exact ⟨_, rfl, .inl rfl⟩
      · exact ⟨_, rfl, .inr rfl⟩
    obtain ⟨gi, rfl, g0, g1⟩ := eg
    obtain ⟨si, rfl, s0⟩ := es
    have mm : bMul (.int gi) (.int si) h4 = .ok (.int (gi * si)) h4 := mul_ii (.inl ⟨by omega, by rcases s0 with rfl | rfl <;> omega⟩)
    refine ⟨gi * si, h4, ?_, by rcases s0 with rfl | rfl <;> omega, ((A1.trans A2).trans A3).trans A4⟩
    simp -implicitDefEqProofs only [m__law_worth, nSeq_e, nSet_e, sCall_e, aCons_e, sVar_s, sVar_0, sVar_1, sVar_2, sC_e, aNil_e, ob_ok, List.length_cons, List.length_nil, if_true, and_self, t1, sb_ok, sq_nx, List.set_cons_zero, List.set_cons_succ, nIf_e, cBin_e, bOrd_e, unB_bl, decide_eq_false w0, Bool.false_eq_true, if_false, nNext_e, nRet_e, sBin_e, sArgs_e, sUn_e, neg_i, show bPow (.int 10) (.int 12) h1 = .ok (.int (10 ^ 12)) h1 from p12 h1, show bPow (.int 10) (.int 6) h1 = .ok (.int (10 ^ 6)) h1 from p6 h1, show bPow (.int 10) (.int 11) h1 = .ok (.int (10 ^ 11)) h1 from p11 h1, show bPow (.int 10) (.int 9) h1 = .ok (.int (10 ^ 9)) h1 from p9 h1, t2, add_ii, ll, t3, ix, lm, t4, iy, mm, sq_ret, outOf_ret]
theorem ix_nm {v : Int} {h : HH} (h0 : 0 ≤ v) (h1 : v < 4) : ∃ x : Str, bIx (.str "nxyz") (.int v) h = .ok (.str x) h ∧ shortB x = true ∧ x.length = 1 := by
  obtain ⟨n, rfl⟩ := Int.eq_ofNat_of_zero_le h0
  have e4 : ("nxyz" : Str).cps.toList = [110, 120, 121, 122] := by decide +kernel
  have hn : n < ("nxyz" : Str).cps.toList.length := by rw [e4]; show n < 4; omega
  refine ⟨⟨#[("nxyz" : Str).cps.toList[n]]⟩, str_at (List.getElem?_eq_getElem hn) (by decide +kernel), ?_, rfl⟩
  have : ∀ c ∈ ("nxyz" : Str).cps.toList, shortB ⟨#[c]⟩ = true := by rw [e4]; decide +kernel
  exact this _ (List.getElem_mem hn)
/-- the heads: the parts' names, and how many numbers each takes -/
structure Hd (kvs : List (Key × Val)) (xs : List Str) : Prop where
  e : strKs kvs = some xs
  l : kvs.length = xs.length
  n : 0 < xs.length
  m : xs.length ≤ 6
  v : ∀ x ∈ xs, shortB x = true ∧ ∃ n : Nat, n ≤ 3 ∧ dval kvs (.inr x) = some (.int (n : Nat))
def gB : Nat → Nat
  | 0 => 61
  | n + 1 => 3 * (gB n + 2) + 136
theorem gB_low : ∀ n, 61 ≤ gB n
  | 0 => Nat.le_refl _
  | n + 1 => by
    have := gB_low n
    show 61 ≤ 3 * (gB n + 2) + 136
    omega
theorem vos_of : ∀ {ys : List Vl}, (∀ s ∈ ys, s.okB = true) → vos ys = true
  | [], _ => rfl
  | y :: ys, h => by
    show (y.okB && vos ys) = true
    rw [h y List.mem_cons_self, vos_of fun s hs => h s (List.mem_cons_of_mem _ hs)]
    rfl
theorem vds_of {d : Nat} : ∀ {ys : List Vl}, (∀ s ∈ ys, s.dep ≤ d) → vds ys ≤ d
  | [], _ => Nat.zero_le _
  | y :: ys, h => by
    show max y.dep (vds ys) ≤ d
    have a := h y List.mem_cons_self
    have b := vds_of (d := d) fun s hs => h s (List.mem_cons_of_mem _ hs)
    omega
theorem vls_of {P : Vl → Prop} : ∀ {zs : List Val}, (∀ z ∈ zs, ∃ v : Vl, z = v.val ∧ P v) → ∃ ys : List Vl, zs = vls ys ∧ ys.length = zs.length ∧ ∀ v ∈ ys, P v
  | [], _ => ⟨[], rfl, rfl, fun _ h => nomatch h⟩
  | z :: zs, h => by
    obtain ⟨v, e, p⟩ := h z List.mem_cons_self
    obtain ⟨ys, e2, l2, p2⟩ := vls_of fun z hz => h z (List.mem_cons_of_mem _ hz)
    refine ⟨v :: ys, by rw [e, e2]; rfl, by rw [List.length_cons, List.length_cons, l2], fun u hu => ?_⟩
    rcases List.mem_cons.mp hu with rfl | hu
    · exact p
    · exact p2 u hu
theorem sls_of {P : Sy → Prop} : ∀ {zs : List Val}, (∀ z ∈ zs, ∃ v : Sy, z = v.val ∧ P v) → ∃ ys : List Sy, zs = sls ys ∧ ys.length = zs.length ∧ ∀ v ∈ ys, P v
  | [], _ => ⟨[], rfl, rfl, fun _ h => nomatch h⟩
  | z :: zs, h => by
    obtain ⟨v, e, p⟩ := h z List.mem_cons_self
    obtain ⟨ys, e2, l2, p2⟩ := sls_of fun z hz => h z (List.mem_cons_of_mem _ hz)
    refine ⟨v :: ys, by rw [e, e2]; rfl, by rw [List.length_cons, List.length_cons, l2], fun u hu => ?_⟩
    rcases List.mem_cons.mp hu with rfl | hu
    · exact p
    · exact p2 u hu
theorem vls_sz {m : Nat} : ∀ {ys : List Vl}, (∀ v ∈ ys, sz v.val ≤ m) → szs (vls ys) ≤ ys.length * (m + 2)
  | [], _ => Nat.zero_le _
  | y :: ys, h => by
    have a := h y List.mem_cons_self
    have b := vls_sz (m := m) fun s hs => h s (List.mem_cons_of_mem _ hs)
    show sz y.val + 2 + szs (vls ys) ≤ (ys.length + 1) * (m + 2)
    rw [Nat.succ_mul]
    omega
theorem sls_szm {m : Nat} : ∀ {ys : List Sy}, (∀ v ∈ ys, sz v.val ≤ m) → szs (sls ys) ≤ ys.length * (m + 2)
  | [], _ => Nat.zero_le _
  | y :: ys, h => by
    have a := h y List.mem_cons_self
    have b := sls_szm (m := m) fun s hs => h s (List.mem_cons_of_mem _ hs)
    show sz y.val + 2 + szs (sls ys) ≤ (ys.length + 1) * (m + 2)
    rw [Nat.succ_mul]
    omega
def VG (w : Nat) (v : Vl) : Prop := v.okB = true ∧ v.dep ≤ w + 1 ∧ sz v.val ≤ gB w
theorem vg_nm {x : Str} {w : Nat} (a : shortB x = true) (l : x.length = 1) : VG w (.nm x) := by
  refine ⟨a, by show 1 ≤ w + 1; omega, ?_⟩
  have := gB_low w
  have s := name_short.2.2.1
  show sz (.str "name") + 2 + (10 * x.length + 2 + 2 + 0) + 3 ≤ gB w
  omega
theorem ix_strs {xs : List Str} {v : Int} {h : HH} (h0 : 0 ≤ v) (h1 : v < (xs.length : Nat)) : ∃ x ∈ xs, bIx (.lst (xs.map Val.str)) (.int v) h = .ok (.str x) h := by
  obtain ⟨w, hw, e⟩ := ix_any (xs := xs.map Val.str) (h := h) h0 (by rw [List.length_map]; exact h1)
  obtain ⟨x, hx, rfl⟩ := List.mem_map.mp hw
  exact ⟨x, hx, e⟩
theorem srt_mem {xs : List Str} {x : Str} (h : x ∈ srtS xs) : x ∈ xs := (List.mergeSort_perm xs leS).mem_iff.mp h
theorem srt_len {xs : List Str} : (srtS xs).length = xs.length := (List.mergeSort_perm xs leS).length_eq
theorem lenD_e {n : Nat} {kvs : List (Key × Val)} {h : HH} (e : h[n]? = some (.dic kvs)) : fLenD [.ref n] h = .ok (.int (kvs.length : Nat)) h := by
  unfold fLenD
  dsimp only
  rw [e]
theorem srtD_e {n : Nat} {kvs : List (Key × Val)} {xs : List Str} {h : HH} (e : h[n]? = some (.dic kvs)) (k : strKs kvs = some xs) (l : xs.length < 64) : fSrtD [.ref n] h = .ok (.lst ((srtS xs).map Val.str)) h := by
  unfold fSrtD
  dsimp only
  rw [e]
  dsimp only
  rw [k]
  dsimp only
  rw [if_pos l]
theorem dget_e {n : Nat} {kvs : List (Key × Val)} {x : Str} {w : Val} {h : HH} (e : h[n]? = some (.dic kvs)) (k : dval kvs (.inr x) = some w) : bDGet (.ref n) (.str x) h = .ok w h := by
  have ko : keyOf (.str x) = some (.inr x) := rfl
  unfold bDGet
  dsimp only
  rw [e]
  dsimp only
  rw [ko]
  dsimp only
  rw [k]
theorem ev_value {b dd : Nat} {kvs : List (Key × Val)} {xs : List Str} (hd : Hd kvs xs) (nb : dd ≠ b) : ∀ (w m : Nat) (h : HH), w < m → w ≤ 4 → BagK b h → h[dd]? = some (.dic kvs) → ∃ (v : Vl) (h' : HH), F__law_value m [.ref b, .ref dd, .int ((w + 1 : Nat) : Int)] h = .ok v.val h' ∧ VG w v ∧ Aft b h h' := by
  intro w
  induction w with
  | zero =>
    intro m h l l4 B ed
    obtain ⟨m, rfl⟩ : ∃ k, m = k + 1 := ⟨m - 1, by omega⟩
    obtain ⟨v, h1, t1, a1, b1, A1⟩ := ev_take (many := 12) B (by decide) (by decide)
    rw [e__law_value]
    by_cases w0 : v < 3
    · obtain ⟨i, h2, e2, i2, A2⟩ := ev_worth A1.bag
      refine ⟨.num i, h2, ?_, ⟨decide_eq_true i2, Nat.le_refl 1, by show 60 ≤ 61; omega⟩, A1.trans A2⟩
      simp -implicitDefEqProofs only [m__law_value, nSeq_e, nSet_e, sCall_e, aCons_e, sVar_s, sVar_0, sC_e, aNil_e, ob_ok, List.length_cons, List.length_nil, if_true, and_self, t1, sb_ok, sq_nx, List.set_cons_zero, List.set_cons_succ, nIf_e, cBin_e, bOrd_e, unB_bl, decide_eq_true w0, nRet_e, e2, sq_ret, outOf_ret]
      rfl
    · obtain ⟨u, h2, t2, a2, b2, A2⟩ := ev_take (many := 4) A1.bag (by decide) (by decide)
      obtain ⟨x, ix, sx, lx⟩ := ix_nm (h := h2) a2 b2
      have ft : fTup [.str "name", .str x] h2 = .ok (Vl.val (.nm x)) h2 := tupV (by simp)
      have c1 : decide (((0 + 1 : Nat) : Int) = 1) = true := rfl
      refine ⟨.nm x, h2, ?_, vg_nm sx lx, A1.trans A2⟩
      simp -implicitDefEqProofs only [m__law_value, nSeq_e, nSet_e, sCall_e, aCons_e, sVar_s, sVar_0, sVar_1, sVar_2, sC_e, aNil_e, ob_ok, List.length_cons, List.length_nil, if_true, and_self, t1, sb_ok, sq_nx, List.set_cons_zero, List.set_cons_succ, nIf_e, cBin_e, bOrd_e, unB_bl, decide_eq_false w0, Bool.false_eq_true, if_false, nNext_e, cOr_e, eq_ii, c1, nRet_e, sArgs_e, sBin_e, t2, ix, ft, sq_ret, outOf_ret]
  | succ w ih =>
    intro m h l l4 B ed
    obtain ⟨m, rfl⟩ : ∃ k, m = k + 1 := ⟨m - 1, by omega⟩
    obtain ⟨v, h1, t1, a1, b1, A1⟩ := ev_take (many := 12) B (by decide) (by decide)
    rw [e__law_value]
    have c1 : decide (((w + 1 + 1 : Nat) : Int) = 1) = false := decide_eq_false (by omega)
    have lo : ((w + 1 + 1 : Nat) : Int) - 1 = ((w + 1 : Nat) : Int) := by omega
    have g1 := gB_low (w + 1)
    have g0 : gB (w + 1) = 3 * (gB w + 2) + 136 := rfl
    by_cases w0 : v < 3
    · obtain ⟨i, h2, e2, i2, A2⟩ := ev_worth A1.bag
      refine ⟨.num i, h2, ?_, ⟨decide_eq_true i2, by show 1 ≤ w + 1 + 1; omega, by show 60 ≤ gB (w + 1); omega⟩, A1.trans A2⟩
      simp -implicitDefEqProofs only [m__law_value, nSeq_e, nSet_e, sCall_e, aCons_e, sVar_s, sVar_0, sC_e, aNil_e, ob_ok, List.length_cons, List.length_nil, if_true, and_self, t1, sb_ok, sq_nx, List.set_cons_zero, List.set_cons_succ, nIf_e, cBin_e, bOrd_e, unB_bl, decide_eq_true w0, nRet_e, e2, sq_ret, outOf_ret]
      rfl
    · by_cases w1 : v < 6
      · obtain ⟨u, h2, t2, a2, b2, A2⟩ := ev_take (many := 4) A1.bag (by decide) (by decide)
        obtain ⟨x, ix, sx, lx⟩ := ix_nm (h := h2) a2 b2
        have ft : fTup [.str "name", .str x] h2 = .ok (Vl.val (.nm x)) h2 := tupV (by simp)
        refine ⟨.nm x, h2, ?_, vg_nm sx lx, A1.trans A2⟩
        simp -implicitDefEqProofs only [m__law_value, nSeq_e, nSet_e, sCall_e, aCons_e, sVar_s, sVar_0, sVar_1, sVar_2, sC_e, aNil_e, ob_ok, List.length_cons, List.length_nil, if_true, and_self, t1, sb_ok, sq_nx, List.set_cons_zero, List.set_cons_succ, nIf_e, cBin_e, bOrd_e, unB_bl, decide_eq_false w0, Bool.false_eq_true, if_false, nNext_e, cOr_e, eq_ii, c1, decide_eq_true w1, nRet_e, sArgs_e, sBin_e, t2, ix, ft, sq_ret, outOf_ret]
      · by_cases w2 : v < 11
        · obtain ⟨u, h2, t2, a2, b2, A2⟩ := ev_take (many := 6) A1.bag (by decide) (by decide)
          obtain ⟨k, hk, ix⟩ := ix_strs (xs := OPSL) (h := h2) a2 b2
          have ix' : bIx (.lst [.str "add", .str "less", .str "times", .str "over", .str "same", .str "below"]) (.int u) h2 = .ok (.str k) h2 := ix
          have ll : fLst [.str "add", .str "less", .str "times", .str "over", .str "same", .str "below"] h1 = .ok (.lst [.str "add", .str "less", .str "times", .str "over", .str "same", .str "below"]) h1 := lstV (by simp)
          obtain ⟨x, h3, e3, v3, A3⟩ := ih m h2 (by omega) (by omega) A2.bag ((A1.trans A2).dic nb ed)
          obtain ⟨y, h4, e4, v4, A4⟩ := ih m h3 (by omega) (by omega) A3.bag (((A1.trans A2).trans A3).dic nb ed)
          have ft : fTup [.str k, x.val, y.val] h4 = .ok (Vl.val (.op k x y)) h4 := tupV (by simp)
          have sk := (ops_short k hk).2.2.2
          refine ⟨.op k x y, h4, ?_, ⟨?_, ?_, ?_⟩, ((A1.trans A2).trans A3).trans A4⟩
          · simp -implicitDefEqProofs only [m__law_value, nSeq_e, nSet_e, sCall_e, aCons_e, sVar_s, sVar_0, sVar_1, sVar_2, sC_e, aNil_e, ob_ok, List.length_cons, List.length_nil, if_true, and_self, t1, sb_ok, sq_nx, List.set_cons_zero, List.set_cons_succ, nIf_e, cBin_e, bOrd_e, unB_bl, decide_eq_false w0, Bool.false_eq_true, if_false, nNext_e, cOr_e, eq_ii, c1, decide_eq_false w1, decide_eq_true w2, sBin_e, sArgs_e, ll, t2, ix', sub_ii, lo, e3, e4, nRet_e, ft, sq_ret, outOf_ret]
          · show (decide (k ∈ OPSL) && (x.okB && y.okB)) = true
            rw [decide_eq_true hk, v3.1, v4.1]; rfl
          · show 1 + max x.dep y.dep ≤ w + 1 + 1
            have := v3.2.1
            have := v4.2.1
            omega
          · show sz (.str k) + 2 + (sz x.val + 2 + (sz y.val + 2 + 0)) + 3 ≤ gB (w + 1)
            have := v3.2.2
            have := v4.2.2
            omega
        · have ed1 := A1.dic nb ed
          obtain ⟨u, h2, t2, a2, b2, A2⟩ := ev_take (many := (kvs.length : Nat)) A1.bag (by have := hd.l; have := hd.n; omega) (by have := hd.l; have := hd.m; omega)
          obtain ⟨x, hx, ix⟩ := ix_strs (xs := srtS xs) (h := h2) a2 (by rw [srt_len, ← hd.l]; exact b2)
          obtain ⟨sx, n, n3, dx⟩ := hd.v x (srt_mem hx)
          have ed2 := A2.dic nb ed1
          have l1 := lenD_e ed1
          have s1 := srtD_e ed1 hd.e (by have := hd.m; omega)
          have d2 := dget_e ed2 dx
          obtain ⟨zs, h3, e3, l3, r3, p3⟩ := lc_draw (g := gNm 6) (m := sCall (F__law_value m) 3 0 3 (fun ws _ => ws) (aCons (sVar 0) (aCons (sVar 1) (aCons (sBin bSub (sVar 2) (sC (.int 1))) aNil))) aNil) (ro := [some (.ref b), some (.ref dd), some (.int ((w + 1 + 1 : Nat) : Int)), some (.int v), some (.str x), none, none]) (ys := nums 0 n) (fun _ g => Aft b h g) (fun _ z => ∃ y : Vl, z = y.val ∧ VG w y) (fun i q g eq p => by
            obtain ⟨y, g', ey, vy, Ay⟩ := ih m g (by omega) (by omega) p.bag (p.dic nb ed)
            refine ⟨[some (.ref b), some (.ref dd), some (.int ((w + 1 + 1 : Nat) : Int)), some (.int v), some (.str x), none, some q], y.val, g', rfl, ?_, ⟨y, rfl, vy⟩, p.trans Ay⟩
            simp -implicitDefEqProofs only [sCall_e, aCons_e, sVar_0, sVar_1, sVar_2, sBin_e, sC_e, sub_ii, lo, aNil_e, ob_ok, List.length_cons, List.length_nil, if_true, and_self, ey]) n 0 [] h2 (by rw [nums_len]; rfl) (A1.trans A2)
          obtain ⟨ys, ez, ly, vy⟩ := vls_of (P := VG w) (zs := zs) (fun z hz => by
            obtain ⟨j, hj⟩ := List.mem_iff_getElem?.mp hz
            exact r3 j z hj)
          subst ez
          rw [List.nil_append] at e3
          have lc : sLc (iRgN 1 (aCons (sBin bDGet (sVar 1) (sVar 4)) aNil)) (gNm 6) tYesZ (sCall (F__law_value m) 3 0 3 (fun ws _ => ws) (aCons (sVar 0) (aCons (sVar 1) (aCons (sBin bSub (sVar 2) (sC (.int 1))) aNil))) aNil) [6] [some (.ref b), some (.ref dd), some (.int ((w + 1 + 1 : Nat) : Int)), some (.int v), some (.str x), none, none] h2 = .ok (.lst (vls ys)) h3 := by
            have i2 : iRgN 1 (aCons (sBin bDGet (sVar 1) (sVar 4)) aNil) [some (.ref b), some (.ref dd), some (.int ((w + 1 + 1 : Nat) : Int)), some (.int v), some (.str x), none, none] h2 = .ok (.st (nums 0 n), n) h2 := iRg1_ev (n := n) (by simp -implicitDefEqProofs only [sBin_e, sVar_s, sVar_0, sVar_1, ob_ok, d2]) (by omega)
            have wp : wipeN [some (.ref b), some (.ref dd), some (.int ((w + 1 + 1 : Nat) : Int)), some (.int v), some (.str x), none, none] [6] = [some (.ref b), some (.ref dd), some (.int ((w + 1 + 1 : Nat) : Int)), some (.int v), some (.str x), none, none] := rfl
            rw [sLc_eq i2, wp, e3]
            rfl
          have ft : fTup [.str "call", .str x, .tup (vls ys)] h3 = .ok (Vl.val (.call x ys)) h3 := tupV (by simp)
          have ly3 : ys.length ≤ 3 := by rw [ly, l3]; exact n3
          refine ⟨.call x ys, h3, ?_, ⟨?_, ?_, ?_⟩, p3⟩
          · simp -implicitDefEqProofs only [m__law_value, nSeq_e, nSet_e, sCall_e, aCons_e, sVar_s, sVar_0, sVar_1, sVar_2, sC_e, aNil_e, ob_ok, List.length_cons, List.length_nil, if_true, and_self, t1, sb_ok, sq_nx, List.set_cons_zero, List.set_cons_succ, nIf_e, cBin_e, bOrd_e, unB_bl, decide_eq_false w0, Bool.false_eq_true, if_false, nNext_e, cOr_e, eq_ii, c1, decide_eq_false w1, decide_eq_false w2, sBin_e, sArgs_e, s1, l1, t2, ix, nRet_e, lc, fTpl_l, ft, sq_ret, outOf_ret]
          · show (shortB x && (decide (ys.length ≤ 3) && vos ys)) = true
            rw [sx, decide_eq_true ly3, vos_of fun s hs => (vy s hs).1]; rfl
          · show 1 + vds ys ≤ w + 1 + 1
            have := vds_of (d := w + 1) (ys := ys) fun s hs => (vy s hs).2.1
            omega
          · have z1 := vls_sz (m := gB w) (ys := ys) fun s hs => (vy s hs).2.2
            have z2 : ys.length * (gB w + 2) ≤ 3 * (gB w + 2) := Nat.mul_le_mul ly3 (Nat.le_refl _)
            have z3 := (short_fine (n := 0) (d := 0) sx).2
            have z4 := name_short.2.2.2
            show sz (.str "call") + 2 + (sz (.str x) + 2 + (szs (vls ys) + 3 + 2 + 0)) + 3 ≤ gB (w + 1)
            omega
end K08
set_option Elab.async false
set_option maxRecDepth 100000
set_option linter.unusedVariables false
set_option linter.unusedSimpArgs false
namespace K08
open PySem PySem.Spec PyProof.Rows L2 Z
/-! ### sayings that are drawn -/
def lS (s : Nat) : Nat := 6 * (s + 2) + 3
def sB (w : Nat) : Nat → Nat
  | 0 => gB w + 170
  | d + 1 => gB w + 94 + 2 * lS (sB w d)
theorem sB_low (w : Nat) : ∀ d, gB w + 170 ≤ sB w d
  | 0 => Nat.le_refl _
  | d + 1 => by
    have := sB_low w d
    show gB w + 170 ≤ gB w + 94 + 2 * (6 * (sB w d + 2) + 3)
    omega
def SG (w d : Nat) (s : Sy) : Prop := s.okB 5 = true ∧ s.dep ≤ d + 1 ∧ sz s.val ≤ sB w d
def LG (w d : Nat) (ws : List Sy) : Prop := ws.length ≤ 6 ∧ ∀ s ∈ ws, SG w d s
theorem LG.sz {w d : Nat} {ws : List Sy} (g : LG w d ws) : szs (sls ws) + 3 ≤ lS (sB w d) := by
  have a := sls_szm (m := sB w d) (ys := ws) fun s hs => (g.2 s hs).2.2
  have b : ws.length * (sB w d + 2) ≤ 6 * (sB w d + 2) := Nat.mul_le_mul g.1 (Nat.le_refl _)
  unfold lS
  omega
theorem LG.so {w d : Nat} {ws : List Sy} (g : LG w d ws) : sos 5 ws = true := sos_of fun s hs => (g.2 s hs).1
theorem LG.sd {w d : Nat} {ws : List Sy} (g : LG w d ws) : sds ws ≤ d + 1 := sds_of fun s hs => (g.2 s hs).2.1
def SYo (b dd : Nat) (kvs : List (Key × Val)) (w d : Nat) : Prop := ∀ (m : Nat) (h : HH), 2 * d + 1 ≤ m → BagK b h → h[dd]? = some (.dic kvs) → ∃ (s : Sy) (h' : HH), F__law_saying m [.ref b, .ref dd, .int ((d + 1 : Nat) : Int), .int ((w + 1 : Nat) : Int)] h = .ok s.val h' ∧ SG w d s ∧ Aft b h h'
def SYSo (b dd : Nat) (kvs : List (Key × Val)) (w d : Nat) : Prop := ∀ (m : Nat) (h : HH), 2 * d + 2 ≤ m → BagK b h → h[dd]? = some (.dic kvs) → ∃ (ws : List Sy) (h' : HH), F__law_sayings m [.ref b, .ref dd, .int ((d + 1 : Nat) : Int), .int ((w + 1 : Nat) : Int)] h = .ok (.tup (sls ws)) h' ∧ LG w d ws ∧ Aft b h h'
theorem sys_ok {b dd : Nat} {kvs : List (Key × Val)} {w d : Nat} (nb : dd ≠ b) (so : SYo b dd kvs w d) : SYSo b dd kvs w d := by
  intro m h l B ed
  obtain ⟨m, rfl⟩ : ∃ k, m = k + 1 := ⟨m - 1, by omega⟩
  obtain ⟨v, h1, t1, a1, b1, A1⟩ := ev_take (many := 8) B (by decide) (by decide)
  obtain ⟨g, hg, ix⟩ := ix_any (xs := [.int 4, .int 4, .int 4, .int 3, .int 3, .int 3, .int 3, .int 7]) (h := h1) a1 (by simpa using b1)
  have eg : ∃ gi : Int, g = .int gi ∧ 0 < gi ∧ gi ≤ 7 := by
    simp only [List.mem_cons, List.not_mem_nil, or_false] at hg
    rcases hg with rfl | rfl | rfl | rfl | rfl | rfl | rfl | rfl <;> exact ⟨_, rfl, by decide, by decide⟩
  obtain ⟨gi, rfl, g0, g1⟩ := eg
  obtain ⟨u, h2, t2, a2, b2, A2⟩ := ev_take (many := gi) A1.bag g0 (by omega)
  obtain ⟨n, rfl⟩ := Int.eq_ofNat_of_zero_le a2
  have ll : fLst [.int 4, .int 4, .int 4, .int 3, .int 3, .int 3, .int 3, .int 7] h = .ok (.lst [.int 4, .int 4, .int 4, .int 3, .int 3, .int 3, .int 3, .int 7]) h := lstV (by simp)
  have A12 := A1.trans A2
  obtain ⟨zs, h3, e3, l3, r3, p3⟩ := lc_draw (g := gNm 5) (m := sCall (F__law_saying m) 4 0 4 (fun ws _ => ws) (aCons (sVar 0) (aCons (sVar 1) (aCons (sVar 2) (aCons (sVar 3) aNil)))) aNil) (ro := [some (.ref b), some (.ref dd), some (.int ((d + 1 : Nat) : Int)), some (.int ((w + 1 : Nat) : Int)), some (.int (n : Nat)), none]) (ys := nums 0 n) (fun _ g => Aft b h g) (fun _ z => ∃ y : Sy, z = y.val ∧ SG w d y) (fun i q g eq p => by
    obtain ⟨y, g', ey, vy, Ay⟩ := so m g (by omega) p.bag (p.dic nb ed)
    refine ⟨[some (.ref b), some (.ref dd), some (.int ((d + 1 : Nat) : Int)), some (.int ((w + 1 : Nat) : Int)), some (.int (n : Nat)), some q], y.val, g', rfl, ?_, ⟨y, rfl, vy⟩, p.trans Ay⟩
    simp -implicitDefEqProofs only [sCall_e, aCons_e, sVar_s, sVar_0, sVar_1, sVar_2, aNil_e, ob_ok, List.length_cons, List.length_nil, if_true, and_self, ey]) n 0 [] h2 (by rw [nums_len]; rfl) A12
  obtain ⟨ws, ez, ly, vy⟩ := sls_of (P := SG w d) (zs := zs) (fun z hz => by
    obtain ⟨j, hj⟩ := List.mem_iff_getElem?.mp hz
    exact r3 j z hj)
  subst ez
  rw [List.nil_append] at e3
  have lc : sLc (iRgN 1 (aCons (sVar 4) aNil)) (gNm 5) tYesZ (sCall (F__law_saying m) 4 0 4 (fun ws _ => ws) (aCons (sVar 0) (aCons (sVar 1) (aCons (sVar 2) (aCons (sVar 3) aNil)))) aNil) [5] [some (.ref b), some (.ref dd), some (.int ((d + 1 : Nat) : Int)), some (.int ((w + 1 : Nat) : Int)), some (.int (n : Nat)), none] h2 = .ok (.lst (sls ws)) h3 := by
    have i2 : iRgN 1 (aCons (sVar 4) aNil) [some (.ref b), some (.ref dd), some (.int ((d + 1 : Nat) : Int)), some (.int ((w + 1 : Nat) : Int)), some (.int (n : Nat)), none] h2 = .ok (.st (nums 0 n), n) h2 := iRg1_ev (n := n) (by simp -implicitDefEqProofs only [sVar_s, sVar_0]) (by omega)
    have wp : wipeN [some (.ref b), some (.ref dd), some (.int ((d + 1 : Nat) : Int)), some (.int ((w + 1 : Nat) : Int)), some (.int (n : Nat)), none] [5] = [some (.ref b), some (.ref dd), some (.int ((d + 1 : Nat) : Int)), some (.int ((w + 1 : Nat) : Int)), some (.int (n : Nat)), none] := rfl
    rw [sLc_eq i2, wp, e3]
    rfl
  refine ⟨ws, h3, ?_, ⟨by rw [ly, l3]; omega, vy⟩, p3⟩
  rw [e__law_sayings]
  simp -implicitDefEqProofs only [m__law_sayings, nSeq_e, nSet_e, sCall_e, aCons_e, sVar_0, sBin_e, sArgs_e, sC_e, aNil_e, ob_ok, ll, List.length_cons, List.length_nil, if_true, and_self, t1, ix, t2, sb_ok, sq_nx, List.set_cons_zero, List.set_cons_succ, nRet_e, lc, fTpl_l, sq_ret, outOf_ret]
theorem sy_ok {b dd : Nat} {kvs : List (Key × Val)} {xs : List Str} {w d : Nat} (hd : Hd kvs xs) (nb : dd ≠ b) (w3 : w ≤ 3) (ih : ∀ e, d = e + 1 → SYSo b dd kvs w e) : SYo b dd kvs w d := by
  intro m h l B ed
  obtain ⟨m, rfl⟩ : ∃ k, m = k + 1 := ⟨m - 1, by omega⟩
  obtain ⟨v, h1, t1, a1, b1, A1⟩ := ev_take (many := 16) B (by decide) (by decide)
  obtain ⟨y, h2, e2, vy, A2⟩ := ev_value hd nb w 8 h1 (by omega) (by omega) A1.bag (A1.dic nb ed)
  obtain ⟨u, h3, t3, a3, b3, A3⟩ := ev_take (many := 4) A2.bag (by decide) (by decide)
  obtain ⟨x, ix, sx, lx⟩ := ix_nm (h := h3) a3 b3
  have A := (A1.trans A2).trans A3
  obtain ⟨vo, vd, vz⟩ := vy
  have dd5 : decide (y.dep ≤ 5) = true := decide_eq_true (by omega)
  have sl := sB_low w d
  have g1 := gB_low w
  have zx : sz (.str x) = 12 := by show 10 * x.length + 2 = 12; omega
  have zset : sz (.str "set") = 32 := by decide +kernel
  have zif : sz (.str "if") = 22 := by decide +kernel
  have zwhile : sz (.str "while") = 52 := by decide +kernel
  have ztry : sz (.str "try") = 32 := by decide +kernel
  have zname : sz (.str "name") = 42 := by decide +kernel
  have zless : sz (.str "less") = 42 := by decide +kernel
  have zplain : ∀ k ∈ PLAIN, sz (.str k) ≤ 52 := by decide +kernel
  have gset : SG w d (.set x y) := by
    refine ⟨?_, by show 1 ≤ d + 1; omega, ?_⟩
    · show (shortB x && (y.okB && decide (y.dep ≤ 5))) = true
      rw [sx, vo, dd5]; rfl
    · show sz (.str "set") + 2 + (sz (.str x) + 2 + (sz y.val + 2 + 0)) + 3 ≤ sB w d
      omega
  have gplain : ∀ k ∈ PLAIN, SG w d (.plain k y) := by
    intro k hk
    refine ⟨?_, by show 1 ≤ d + 1; omega, ?_⟩
    · show (decide (k ∈ PLAIN) && (y.okB && decide (y.dep ≤ 5))) = true
      rw [decide_eq_true hk, vo, dd5]; rfl
    · have := zplain k hk
      show sz (.str k) + 2 + (sz y.val + 2 + 0) + 3 ≤ sB w d
      omega
  rw [e__law_saying]
  by_cases w0 : v < 4
  · have ft : fTup [.str "set", .str x, y.val] h3 = .ok (Sy.val (.set x y)) h3 := tupV (by simp)
    refine ⟨.set x y, h3, ?_, gset, A⟩
    simp -implicitDefEqProofs only [m__law_saying, nSeq_e, nSet_e, sCall_e, aCons_e, sVar_s, sVar_0, sVar_1, sVar_2, sC_e, aNil_e, ob_ok, List.length_cons, List.length_nil, if_true, and_self, t1, e2, t3, sb_ok, sq_nx, List.set_cons_zero, List.set_cons_succ, sBin_e, ix, nIf_e, cBin_e, bOrd_e, unB_bl, decide_eq_true w0, nRet_e, sArgs_e, ft, sq_ret, outOf_ret]
  · by_cases w1 : v < 7
    · have ft : fTup [.str "say", y.val] h3 = .ok (Sy.val (.plain "say" y)) h3 := tupV (by simp)
      refine ⟨.plain "say" y, h3, ?_, gplain _ (by decide +kernel), A⟩
      simp -implicitDefEqProofs only [m__law_saying, nSeq_e, nSet_e, sCall_e, aCons_e, sVar_s, sVar_0, sVar_1, sVar_2, sC_e, aNil_e, ob_ok, List.length_cons, List.length_nil, if_true, and_self, t1, e2, t3, sb_ok, sq_nx, List.set_cons_zero, List.set_cons_succ, sBin_e, ix, nIf_e, cBin_e, bOrd_e, unB_bl, decide_eq_false w0, Bool.false_eq_true, if_false, nNext_e, cOr_e, decide_eq_true w1, nRet_e, sArgs_e, ft, sq_ret, outOf_ret]
    · by_cases w2 : v < 9
      · have q8 : ¬ 8 < v := by omega
        have lm : fLst [.str "back", .str "throw"] h3 = .ok (.lst [.str "back", .str "throw"]) h3 := lstV (by simp)
        obtain ⟨g, hg, iy⟩ := ix_any (xs := [.str "back", .str "throw"]) (v := v - 7) (h := h3) (by omega) (by show v - 7 < (2 : Nat); omega)
        have eg : ∃ k ∈ PLAIN, g = .str k := by
          simp only [List.mem_cons, List.not_mem_nil, or_false] at hg
          rcases hg with rfl | rfl
          · exact ⟨_, by decide +kernel, rfl⟩
          · exact ⟨_, by decide +kernel, rfl⟩
        obtain ⟨k, hk, rfl⟩ := eg
        have ft : fTup [.str k, y.val] h3 = .ok (Sy.val (.plain k y)) h3 := tupV (by simp)
        refine ⟨.plain k y, h3, ?_, gplain _ hk, A⟩
        have c8 : cAnd (cBin bEq (sVar 2) (sC (.int 1))) (cBin (bOrd fun i j => decide (j < i)) (sVar 4) (sC (.int 8))) [some (.ref b), some (.ref dd), some (.int ((d + 1 : Nat) : Int)), some (.int ((w + 1 : Nat) : Int)), some (.int v), some y.val, some (.str x), none] h3 = .ok false h3 := by
          simp -implicitDefEqProofs only [cAnd_e, cBin_e, sVar_s, sVar_0, sVar_1, sVar_2, sC_e, ob_ok, eq_ii, unB_bl, bOrd_e, decide_eq_false q8]
          split <;> rfl
        simp -implicitDefEqProofs only [m__law_saying, nSeq_e, nSet_e, sCall_e, aCons_e, sVar_s, sVar_0, sVar_1, sVar_2, sC_e, aNil_e, ob_ok, List.length_cons, List.length_nil, if_true, and_self, t1, e2, t3, sb_ok, sq_nx, List.set_cons_zero, List.set_cons_succ, sBin_e, ix, nIf_e, cBin_e, bOrd_e, unB_bl, decide_eq_false w0, Bool.false_eq_true, if_false, nNext_e, cOr_e, decide_eq_false w1, c8, decide_eq_true w2, sub_ii, lm, iy, nRet_e, sArgs_e, ft, sq_ret, outOf_ret]
      · have q8 : 8 < v := by omega
        cases d with
        | zero =>
          have c1 : decide (((0 + 1 : Nat) : Int) = 1) = true := rfl
          have ft : fTup [.str "say", y.val] h3 = .ok (Sy.val (.plain "say" y)) h3 := tupV (by simp)
          refine ⟨.plain "say" y, h3, ?_, gplain _ (by decide +kernel), A⟩
          simp -implicitDefEqProofs only [m__law_saying, nSeq_e, nSet_e, sCall_e, aCons_e, sVar_s, sVar_0, sVar_1, sVar_2, sC_e, aNil_e, ob_ok, List.length_cons, List.length_nil, if_true, and_self, t1, e2, t3, sb_ok, sq_nx, List.set_cons_zero, List.set_cons_succ, sBin_e, ix, nIf_e, cBin_e, bOrd_e, unB_bl, decide_eq_false w0, Bool.false_eq_true, if_false, nNext_e, cOr_e, decide_eq_false w1, cAnd_e, eq_ii, c1, decide_eq_true q8, nRet_e, sArgs_e, ft, sq_ret, outOf_ret]
        | succ e =>
          have sy := ih e rfl
          have c1 : decide (((e + 1 + 1 : Nat) : Int) = 1) = false := decide_eq_false (by omega)
          have lo : ((e + 1 + 1 : Nat) : Int) - 1 = ((e + 1 : Nat) : Int) := by omega
          have sb : sB w (e + 1) = gB w + 94 + 2 * lS (sB w e) := rfl
          have edA := A.dic nb ed
          obtain ⟨p, h4, e4, gp, A4⟩ := sy m h3 (by omega) A.bag edA
          have z4 := gp.sz
          have lp6 : decide (p.length ≤ 6) = true := decide_eq_true gp.1
          have dp := gp.sd
          by_cases w3 : v < 11
          · obtain ⟨q, h5, e5, gq, A5⟩ := sy m h4 (by omega) A4.bag (A4.dic nb edA)
            have z5 := gq.sz
            have lq6 : decide (q.length ≤ 6) = true := decide_eq_true gq.1
            have dq := gq.sd
            have ft : fTup [.str "if", y.val, .tup (sls p), .tup (sls q)] h5 = .ok (Sy.val (.iff y p q)) h5 := tupV (by simp)
            refine ⟨.iff y p q, h5, ?_, ⟨?_, ?_, ?_⟩, (A.trans A4).trans A5⟩
            · simp -implicitDefEqProofs only [m__law_saying, nSeq_e, nSet_e, sCall_e, aCons_e, sVar_s, sVar_0, sVar_1, sVar_2, sC_e, aNil_e, ob_ok, List.length_cons, List.length_nil, if_true, and_self, t1, e2, t3, sb_ok, sq_nx, List.set_cons_zero, List.set_cons_succ, sBin_e, ix, nIf_e, cBin_e, bOrd_e, unB_bl, decide_eq_false w0, Bool.false_eq_true, if_false, nNext_e, cOr_e, decide_eq_false w1, cAnd_e, eq_ii, c1, decide_eq_false w2, decide_eq_true w3, sub_ii, lo, e4, e5, nRet_e, sArgs_e, ft, sq_ret, outOf_ret]
            · show (y.okB && (decide (y.dep ≤ 5) && (decide (p.length ≤ 6) && (decide (q.length ≤ 6) && (sos 5 p && sos 5 q))))) = true
              rw [vo, dd5, lp6, lq6, gp.so, gq.so]; rfl
            · show 1 + max (sds p) (sds q) ≤ e + 1 + 1
              omega
            · show sz (.str "if") + 2 + (sz y.val + 2 + (szs (sls p) + 3 + 2 + (szs (sls q) + 3 + 2 + 0))) + 3 ≤ sB w (e + 1)
              omega
          · by_cases w4 : v = 11
            · have ft : fTup [.str "while", y.val, .tup (sls p)] h4 = .ok (Sy.val (.whl y p)) h4 := tupV (by simp)
              refine ⟨.whl y p, h4, ?_, ⟨?_, ?_, ?_⟩, A.trans A4⟩
              · simp -implicitDefEqProofs only [m__law_saying, nSeq_e, nSet_e, sCall_e, aCons_e, sVar_s, sVar_0, sVar_1, sVar_2, sC_e, aNil_e, ob_ok, List.length_cons, List.length_nil, if_true, and_self, t1, e2, t3, sb_ok, sq_nx, List.set_cons_zero, List.set_cons_succ, sBin_e, ix, nIf_e, cBin_e, bOrd_e, unB_bl, decide_eq_false w0, Bool.false_eq_true, if_false, nNext_e, cOr_e, decide_eq_false w1, cAnd_e, eq_ii, c1, decide_eq_false w2, decide_eq_false w3, decide_eq_true w4, sub_ii, lo, e4, nRet_e, sArgs_e, ft, sq_ret, outOf_ret]
              · show (y.okB && (decide (y.dep ≤ 5) && (decide (p.length ≤ 6) && sos 5 p))) = true
                rw [vo, dd5, lp6, gp.so]; rfl
              · show 1 + sds p ≤ e + 1 + 1
                omega
              · show sz (.str "while") + 2 + (sz y.val + 2 + (szs (sls p) + 3 + 2 + 0)) + 3 ≤ sB w (e + 1)
                omega
            · by_cases w5 : v < 14
              · have n1 : shortB "name" = true := name_short.1
                have t5 : ∀ g, fTup [.str "name", .str x] g = .ok (Vl.val (.nm x)) g := fun g => tupV (by simp)
                have t6 : ∀ g, fTup [.str "less", Vl.val (.nm x), .int 1] g = .ok (Vl.val (.op "less" (.nm x) (.num 1))) g := fun g => tupV (by simp)
                have t7 : ∀ g, fTup [.str "set", .str x, Vl.val (.op "less" (.nm x) (.num 1))] g = .ok (Sy.val (.set x (.op "less" (.nm x) (.num 1)))) g := fun g => tupV (by simp)
                have t8 : ∀ g, fTup [Sy.val (.set x (.op "less" (.nm x) (.num 1)))] g = .ok (.tup [Sy.val (.set x (.op "less" (.nm x) (.num 1)))]) g := fun g => tupV (by simp)
                have cut : cutW (sls p) none (some 5) = sls (p.take 5) := (cutW_first (n := 5)).trans (sls_take 5 p).symm
                have sap : ∀ ys zs : List Sy, sls ys ++ sls zs = sls (ys ++ zs) := by
                  intro ys zs
                  induction ys with
                  | nil => rfl
                  | cons a r ih => show a.val :: (sls r ++ sls zs) = a.val :: sls (r ++ zs); rw [ih]
                have ad : bAdd (.tup (sls (p.take 5))) (.tup [Sy.val (.set x (.op "less" (.nm x) (.num 1)))]) h4 = .ok (.tup (sls (p.take 5 ++ [.set x (.op "less" (.nm x) (.num 1))]))) h4 := by
                  have q := sap (p.take 5) [.set x (.op "less" (.nm x) (.num 1))]
                  rw [← q]
                  have tl : (p.take 5).length ≤ 5 := by rw [List.length_take]; omega
                  have sl' := sls_len (p.take 5)
                  show (if _ then _ else _) = _
                  rw [if_pos (by simp [sl', sizeLine_eq]; omega)]
                  rfl
                have gs : SG w e (.set x (.op "less" (.nm x) (.num 1))) := by
                  refine ⟨?_, by show 1 ≤ e + 1; omega, ?_⟩
                  · show (shortB x && (Vl.okB (.op "less" (.nm x) (.num 1)) && decide (Vl.dep (.op "less" (.nm x) (.num 1)) ≤ 5))) = true
                    have o1 : Vl.okB (.op "less" (.nm x) (.num 1)) = true := by
                      show (decide (("less" : Str) ∈ OPSL) && (shortB x && decide ((1 : Int).natAbs ≤ 10 ^ 13))) = true
                      rw [sx, decide_eq_true (by decide +kernel : ("less" : Str) ∈ OPSL)]; decide
                    rw [sx, o1]; rfl
                  · have := sB_low w e
                    show sz (.str "set") + 2 + (sz (.str x) + 2 + (sz (.str "less") + 2 + (sz (.str "name") + 2 + (sz (.str x) + 2 + 0) + 3 + 2 + (60 + 2 + 0)) + 3 + 2 + 0)) + 3 ≤ sB w e
                    omega
                have gl : LG w e (p.take 5 ++ [.set x (.op "less" (.nm x) (.num 1))]) := by
                  refine ⟨by rw [List.length_append, List.length_take, List.length_singleton]; omega, fun s hs => ?_⟩
                  rcases List.mem_append.mp hs with hs | hs
                  · exact gp.2 s (List.mem_of_mem_take hs)
                  · rcases List.mem_singleton.mp hs with rfl; exact gs
                generalize p.take 5 ++ [.set x (.op "less" (.nm x) (.num 1))] = p' at ad gl
                have z6 := gl.sz
                have lp6' : decide (p'.length ≤ 6) = true := decide_eq_true gl.1
                have dp' := gl.sd
                have ft : fTup [.str "while", Vl.val (.nm x), .tup (sls p')] h4 = .ok (Sy.val (.whl (.nm x) p')) h4 := tupV (by simp)
                refine ⟨.whl (.nm x) p', h4, ?_, ⟨?_, ?_, ?_⟩, A.trans A4⟩
                · simp -implicitDefEqProofs only [m__law_saying, nSeq_e, nSet_e, sCall_e, aCons_e, sVar_s, sVar_0, sVar_1, sVar_2, sC_e, aNil_e, ob_ok, List.length_cons, List.length_nil, if_true, and_self, t1, e2, t3, sb_ok, sq_nx, List.set_cons_zero, List.set_cons_succ, sBin_e, ix, nIf_e, cBin_e, bOrd_e, unB_bl, decide_eq_false w0, Bool.false_eq_true, if_false, nNext_e, cOr_e, decide_eq_false w1, cAnd_e, eq_ii, c1, decide_eq_false w2, decide_eq_false w3, decide_eq_false w4, decide_eq_true w5, sub_ii, lo, e4, nRet_e, sArgs_e, t5, t6, t7, t8, sSl_e, oNone_e, oSome_e, unI_i, sl_t, cut, ad, ft, sq_ret, outOf_ret]
                · show (shortB x && (decide (Vl.dep (.nm x) ≤ 5) && (decide (p'.length ≤ 6) && sos 5 p'))) = true
                  rw [sx, lp6', gl.so]; rfl
                · show 1 + sds p' ≤ e + 1 + 1
                  omega
                · show sz (.str "while") + 2 + (sz (.str "name") + 2 + (sz (.str x) + 2 + 0) + 3 + 2 + (szs (sls p') + 3 + 2 + 0)) + 3 ≤ sB w (e + 1)
                  omega
              · obtain ⟨q, h5, e5, gq, A5⟩ := sy m h4 (by omega) A4.bag (A4.dic nb edA)
                have z5 := gq.sz
                have lq6 : decide (q.length ≤ 6) = true := decide_eq_true gq.1
                have dq := gq.sd
                have ft : fTup [.str "try", .tup (sls p), .str x, .tup (sls q)] h5 = .ok (Sy.val (.tri p x q)) h5 := tupV (by simp)
                refine ⟨.tri p x q, h5, ?_, ⟨?_, ?_, ?_⟩, (A.trans A4).trans A5⟩
                · simp -implicitDefEqProofs only [m__law_saying, nSeq_e, nSet_e, sCall_e, aCons_e, sVar_s, sVar_0, sVar_1, sVar_2, sC_e, aNil_e, ob_ok, List.length_cons, List.length_nil, if_true, and_self, t1, e2, t3, sb_ok, sq_nx, List.set_cons_zero, List.set_cons_succ, sBin_e, ix, nIf_e, cBin_e, bOrd_e, unB_bl, decide_eq_false w0, Bool.false_eq_true, if_false, nNext_e, cOr_e, decide_eq_false w1, cAnd_e, eq_ii, c1, decide_eq_false w2, decide_eq_false w3, decide_eq_false w4, decide_eq_false w5, sub_ii, lo, e4, e5, nRet_e, sArgs_e, ft, sq_ret, outOf_ret]
                · show (shortB x && (decide (p.length ≤ 6) && (decide (q.length ≤ 6) && (sos 5 p && sos 5 q)))) = true
                  rw [sx, lp6, lq6, gp.so, gq.so]; rfl
                · show 1 + max (sds p) (sds q) ≤ e + 1 + 1
                  omega
                · show sz (.str "try") + 2 + (szs (sls p) + 3 + 2 + (sz (.str x) + 2 + (szs (sls q) + 3 + 2 + 0))) + 3 ≤ sB w (e + 1)
                  omega
theorem ev_syd {b dd : Nat} {kvs : List (Key × Val)} {xs : List Str} {w : Nat} (hd : Hd kvs xs) (nb : dd ≠ b) (w3 : w ≤ 3) : ∀ d, SYo b dd kvs w d ∧ SYSo b dd kvs w d
  | 0 => by
    have a : SYo b dd kvs w 0 := sy_ok hd nb w3 (fun e q => by omega)
    exact ⟨a, sys_ok nb a⟩
  | d + 1 => by
    have a : SYo b dd kvs w (d + 1) := sy_ok hd nb w3 (fun e q => by
      have : d = e := by omega
      subst this
      exact (ev_syd hd nb w3 d).2)
    exact ⟨a, sys_ok nb a⟩
end K08
set_option Elab.async false
set_option maxRecDepth 100000
set_option linter.unusedVariables false
set_option linter.unusedSimpArgs false
namespace K08
open PySem PySem.Spec PyProof.Rows L2 Z
/-! ### trees that are drawn -/
theorem strKs_app {x : Str} {w : Val} : ∀ {kvs : List (Key × Val)} {xs : List Str}, strKs kvs = some xs → strKs (kvs ++ [(.inr x, w)]) = some (xs ++ [x])
  | [], xs, e => by cases e; rfl
  | (.inr y, v) :: r, xs, e => by
    unfold strKs at e
    split at e
    · rename_i ys e2
      cases e
      show (match strKs (r ++ [(.inr x, w)]) with | some xs => some (y :: xs) | none => none) = _
      rw [strKs_app e2]
      rfl
    · cases e
  | (.inl _, _) :: _, xs, e => by cases e
theorem dval_no {x : Str} : ∀ {kvs : List (Key × Val)} {xs : List Str}, strKs kvs = some xs → x ∉ xs → dval kvs (.inr x) = none
  | [], xs, e, n => rfl
  | (.inr y, v) :: r, xs, e, n => by
    unfold strKs at e
    split at e
    · rename_i ys e2
      cases e
      unfold dval
      have ny : y ≠ x := fun q => n (by rw [q]; exact List.mem_cons_self)
      rw [if_neg (fun q => ny (Sum.inr.inj q))]
      exact dval_no e2 fun q => n (List.mem_cons_of_mem _ q)
    · cases e
  | (.inl _, _) :: _, xs, e, n => by cases e
theorem dval_app {k : Key} {r : List (Key × Val)} {w : Val} : ∀ {kvs : List (Key × Val)}, dval kvs k = some w → dval (kvs ++ r) k = some w
  | [], e => by cases e
  | kv :: l, e => by
    unfold dval at e
    show (if kv.1 = k then some kv.2 else dval (l ++ r) k) = some w
    by_cases c : kv.1 = k
    · rw [if_pos c] at e ⊢; exact e
    · rw [if_neg c] at e ⊢; exact dval_app e
theorem dval_new {k : Key} {w : Val} : ∀ {kvs : List (Key × Val)}, dval kvs k = none → dval (kvs ++ [(k, w)]) k = some w
  | [], e => by
    show (if k = k then some w else none) = some w
    rw [if_pos rfl]
  | kv :: l, e => by
    unfold dval at e
    show (if kv.1 = k then some kv.2 else dval (l ++ [(k, w)]) k) = some w
    by_cases c : kv.1 = k
    · rw [if_pos c] at e; cases e
    · rw [if_neg c] at e ⊢; exact dval_new e
structure HdP (kvs : List (Key × Val)) (xs : List Str) : Prop where
  e : strKs kvs = some xs
  l : kvs.length = xs.length
  v : ∀ x ∈ xs, ∃ n : Nat, n ≤ 3 ∧ dval kvs (.inr x) = some (.int (n : Nat))
theorem HdP.add {kvs : List (Key × Val)} {xs : List Str} {x : Str} {n : Nat} (g : HdP kvs xs) (hn : n ≤ 3) (nx : x ∉ xs) : dput kvs (.inr x) (.int (n : Nat)) = kvs ++ [(.inr x, .int (n : Nat))] ∧ HdP (kvs ++ [(.inr x, .int (n : Nat))]) (xs ++ [x]) := by
  have dn := dval_no g.e nx
  refine ⟨?_, strKs_app g.e, by rw [List.length_append, List.length_append, g.l]; rfl, fun y hy => ?_⟩
  · unfold dput
    rw [dn]
  · rcases List.mem_append.mp hy with hy | hy
    · obtain ⟨m, m3, e⟩ := g.v y hy
      exact ⟨m, m3, dval_app e⟩
    · rcases List.mem_singleton.mp hy with rfl
      exact ⟨n, hn, dval_new dn⟩
theorem dput_e {n : Nat} {kvs : List (Key × Val)} {x : Str} {w : Val} {h : HH} (e : h[n]? = some (.dic kvs)) (l : kvs.length < 1000) : mDPut (.ref n) (.str x) w h = .ok () (h.set n (.dic (dput kvs (.inr x) w))) := by
  have ko : keyOf (.str x) = some (.inr x) := rfl
  unfold mDPut
  dsimp only
  rw [e]
  dsimp only
  rw [ko]
  dsimp only
  rw [if_pos (by have := sizeLine_eq; omega)]
theorem nDPut_e {mo mi mv : SE} {ro : En} {h : HH} : nDPut mo mi mv ro h = sbind (mv ro h) ro fun w h1 => sbind (mo ro h1) ro fun d h2 => sbind (mi ro h2) ro fun k h3 => sbind (mDPut d k w h3) ro fun _ h4 => .go .nx ro h4 := rfl
def hBody : SS := (nSeq (nDPut (sVar 3) (sVar 4) (sCall F__law_take 2 0 2 (fun ws _ => ws) (aCons (sVar 0) (aCons (sC (.int 4)) aNil)) aNil)) nNext)
theorem h_loop {b dd : Nat} {all : List Str} {h0 : HH} {a1 a2 a5 a6 a7 a8 : Option Val} (nd : all.Nodup) (l6 : all.length ≤ 6) (nb : dd ≠ b) (ld : h0.length ≤ dd) : ∀ (xs : List Str) (j : Nat) (kvs : List (Key × Val)) (h : HH) (a4 : Option Val), all.drop j = xs → Aft b h0 h → h[dd]? = some (.dic kvs) → HdP kvs (all.take j) →
    ∃ (kvs' : List (Key × Val)) (b4 : Option Val) (h' : HH), turns (gNm 4) hBody (.st (all.map Val.str)) xs.length j [some (.ref b), a1, a2, some (.ref dd), a4, a5, a6, a7, a8] h = .go .nx [some (.ref b), a1, a2, some (.ref dd), b4, a5, a6, a7, a8] h' ∧ h'[dd]? = some (.dic kvs') ∧ HdP kvs' all ∧ Aft b h0 h'
  | [], j, kvs, h, a4, ed, A, e, g => by
    have lj : all.length ≤ j := by
      have := congrArg List.length ed
      rw [List.length_drop] at this
      simp at this
      omega
    refine ⟨kvs, a4, h, turn_end ?_, e, by rwa [List.take_of_length_le lj] at g, A⟩
    rw [nxt_st, List.getElem?_eq_none (by rw [List.length_map]; exact lj)]
  | x :: xs, j, kvs, h, a4, ed, A, e, g => by
    have es : all[j]? = some x := by
      have := congrArg (fun l => l[0]?) ed
      simpa using this
    have ed' : all.drop (j + 1) = xs := by
      have := congrArg List.tail ed
      simpa using this
    have lj : j < all.length := (List.getElem?_eq_some_iff.mp es).1
    obtain ⟨u, h1, t1, a1', b1, A1⟩ := ev_take (many := 4) A.bag (by decide) (by decide)
    obtain ⟨n, rfl⟩ := Int.eq_ofNat_of_zero_le a1'
    have e1 := A1.dic nb e
    have nx' : x ∉ all.take j := by
      intro hx
      obtain ⟨i, hi⟩ := List.mem_iff_getElem?.mp hx
      have li : i < (all.take j).length := (List.getElem?_eq_some_iff.mp hi).1
      rw [List.length_take] at li
      rw [List.getElem?_take_of_lt (by omega)] at hi
      have := (List.getElem?_inj (by omega) nd).mp (hi.trans es.symm)
      omega
    obtain ⟨dp, g'⟩ := g.add (n := n) (by omega) nx'
    have ek : all.take j ++ [x] = all.take (j + 1) := by rw [List.take_add_one, es]; rfl
    rw [ek] at g'
    have lk : kvs.length < 1000 := by have := g.l; rw [List.length_take] at this; omega
    have pt := dput_e (x := x) (w := .int (n : Nat)) e1 lk
    rw [dp] at pt
    have e2 : (h1.set dd (.dic (kvs ++ [(.inr x, .int (n : Nat))])))[dd]? = some (.dic (kvs ++ [(.inr x, .int (n : Nat))])) := set_get e1
    obtain ⟨kvs', b4, h', ih, e3, g3, A3⟩ := h_loop (a1 := a1) (a2 := a2) (a5 := a5) (a6 := a6) (a7 := a7) (a8 := a8) nd l6 nb ld xs (j + 1) _ _ (some (.str x)) ed' ((A.trans A1).put ld nb) e2 g'
    refine ⟨kvs', b4, h', ?_, e3, g3, A3⟩
    have nx : nxt (.st (all.map Val.str)) j h = some (some (.str x)) := by rw [nxt_st, List.getElem?_map, es]; rfl
    have bd : hBody [some (.ref b), a1, a2, some (.ref dd), some (.str x), a5, a6, a7, a8] h = .go .nx [some (.ref b), a1, a2, some (.ref dd), some (.str x), a5, a6, a7, a8] (h1.set dd (.dic (kvs ++ [(.inr x, .int (n : Nat))]))) := by
      simp -implicitDefEqProofs only [hBody, nSeq_e, nDPut_e, sCall_e, aCons_e, sVar_s, sVar_0, sC_e, aNil_e, ob_ok, List.length_cons, List.length_nil, if_true, and_self, t1, sb_ok, pt, sq_nx, nNext_e]
    exact (turn_nx (k := xs.length) (ro1 := [some (.ref b), a1, a2, some (.ref dd), some (.str x), a5, a6, a7, a8]) nx rfl bd).trans ih
def NMS : List Str := ["main", "b", "part", "dd", "eeeeeeee", "f"]
theorem nms_ok : NMS.Nodup ∧ (∀ x ∈ NMS, shortB x = true) ∧ NMS.length = 6 := by decide +kernel
def NXY : List Str := ["n", "x", "y"]
theorem nxy_ok : (∀ x ∈ NXY, shortB x = true) ∧ NXY.length = 3 := by decide +kernel
theorem eq_nil {w d : Nat} {ws : List Sy} {h : HH} (g : LG w d ws) (d3 : d ≤ 3) : bEq (.tup (sls ws)) (.tup []) h = .ok (.bl (decide (ws = []))) h := by
  have f : fine 0 18 (.tup (sls ws)) = true := fine_tup.mpr ⟨by rw [sls_len]; have := g.1; omega, fun y hy => fine_up (by omega) (sys_fine (Nat.le_refl 5) ws g.so 4 (Nat.le_trans g.sd (by omega)) y hy)⟩
  obtain ⟨p, dp, _, _⟩ := fine_all (n := 0) (by omega) 18 _ f
  have v : veq (.tup (sls ws)) (.tup []) = some (decide (ws = [])) := by
    show (if okV (.tup (sls ws)) = true ∧ okV (.tup []) = true ∧ min (toD (.tup (sls ws))).depth (toD (.tup [])).depth ≤ 64 then some (PyData.eqv (toD (.tup (sls ws))) (toD (.tup []))) else none) = _
    rw [if_pos ⟨pl_ok _ p, rfl, by omega⟩]
    congr 1
    cases ws with
    | nil => rfl
    | cons s r => rfl
  show (match veq (.tup (sls ws)) (.tup []) with | some k => Out.ok (Val.bl k) h | none => .bad) = _
  rw [v]
def PAIRS : List Val := [.tup [.int 2, .int 3], .tup [.int 3, .int 2], .tup [.int 2, .int 2], .tup [.int 1, .int 4], .tup [.int 4, .int 1], .tup [.int 2, .int 3]]
theorem pairs_ok {g : Val} (hg : g ∈ PAIRS) : ∃ d w : Nat, g = .tup [.int ((d + 1 : Nat) : Int), .int ((w + 1 : Nat) : Int)] ∧ d ≤ 3 ∧ w ≤ 3 ∧ lS (sB w d) ≤ 2570000 := by
  unfold PAIRS at hg
  simp only [List.mem_cons, List.not_mem_nil, or_false] at hg
  rcases hg with rfl | rfl | rfl | rfl | rfl | rfl
  · exact ⟨1, 2, rfl, by decide, by decide, by decide⟩
  · exact ⟨2, 1, rfl, by decide, by decide, by decide⟩
  · exact ⟨1, 1, rfl, by decide, by decide, by decide⟩
  · exact ⟨0, 3, rfl, by decide, by decide, by decide⟩
  · exact ⟨3, 0, rfl, by decide, by decide, by decide⟩
  · exact ⟨1, 2, rfl, by decide, by decide, by decide⟩
def g2 : GM := gTp 2 (gsCons (gNm 6) (gsCons (gNm 7) gsNil))
def tBody : SS := (nSeq (nAsg (sBin bIx (sArgs fLst (aCons (sArgs fTup (aCons (sC (.int 2)) (aCons (sC (.int 3)) aNil))) (aCons (sArgs fTup (aCons (sC (.int 3)) (aCons (sC (.int 2)) aNil))) (aCons (sArgs fTup (aCons (sC (.int 2)) (aCons (sC (.int 2)) aNil))) (aCons (sArgs fTup (aCons (sC (.int 1)) (aCons (sC (.int 4)) aNil))) (aCons (sArgs fTup (aCons (sC (.int 4)) (aCons (sC (.int 1)) aNil))) (aCons (sArgs fTup (aCons (sC (.int 2)) (aCons (sC (.int 3)) aNil))) aNil))))))) (sCall F__law_take 2 0 2 (fun ws _ => ws) (aCons (sVar 0) (aCons (sC (.int 6)) aNil)) aNil)) g2) (nSeq (nSet 8 (sCall (F__law_sayings 16) 4 0 4 (fun ws _ => ws) (aCons (sVar 0) (aCons (sVar 3) (aCons (sVar 6) (aCons (sVar 7) aNil)))) aNil)) (nSeq (nIf (cBin bEq (sVar 8) (sArgs fTup aNil)) (nSeq (nSet 8 (sArgs fTup (aCons (sCall (F__law_saying 16) 4 0 4 (fun ws _ => ws) (aCons (sVar 0) (aCons (sVar 3) (aCons (sVar 6) (aCons (sVar 7) aNil)))) aNil) aNil))) nNext) nNext) (nSeq (nExpr (sMtL mApp (sVar 5) (aCons (sArgs fTup (aCons (sVar 4) (aCons (sSl (sArgs fTup (aCons (sC (.str "n")) (aCons (sC (.str "x")) (aCons (sC (.str "y")) aNil)))) oNone (oSome (sBin bDGet (sVar 3) (sVar 4)))) (aCons (sVar 8) aNil)))) aNil))) nNext))))
theorem tree_is : m__law_tree = (nSeq (nSet 1 (sBin bIx (sArgs fLst (aCons (sC (.int 1)) (aCons (sC (.int 2)) (aCons (sC (.int 2)) (aCons (sC (.int 3)) (aCons (sC (.int 3)) (aCons (sC (.int 2)) (aCons (sC (.int 1)) (aCons (sC (.int 6)) aNil))))))))) (sCall F__law_take 2 0 2 (fun ws _ => ws) (aCons (sVar 0) (aCons (sC (.int 8)) aNil)) aNil))) (nSeq (nSet 2 (sSl (sArgs fLst (aCons (sC (.str "main")) (aCons (sC (.str "b")) (aCons (sC (.str "part")) (aCons (sC (.str "dd")) (aCons (sC (.str "eeeeeeee")) (aCons (sC (.str "f")) aNil))))))) oNone (oSome (sVar 1)))) (nSeq (nSet 3 sDNew) (nSeq (nFor (iVal (sVar 2)) (gNm 4) hBody) (nSeq (nSet 5 (sArgs fNew aNil)) (nSeq (nFor (iVal (sVar 2)) (gNm 4) tBody) (nSeq (nRet (sArgs fTpl (aCons (sVar 5) aNil))) nNext))))))) := rfl
def PG (p : Pt) : Prop := Pk p ∧ p.ws.length ≤ 8 ∧ sz p.val ≤ 2570400
theorem t_turn {b dd q : Nat} {kvs : List (Key × Val)} {all : List Str} {x : Str} {acc : List Val} {h : HH} {a1 a2 a6 a7 a8 : Option Val} (hd : Hd kvs all) (nb : dd ≠ b) (nq : q ≠ b) (nqd : q ≠ dd) (B : BagK b h) (ed : h[dd]? = some (.dic kvs)) (e : h[q]? = some (.lst acc)) (la : acc.length ≤ 100) (hx : x ∈ all) :
    ∃ (p : Pt) (b6 b7 b8 : Option Val) (h1 : HH), tBody [some (.ref b), a1, a2, some (.ref dd), some (.str x), some (.ref q), a6, a7, a8] h = .go .nx [some (.ref b), a1, a2, some (.ref dd), some (.str x), some (.ref q), b6, b7, b8] (h1.set q (.lst (acc ++ [p.val]))) ∧ PG p ∧ Aft b h h1 := by
  obtain ⟨u, h1, t1, a1', b1, A1⟩ := ev_take (many := 6) B (by decide) (by decide)
  obtain ⟨g, hg, ix⟩ := ix_any (xs := PAIRS) (h := h1) a1' b1
  obtain ⟨d, w, rfl, d3, w3, lb⟩ := pairs_ok hg
  obtain ⟨ws, h2, e2, gw, A2⟩ := (ev_syd hd nb w3 d).2 16 h1 (by omega) A1.bag (A1.dic nb ed)
  have A12 := A1.trans A2
  obtain ⟨sx, n, n3, dx⟩ := hd.v x hx
  have ll : fLst [.tup [.int 2, .int 3], .tup [.int 3, .int 2], .tup [.int 2, .int 2], .tup [.int 1, .int 4], .tup [.int 4, .int 1], .tup [.int 2, .int 3]] h = .ok (.lst PAIRS) h := lstV (by simp)
  have tt : ∀ (i j : Int) (g : HH), fTup [.int i, .int j] g = .ok (.tup [.int i, .int j]) g := fun i j g => tupV (by simp)
  have tn : ∀ g, fTup [] g = .ok (.tup []) g := fun g => tupV (by simp)
  have t3 : ∀ g, fTup [.str "n", .str "x", .str "y"] g = .ok (.tup [.str "n", .str "x", .str "y"]) g := fun g => tupV (by simp)
  have cut : cutW [Val.str "n", .str "x", .str "y"] none (some (n : Int)) = (NXY.take n).map Val.str := by
    rw [cutW_first, List.map_take]
    rfl
  have en := eq_nil (h := h2) gw d3
  have tg : g2 (.tup [.int ((d + 1 : Nat) : Int), .int ((w + 1 : Nat) : Int)]) [some (.ref b), a1, a2, some (.ref dd), some (.str x), some (.ref q), a6, a7, a8] h1 = .go .nx [some (.ref b), a1, a2, some (.ref dd), some (.str x), some (.ref q), some (.int ((d + 1 : Nat) : Int)), some (.int ((w + 1 : Nat) : Int)), a8] h1 := rfl
  have good : ∀ ws' : List Sy, LG w d ws' → PG ⟨x, NXY.take n, ws'⟩ := by
    intro ws' gl
    have z := gl.sz
    have ln : (NXY.take n).length ≤ 3 := by rw [List.length_take, nxy_ok.2]; omega
    have pk : Pk ⟨x, NXY.take n, ws'⟩ := ⟨sx, ln, fun y hy => nxy_ok.1 y (List.mem_of_mem_take hy), ⟨gl.so, Nat.le_trans gl.sd (by omega), by show szs (sls ws') ≤ 2900000; omega⟩, by show ws'.length ≤ 100; have := gl.1; omega⟩
    refine ⟨pk, by show ws'.length ≤ 8; have := gl.1; omega, ?_⟩
    have z1 := (ns_fine pk (d := 0)).2
    have z2 := (short_fine (n := 0) (d := 0) sx).2
    show sz (.str x) + 2 + (sz (.tup ((NXY.take n).map Val.str)) + 2 + (szs (sls ws') + 3 + 2 + 0)) + 3 ≤ 2570400
    have z1' : sz (.tup ((NXY.take n).map Val.str)) ≤ 255 := z1
    omega
  have fin : ∀ (ws' : List Sy) (h3 : HH), Aft b h h3 → (nSeq (nExpr (sMtL mApp (sVar 5) (aCons (sArgs fTup (aCons (sVar 4) (aCons (sSl (sArgs fTup (aCons (sC (.str "n")) (aCons (sC (.str "x")) (aCons (sC (.str "y")) aNil)))) oNone (oSome (sBin bDGet (sVar 3) (sVar 4)))) (aCons (sVar 8) aNil)))) aNil))) nNext) [some (.ref b), a1, a2, some (.ref dd), some (.str x), some (.ref q), some (.int ((d + 1 : Nat) : Int)), some (.int ((w + 1 : Nat) : Int)), some (.tup (sls ws'))] h3 = .go .nx [some (.ref b), a1, a2, some (.ref dd), some (.str x), some (.ref q), some (.int ((d + 1 : Nat) : Int)), some (.int ((w + 1 : Nat) : Int)), some (.tup (sls ws'))] (h3.set q (.lst (acc ++ [Pt.val ⟨x, NXY.take n, ws'⟩]))) := by
    intro ws' h3 A
    have e3 := A.dic nq e
    have d3' := dget_e (A.dic nb ed) dx
    have m0 := mtL_r (f := mApp) (ra := aCons (sArgs fTup (aCons (sVar 4) (aCons (sSl (sArgs fTup (aCons (sC (.str "n")) (aCons (sC (.str "x")) (aCons (sC (.str "y")) aNil)))) oNone (oSome (sBin bDGet (sVar 3) (sVar 4)))) (aCons (sVar 8) aNil)))) aNil) (ro := [some (.ref b), a1, a2, some (.ref dd), some (.str x), some (.ref q), some (.int ((d + 1 : Nat) : Int)), some (.int ((w + 1 : Nat) : Int)), some (.tup (sls ws'))]) e3
    have tm : fTup [.str x, .tup ((NXY.take n).map Val.str), .tup (sls ws')] h3 = .ok (Pt.val ⟨x, NXY.take n, ws'⟩) h3 := tupV (by simp)
    have ap := app_q (y := Pt.val ⟨x, NXY.take n, ws'⟩) e3 (by omega)
    simp -implicitDefEqProofs only [nSeq_e, nExpr_e, sMtL_e, sVar_s, sVar_0, ob_ok, m0, aCons_e, sArgs_e, aNil_e, sSl_e, sC_e, t3, oNone_e, oSome_e, sBin_e, d3', unI_i, sl_t, cut, tm, ap, sb_ok, sq_nx, nNext_e]
  by_cases c : ws = []
  · obtain ⟨s, h3, e3, gs, A3⟩ := (ev_syd hd nb w3 d).1 16 h2 (by omega) A2.bag (A12.dic nb ed)
    have gl : LG w d [s] := ⟨by simp, fun y hy => by rcases List.mem_singleton.mp hy with rfl; exact gs⟩
    have t1' : fTup [s.val] h3 = .ok (.tup (sls [s])) h3 := tupV (by simp)
    refine ⟨⟨x, NXY.take n, [s]⟩, some (.int ((d + 1 : Nat) : Int)), some (.int ((w + 1 : Nat) : Int)), some (.tup (sls [s])), h3, ?_, good _ gl, A12.trans A3⟩
    have f := fin [s] h3 (A12.trans A3)
    unfold tBody
    rw [nSeq_e]
    simp -implicitDefEqProofs only [nAsg_e, sBin_e, sArgs_e, aCons_e, sC_e, aNil_e, ob_ok, tt, ll, sCall_e, sVar_s, sVar_0, List.length_cons, List.length_nil, if_true, and_self, t1, ix, sb_ok, tg, asg_nx, sq_nx]
    rw [nSeq_e]
    simp -implicitDefEqProofs only [nSet_e, sArgs_e, aCons_e, sC_e, aNil_e, ob_ok, sCall_e, sVar_s, sVar_0, List.length_cons, List.length_nil, if_true, and_self, e2, sb_ok, sq_nx, List.set_cons_zero, List.set_cons_succ]
    rw [nSeq_e]
    simp -implicitDefEqProofs only [nIf_e, cBin_e, nSeq_e (a := nSet 8 (sArgs fTup (aCons (sCall (F__law_saying 16) 4 0 4 (fun ws _ => ws) (aCons (sVar 0) (aCons (sVar 3) (aCons (sVar 6) (aCons (sVar 7) aNil)))) aNil) aNil))), nSet_e, sArgs_e, aCons_e, sC_e, aNil_e, ob_ok, sCall_e, sVar_s, sVar_0, List.length_cons, List.length_nil, if_true, and_self, tn, en, decide_eq_true c, unB_bl, e3, t1', sb_ok, nNext_e, sq_nx, List.set_cons_zero, List.set_cons_succ]
    exact f
  · refine ⟨⟨x, NXY.take n, ws⟩, some (.int ((d + 1 : Nat) : Int)), some (.int ((w + 1 : Nat) : Int)), some (.tup (sls ws)), h2, ?_, good _ gw, A12⟩
    have f := fin ws h2 A12
    unfold tBody
    rw [nSeq_e]
    simp -implicitDefEqProofs only [nAsg_e, sBin_e, sArgs_e, aCons_e, sC_e, aNil_e, ob_ok, tt, ll, sCall_e, sVar_s, sVar_0, List.length_cons, List.length_nil, if_true, and_self, t1, ix, sb_ok, tg, asg_nx, sq_nx]
    rw [nSeq_e]
    simp -implicitDefEqProofs only [nSet_e, sArgs_e, aCons_e, sC_e, aNil_e, ob_ok, sCall_e, sVar_s, sVar_0, List.length_cons, List.length_nil, if_true, and_self, e2, sb_ok, sq_nx, List.set_cons_zero, List.set_cons_succ]
    rw [nSeq_e]
    simp -implicitDefEqProofs only [nIf_e, cBin_e, sArgs_e, aCons_e, sC_e, aNil_e, ob_ok, sVar_s, sVar_0, tn, en, decide_eq_false c, Bool.false_eq_true, if_false, unB_bl, sb_ok, nNext_e, sq_nx]
    exact f
theorem t_loop {b dd q : Nat} {kvs : List (Key × Val)} {all : List Str} {a1 a2 : Option Val} (hd : Hd kvs all) (nb : dd ≠ b) (nq : q ≠ b) (nqd : q ≠ dd) : ∀ (xs : List Str) (j : Nat) (acc : List Val) (h : HH) (a4 a6 a7 a8 : Option Val), all.drop j = xs → BagK b h → h[dd]? = some (.dic kvs) → h[q]? = some (.lst acc) → acc.length + xs.length ≤ 100 →
    ∃ (ps : List Pt) (b4 b6 b7 b8 : Option Val) (h' : HH), turns (gNm 4) tBody (.st (all.map Val.str)) xs.length j [some (.ref b), a1, a2, some (.ref dd), a4, some (.ref q), a6, a7, a8] h = .go .nx [some (.ref b), a1, a2, some (.ref dd), b4, some (.ref q), b6, b7, b8] h' ∧ h'[q]? = some (.lst (acc ++ ps.map Pt.val)) ∧ (∀ p ∈ ps, PG p) ∧ ps.length = xs.length
  | [], j, acc, h, a4, a6, a7, a8, ed, B, e1, e2, l => by
    have lj : all.length ≤ j := by
      have := congrArg List.length ed
      rw [List.length_drop] at this
      simp at this
      omega
    refine ⟨[], a4, a6, a7, a8, h, turn_end ?_, by rw [e2]; simp, (fun _ h => nomatch h), rfl⟩
    rw [nxt_st, List.getElem?_eq_none (by rw [List.length_map]; exact lj)]
  | x :: xs, j, acc, h, a4, a6, a7, a8, ed, B, e1, e2, l => by
    have es : all[j]? = some x := by
      have := congrArg (fun l => l[0]?) ed
      simpa using this
    have ed' : all.drop (j + 1) = xs := by
      have := congrArg List.tail ed
      simpa using this
    rw [List.length_cons] at l
    obtain ⟨p, b6, b7, b8, h1, bd, gp, A⟩ := t_turn (a1 := a1) (a2 := a2) (a6 := a6) (a7 := a7) (a8 := a8) hd nb nq nqd B e1 e2 (by omega) (List.mem_of_getElem? es)
    have q1 := A.dic nq e2
    have q2 : (h1.set q (.lst (acc ++ [p.val])))[q]? = some (.lst (acc ++ [p.val])) := set_get q1
    have q3 : (h1.set q (.lst (acc ++ [p.val])))[dd]? = some (.dic kvs) := by rw [List.getElem?_set_ne nqd]; exact A.dic nb e1
    have B2 : BagK b (h1.set q (.lst (acc ++ [p.val]))) := by
      obtain ⟨f, m, eb, z⟩ := A.bag
      exact ⟨f, m, by rw [List.getElem?_set_ne nq]; exact eb, z⟩
    obtain ⟨ps, c4, c6, c7, c8, h', ih, e3, gps, lps⟩ := t_loop (a1 := a1) (a2 := a2) hd nb nq nqd xs (j + 1) (acc ++ [p.val]) _ (some (.str x)) b6 b7 b8 ed' B2 q3 q2 (by rw [List.length_append, List.length_singleton]; omega)
    have nx : nxt (.st (all.map Val.str)) j h = some (some (.str x)) := by rw [nxt_st, List.getElem?_map, es]; rfl
    refine ⟨p :: ps, c4, c6, c7, c8, h', (turn_nx (k := xs.length) (ro1 := [some (.ref b), a1, a2, some (.ref dd), some (.str x), some (.ref q), a6, a7, a8]) nx rfl bd).trans ih, by rw [e3, List.append_assoc]; rfl, ?_, by rw [List.length_cons, List.length_cons, lps]⟩
    intro y hy
    rcases List.mem_cons.mp hy with rfl | hy
    · exact gp
    · exact gps y hy
theorem ev_tree {b : Nat} {h : HH} (B : BagK b h) : ∃ (ps : List Pt) (h' : HH), F__law_tree [.ref b] h = .ok (trV ps) h' ∧ Tr ps ∧ ∀ p ∈ ps, p.ws.length ≤ 8 := by
  obtain ⟨u, h1, t1, a1, b1, A1⟩ := ev_take (many := 8) B (by decide) (by decide)
  obtain ⟨g, hg, ix⟩ := ix_any (xs := [.int 1, .int 2, .int 2, .int 3, .int 3, .int 2, .int 1, .int 6]) (h := h1) a1 (by simpa using b1)
  have eg : ∃ n : Nat, g = .int (n : Nat) ∧ 0 < n ∧ n ≤ 6 := by
    simp only [List.mem_cons, List.not_mem_nil, or_false] at hg
    rcases hg with rfl | rfl | rfl | rfl | rfl | rfl | rfl | rfl
    · exact ⟨1, rfl, by decide, by decide⟩
    · exact ⟨2, rfl, by decide, by decide⟩
    · exact ⟨2, rfl, by decide, by decide⟩
    · exact ⟨3, rfl, by decide, by decide⟩
    · exact ⟨3, rfl, by decide, by decide⟩
    · exact ⟨2, rfl, by decide, by decide⟩
    · exact ⟨1, rfl, by decide, by decide⟩
    · exact ⟨6, rfl, by decide, by decide⟩
  obtain ⟨n, rfl, n0, n6⟩ := eg
  have ll : fLst [.int 1, .int 2, .int 2, .int 3, .int 3, .int 2, .int 1, .int 6] h = .ok (.lst [.int 1, .int 2, .int 2, .int 3, .int 3, .int 2, .int 1, .int 6]) h := lstV (by simp)
  have lm : fLst [.str "main", .str "b", .str "part", .str "dd", .str "eeeeeeee", .str "f"] h1 = .ok (.lst [.str "main", .str "b", .str "part", .str "dd", .str "eeeeeeee", .str "f"]) h1 := lstV (by simp)
  have la : (NMS.take n).length = n := by rw [List.length_take, nms_ok.2.2]; omega
  have cut : cutW [Val.str "main", .str "b", .str "part", .str "dd", .str "eeeeeeee", .str "f"] none (some (n : Int)) = (NMS.take n).map Val.str := by
    rw [cutW_first, List.map_take]
    rfl
  have nd : (NMS.take n).Nodup := nms_ok.1.sublist (List.take_sublist n NMS)
  have sh : ∀ x ∈ NMS.take n, shortB x = true := fun x hx => nms_ok.2.1 x (List.mem_of_mem_take hx)
  generalize NMS.take n = all at la cut nd sh
  have dn : sDNew [some (.ref b), some (.int (n : Nat)), some (.lst (all.map Val.str)), none, none, none, none, none, none] h1 = .ok (.ref h1.length) (h1 ++ [.dic []]) := rfl
  have e0 : (h1 ++ [Ob.dic []])[h1.length]? = some (.dic []) := List.getElem?_concat_length
  have lt := A1.bag.lt
  have im : ∀ g, itmV (.lst (all.map Val.str)) g = .ok (.st (all.map Val.str), all.length) g := by
    intro g
    show Out.ok (Itm.st (all.map Val.str), (all.map Val.str).length) g = _
    rw [List.length_map]
  obtain ⟨kvs, b4, h2, el, e2, gk, A2⟩ := h_loop (a1 := some (.int (n : Nat))) (a2 := some (.lst (all.map Val.str))) (a5 := none) (a6 := none) (a7 := none) (a8 := none) (b := b) (dd := h1.length) (h0 := h1) nd (by omega) (by omega) (Nat.le_refl _) all 0 [] (h1 ++ [.dic []]) none rfl (Aft.new A1.bag) e0 ⟨rfl, rfl, fun x hx => by cases hx⟩
  have hd : Hd kvs all := ⟨gk.e, gk.l, by omega, by omega, fun x hx => ⟨sh x hx, gk.v x hx⟩⟩
  have nw : fNew [] h2 = .ok (.ref h2.length) (h2 ++ [.lst []]) := fNew_ok (by simp)
  have e3 : (h2 ++ [Ob.lst []])[h2.length]? = some (.lst []) := List.getElem?_concat_length
  have l2 := lt_of_at e2
  have l2b := A2.bag.lt
  have A3 := Aft.new (x := .lst []) A2.bag
  obtain ⟨ps, c4, c6, c7, c8, h3, tl, e4, gps, lps⟩ := t_loop (a1 := some (.int (n : Nat))) (a2 := some (.lst (all.map Val.str))) (b := b) (dd := h1.length) (q := h2.length) hd (by omega) (by omega) (by omega) all 0 [] (h2 ++ [.lst []]) b4 none none none rfl A3.bag (by rw [List.getElem?_append_left l2]; exact e2) e3 (by simp; omega)
  rw [List.nil_append] at e4
  refine ⟨ps, h3, ?_, ⟨fun p hp => (gps p hp).1, by omega, ?_⟩, fun p hp => (gps p hp).2.1⟩
  · rw [e__law_tree, tree_is]
    generalize h1.length = p at dn el tl
    generalize h2.length = q at nw tl e4
    have tp := tpl_r e4
    simp -implicitDefEqProofs only [nSeq_e, nSet_e, sBin_e, sArgs_e, aCons_e, sC_e, aNil_e, ob_ok, ll, sCall_e, sVar_s, sVar_0, sVar_1, sVar_2, List.length_cons, List.length_nil, if_true, and_self, t1, ix, sb_ok, sq_nx, List.set_cons_zero, List.set_cons_succ, sSl_e, lm, oNone_e, oSome_e, unI_i, sl_l, cut, dn, nFor_e, iVal_e, im, el, nw, tl, nRet_e, tp, sq_ret, outOf_ret]
    rfl
  · have z : szs (ps.map Pt.val) ≤ (ps.map Pt.val).length * (2570400 + 2) := szs_le fun w hw => by
      obtain ⟨p, hp, rfl⟩ := List.mem_map.mp hw
      exact (gps p hp).2.2
    rw [List.length_map, lps] at z
    have : all.length * (2570400 + 2) ≤ 6 * 2570402 := Nat.mul_le_mul (by omega) (Nat.le_refl _)
    show szs (ps.map Pt.val) + 3 ≤ 16000000
    omega
end K08
set_option Elab.async false
set_option maxRecDepth 100000
set_option linter.unusedVariables false
set_option linter.unusedSimpArgs false
namespace K08
open PySem PySem.Spec PyProof.Rows L2 Z
/-! ### the whole law -/
def bal : Nat → Nat → Vl
  | 0, _ => .nm "n"
  | f + 1, n => if n = 1 then .nm "n" else .op "less" (bal f (n / 2)) (bal f (n - n / 2))
theorem ev_bal : ∀ (f n : Nat) (h : HH), 1 ≤ n → n ≤ 2 ^ f → F__law_balanced (f + 1) [.int (n : Nat)] h = .ok (bal f n).val h := by
  intro f
  induction f with
  | zero =>
    intro n h l1 l2
    have e : n = 1 := by omega
    subst e
    have ft : fTup [.str "name", .str "n"] h = .ok (Vl.val (.nm "n")) h := tupV (by simp)
    have c : decide (((1 : Nat) : Int) = 1) = true := rfl
    rw [e__law_balanced]
    simp -implicitDefEqProofs only [m__law_balanced, nSeq_e, nIf_e, cBin_e, sVar_0, sC_e, ob_ok, eq_ii, c, unB_bl, sb_ok, if_true, nRet_e, sArgs_e, aCons_e, aNil_e, ft, sq_ret, outOf_ret]
    rfl
  | succ f ih =>
    intro n h l1 l2
    rw [e__law_balanced]
    by_cases e : n = 1
    · subst e
      have ft : fTup [.str "name", .str "n"] h = .ok (Vl.val (.nm "n")) h := tupV (by simp)
      have c : decide (((1 : Nat) : Int) = 1) = true := rfl
      simp -implicitDefEqProofs only [m__law_balanced, nSeq_e, nIf_e, cBin_e, sVar_0, sC_e, ob_ok, eq_ii, c, unB_bl, sb_ok, if_true, nRet_e, sArgs_e, aCons_e, aNil_e, ft, sq_ret, outOf_ret]
      rfl
    · have c : decide (((n : Nat) : Int) = 1) = false := decide_eq_false (by omega)
      have p : 2 ^ (f + 1) = 2 * 2 ^ f := by rw [Nat.pow_succ]; omega
      have x := ih (n / 2) h (by omega) (by omega)
      have y := ih (n - n / 2) h (by omega) (by omega)
      have dv : bDiv (.int (n : Nat)) (.int 2) h = .ok (.int ((n / 2 : Nat) : Int)) h := by
        rw [div_ii (by decide) (by decide)]
        rfl
      have sb : ((n : Nat) : Int) - ((n / 2 : Nat) : Int) = ((n - n / 2 : Nat) : Int) := by omega
      have ft : fTup [.str "less", (bal f (n / 2)).val, (bal f (n - n / 2)).val] h = .ok (Vl.val (.op "less" (bal f (n / 2)) (bal f (n - n / 2)))) h := tupV (by simp)
      have b : bal (f + 1) n = .op "less" (bal f (n / 2)) (bal f (n - n / 2)) := if_neg e
      rw [b]
      simp -implicitDefEqProofs only [m__law_balanced, nSeq_e, nIf_e, cBin_e, sBin_e, sVar_0, sC_e, ob_ok, eq_ii, c, unB_bl, sb_ok, Bool.false_eq_true, if_false, nNext_e, sq_nx, nRet_e, sArgs_e, aCons_e, aNil_e, sCall_e, List.length_cons, List.length_nil, if_true, and_self, dv, x, sub_ii, sb, y, ft, sq_ret, outOf_ret]
def say3 : List Sy := [.plain "say" (bal 5 8), .plain "say" (bal 5 8), .plain "say" (bal 5 8)]
def say1 : List Sy := [.plain "say" (bal 5 8)]
def last6 : List Sy := [.plain "say" (bal 5 5), .iff (bal 5 5) [] [], .whl (bal 5 4) [], .whl (bal 5 5) [], .tri say3 "n" say1, .iff (.num 1) say3 []]
def oneP (s : Sy) : Pt := ⟨"main", ["n"], say3 ++ [s]⟩
def othP : Pt := ⟨"b", [], say3 ++ say3⟩
def five (s : Sy) : List (List Pt) := [[oneP s], [oneP s, ⟨"b", [], []⟩], [oneP s, othP], [othP, oneP s], [⟨"b", [], say1⟩, oneP s]]
def pkB (p : Pt) : Bool := shortB p.nm && (decide (p.ns.length ≤ 3) && (p.ns.all shortB && (sos 5 p.ws && (decide (sds p.ws ≤ 11) && (decide (szs (sls p.ws) ≤ 2900000) && decide (p.ws.length ≤ 100))))))
def trB (ps : List Pt) : Bool := ps.all pkB && (decide (ps.length ≤ 100) && decide (sz (trV ps) ≤ 16000000))
theorem pk_of {p : Pt} (h : pkB p = true) : Pk p := by
  unfold pkB at h
  simp only [Bool.and_eq_true, decide_eq_true_eq, List.all_eq_true] at h
  obtain ⟨a, b, c, d, e, f, g⟩ := h
  exact ⟨a, b, c, ⟨d, e, f⟩, g⟩
theorem tr_of {ps : List Pt} (h : trB ps = true) : Tr ps := by
  unfold trB at h
  simp only [Bool.and_eq_true, decide_eq_true_eq, List.all_eq_true] at h
  exact ⟨fun p hp => pk_of (h.1 p hp), h.2.1, h.2.2⟩
theorem five_ok : ∀ s ∈ last6, ∀ t ∈ five s, trB t = true := by decide +kernel
noncomputable section
variable (RF TF : List Val → M Val)
def oBody : SS := (nSeq (nSet 5 (sCall F__law_tree 1 0 1 (fun ws _ => ws) (aCons (sCall F__law_bag 2 0 2 (fun ws _ => ws) (aCons (sVar 0) (aCons (sVar 1) aNil)) aNil) aNil) aNil)) (nSeq (nSet 6 (sCall F__law_short 1 0 1 (fun ws _ => ws) (aCons (sVar 5) aNil) aNil)) (nSeq (nIf (cOr (cNot (cV (sCall RF 1 0 1 (fun ws _ => ws) (aCons (sVar 5) aNil) aNil))) (cOr (cNot (cV (sCall RF 1 0 1 (fun ws _ => ws) (aCons (sVar 6) aNil) aNil))) (cNot (cV (sArgs fIsi (aCons (sCall TF 1 0 1 (fun ws _ => ws) (aCons (sVar 6) aNil) aNil) (aCons (sC (.ty "tuple")) aNil))))))) (nSeq (nRet (sC (.bl false))) nNext) nNext) nNext)))
def fBody : SS := (nSeq (nIf (cNot (cV (sCall RF 1 0 1 (fun ws _ => ws) (aCons (sVar 5) aNil) aNil))) (nSeq (nRet (sC (.bl false))) nNext) nNext) nNext)
def lBody : SS := (nSeq (nSet 7 (sArgs fTup (aCons (sC (.str "main")) (aCons (sArgs fTup (aCons (sC (.str "n")) aNil)) (aCons (sBin bAdd (sVar 2) (sArgs fTup (aCons (sVar 4) aNil))) aNil))))) (nSeq (nSet 8 (sArgs fTup (aCons (sC (.str "b")) (aCons (sArgs fTup aNil) (aCons (sBin bAdd (sVar 2) (sVar 2)) aNil))))) (nSeq (nFor (iVal (sArgs fLst (aCons (sArgs fTup (aCons (sVar 7) aNil)) (aCons (sArgs fTup (aCons (sVar 7) (aCons (sArgs fTup (aCons (sC (.str "b")) (aCons (sArgs fTup aNil) (aCons (sArgs fTup aNil) aNil)))) aNil))) (aCons (sArgs fTup (aCons (sVar 7) (aCons (sVar 8) aNil))) (aCons (sArgs fTup (aCons (sVar 8) (aCons (sVar 7) aNil))) (aCons (sArgs fTup (aCons (sArgs fTup (aCons (sC (.str "b")) (aCons (sArgs fTup aNil) (aCons (sSl (sVar 2) oNone (oSome (sC (.int 1)))) aNil)))) (aCons (sVar 7) aNil))) aNil))))))) (gNm 5) (fBody RF)) nNext)))
def lawB : SS := (nSeq (nFor (iRgN 1 (aCons (sArgs fMax (aCons (sC (.int 2)) (aCons (sArgs fMin (aCons (sC (.int 4)) (aCons (sArgs fLen (aCons (sVar 0) aNil)) aNil))) aNil))) aNil)) (gNm 1) (oBody RF TF)) (nSeq (nSet 2 (sBin bMulT (sArgs fTup (aCons (sArgs fTup (aCons (sC (.str "say")) (aCons (sCall (F__law_balanced 6) 1 0 1 (fun ws _ => ws) (aCons (sC (.int 8)) aNil) aNil) aNil))) aNil)) (sC (.int 3)))) (nSeq (nSet 3 (sArgs fLst (aCons (sArgs fTup (aCons (sC (.str "say")) (aCons (sCall (F__law_balanced 6) 1 0 1 (fun ws _ => ws) (aCons (sC (.int 5)) aNil) aNil) aNil))) (aCons (sArgs fTup (aCons (sC (.str "if")) (aCons (sCall (F__law_balanced 6) 1 0 1 (fun ws _ => ws) (aCons (sC (.int 5)) aNil) aNil) (aCons (sArgs fTup aNil) (aCons (sArgs fTup aNil) aNil))))) (aCons (sArgs fTup (aCons (sC (.str "while")) (aCons (sCall (F__law_balanced 6) 1 0 1 (fun ws _ => ws) (aCons (sC (.int 4)) aNil) aNil) (aCons (sArgs fTup aNil) aNil)))) aNil))))) (nSeq (nSet 3 (sBin bAdd (sVar 3) (sArgs fLst (aCons (sArgs fTup (aCons (sC (.str "while")) (aCons (sCall (F__law_balanced 6) 1 0 1 (fun ws _ => ws) (aCons (sC (.int 5)) aNil) aNil) (aCons (sArgs fTup aNil) aNil)))) (aCons (sArgs fTup (aCons (sC (.str "try")) (aCons (sVar 2) (aCons (sC (.str "n")) (aCons (sSl (sVar 2) oNone (oSome (sC (.int 1)))) aNil))))) (aCons (sArgs fTup (aCons (sC (.str "if")) (aCons (sC (.int 1)) (aCons (sVar 2) (aCons (sArgs fTup aNil) aNil))))) aNil)))))) (nSeq (nFor (iVal (sVar 3)) (gNm 4) (lBody RF)) (nSeq (nRet (sC (.bl true))) nNext))))))
theorem law_is (C_Busy C_MADE C_NoHook C_NoMark C_NoNumbers C_NoPart C_NoProgram C_NoRow C_NoText C_NoWord C_TooLong C_TooMany C_Unsound C_rows_of_if C_rows_of_plain C_rows_of_set C_rows_of_try C_rows_of_while : Addr) : m_law C_Busy C_MADE C_NoHook C_NoMark C_NoNumbers C_NoPart C_NoProgram C_NoRow C_NoText C_NoWord C_TooLong C_TooMany C_Unsound C_rows_of_if C_rows_of_plain C_rows_of_set C_rows_of_try C_rows_of_while = lawB (F__law_right C_Busy C_MADE C_NoHook C_NoMark C_NoNumbers C_NoPart C_NoProgram C_NoRow C_NoText C_NoWord C_TooLong C_TooMany C_Unsound C_rows_of_if C_rows_of_plain C_rows_of_set C_rows_of_try C_rows_of_while) (F__law_told C_Busy C_MADE C_NoHook C_NoMark C_NoNumbers C_NoPart C_NoProgram C_NoRow C_NoText C_NoWord C_TooLong C_TooMany C_Unsound C_rows_of_if C_rows_of_plain C_rows_of_set C_rows_of_try C_rows_of_while) := rfl
variable {RF TF}
def Rt (RF : List Val → M Val) : Prop := ∀ (ps : List Pt) (h : HH), Tr ps → ∃ h', RF [trV ps] h = .ok (.bl true) h'
def To (TF : List Val → M Val) : Prop := ∀ (ps : List Pt) (h : HH), Tr ps → ∃ h', TF [trV ps] h = .ok (dueV ps) h'
theorem o_turn (hR : Rt RF) (hT : To TF) {ns : List Int} {h : HH} {a2 a3 a4 a5 a6 a7 a8 : Option Val} {i : Nat} (hi : i < 8) :
    ∃ (b5 b6 : Option Val) (h' : HH), oBody RF TF [some (.scr ns), some (.int (i : Nat)), a2, a3, a4, a5, a6, a7, a8] h = .go .nx [some (.scr ns), some (.int (i : Nat)), a2, a3, a4, b5, b6, a7, a8] h' := by
  obtain ⟨h1, e1, B1⟩ := ev_bag (ns := ns) (h := h) hi
  generalize h.length = b at e1 B1
  obtain ⟨ps, h2, e2, t, l8⟩ := ev_tree B1
  obtain ⟨qs, h3, e3, k3, tq, dq⟩ := ev_short (h := h2) t l8
  obtain ⟨h4, e4⟩ := hR ps h3 t
  obtain ⟨h5, e5⟩ := hR qs h4 tq
  obtain ⟨h6, e6⟩ := hT qs h5 tq
  rw [dq] at e6
  have is : fIsi [.tup (qs.map Pt.made), .ty "tuple"] h6 = .ok (.bl true) h6 := rfl
  refine ⟨some (trV ps), some (trV qs), h6, ?_⟩
  generalize trV ps = x at e2 e3 e4
  generalize trV qs = y at e3 e5 e6
  unfold oBody
  simp -implicitDefEqProofs only [nSeq_e, nSet_e, sCall_e, aCons_e, sVar_s, sVar_0, sVar_1, aNil_e, ob_ok, List.length_cons, List.length_nil, if_true, and_self, e1, e2, e3, sb_ok, sq_nx, List.set_cons_zero, List.set_cons_succ, nIf_e, cOr_e, cNot_e, cV_e, e4, e5, e6, tr_bl, Bool.not_true, Bool.false_eq_true, if_false, sArgs_e, sC_e, is, nNext_e]
theorem f_loop (hR : Rt RF) {h : HH} {x : List Val} {ts : List (List Pt)} (ht : ∀ t ∈ ts, Tr t) {a0 a1 a2 a3 a4 a5 a6 a7 a8 : Option Val} : ∃ (b5 : Option Val) (h' : HH), turns (gNm 5) (fBody RF) (.st (ts.map trV)) ts.length 0 [a0, a1, a2, a3, a4, a5, a6, a7, a8] h = .go .nx [a0, a1, a2, a3, a4, b5, a6, a7, a8] h' := by
  obtain ⟨ro', h', el, b5, er⟩ := turns_inv (g := gNm 5) (body := fBody RF) (x := .st (ts.map trV)) (n := ts.length) (fun _ ro _ => ∃ b5 : Option Val, ro = [a0, a1, a2, a3, a4, b5, a6, a7, a8])
    (fun i ro g ⟨b5, er⟩ hi => by
      subst er
      obtain ⟨g', e⟩ := hR ts[i] g (ht _ (List.getElem_mem hi))
      refine ⟨trV ts[i], [a0, a1, a2, a3, a4, some (trV ts[i]), a6, a7, a8], g, [a0, a1, a2, a3, a4, some (trV ts[i]), a6, a7, a8], g', ?_, rfl, ?_, ⟨_, rfl⟩⟩
      · rw [nxt_st, List.getElem?_map, List.getElem?_eq_getElem hi]; rfl
      · generalize trV ts[i] = v at e
        simp -implicitDefEqProofs only [fBody, nSeq_e, nIf_e, cNot_e, cV_e, sCall_e, aCons_e, sVar_s, sVar_0, aNil_e, ob_ok, List.length_cons, List.length_nil, if_true, and_self, e, tr_bl, Bool.not_true, sb_ok, Bool.false_eq_true, if_false, nNext_e, sq_nx])
    (fun ro g _ => by rw [nxt_st, List.getElem?_eq_none (by rw [List.length_map]; exact Nat.le_refl _)]) ts.length 0 [a0, a1, a2, a3, a4, a5, a6, a7, a8] h rfl ⟨_, rfl⟩
  subst er
  exact ⟨b5, h', el⟩
theorem sls_app : ∀ ys zs : List Sy, sls (ys ++ zs) = sls ys ++ sls zs
  | [], zs => rfl
  | y :: ys, zs => by show y.val :: sls (ys ++ zs) = y.val :: (sls ys ++ sls zs); rw [sls_app ys zs]
theorem addTT {xs ys : List Val} {h : HH} (l : xs.length + ys.length ≤ 1000) : bAdd (.tup xs) (.tup ys) h = .ok (.tup (xs ++ ys)) h := by
  show (if _ then _ else _) = _
  rw [if_pos (by simp [sizeLine_eq]; omega)]
theorem l_turn (hR : Rt RF) {h : HH} {s : Sy} (hs : s ∈ last6) {a0 a1 a3 a5 a7 a8 a6 : Option Val} :
    ∃ (b5 b7 b8 : Option Val) (h' : HH), lBody RF [a0, a1, some (.tup (sls say3)), a3, some s.val, a5, a6, a7, a8] h = .go .nx [a0, a1, some (.tup (sls say3)), a3, some s.val, b5, a6, b7, b8] h' := by
  have ht : ∀ t ∈ five s, Tr t := fun t h => tr_of (five_ok s hs t h)
  obtain ⟨b5, h', el⟩ := f_loop hR (h := h) (x := []) ht (a0 := a0) (a1 := a1) (a2 := some (.tup (sls say3))) (a3 := a3) (a4 := some s.val) (a5 := a5) (a6 := a6) (a7 := some (Pt.val (oneP s))) (a8 := some (Pt.val othP))
  refine ⟨b5, some (Pt.val (oneP s)), some (Pt.val othP), h', ?_⟩
  have t1 : fTup [s.val] h = .ok (.tup [s.val]) h := tupV (by simp)
  have t0 : fTup [] h = .ok (.tup []) h := tupV (by simp)
  have tn : fTup [.str "n"] h = .ok (.tup [.str "n"]) h := tupV (by simp)
  have ad1 : bAdd (.tup (sls say3)) (.tup [s.val]) h = .ok (.tup (sls (say3 ++ [s]))) h := by rw [sls_app]; exact addTT (by rw [sls_len]; simp [say3])
  have ad2 : bAdd (.tup (sls say3)) (.tup (sls say3)) h = .ok (.tup (sls (say3 ++ say3))) h := by rw [sls_app]; exact addTT (by rw [sls_len]; simp [say3])
  have to1 : fTup [.str "main", .tup [.str "n"], .tup (sls (say3 ++ [s]))] h = .ok (Pt.val (oneP s)) h := tupV (by simp)
  have to2 : fTup [.str "b", .tup [], .tup (sls (say3 ++ say3))] h = .ok (Pt.val othP) h := tupV (by simp)
  have tb : fTup [.str "b", .tup [], .tup []] h = .ok (Pt.val ⟨"b", [], []⟩) h := tupV (by simp)
  have ts : fTup [.str "b", .tup [], .tup (sls say1)] h = .ok (Pt.val ⟨"b", [], say1⟩) h := tupV (by simp)
  have cut : cutW (sls say3) none (some 1) = sls say1 := (cutW_first (n := 1)).trans rfl
  have one : ∀ p : Pt, fTup [p.val] h = .ok (trV [p]) h := fun p => tupV (by simp)
  have two : ∀ p q : Pt, fTup [p.val, q.val] h = .ok (trV [p, q]) h := fun p q => tupV (by simp)
  have o1 := one (oneP s)
  have o2 := two (oneP s) ⟨"b", [], []⟩
  have o3 := two (oneP s) othP
  have o4 := two othP (oneP s)
  have o5 := two ⟨"b", [], say1⟩ (oneP s)
  have lf : fLst [trV [oneP s], trV [oneP s, ⟨"b", [], []⟩], trV [oneP s, othP], trV [othP, oneP s], trV [⟨"b", [], say1⟩, oneP s]] h = .ok (.lst ((five s).map trV)) h := lstV (by simp)
  have im : itmV (.lst ((five s).map trV)) h = .ok (.st ((five s).map trV), (five s).length) h := by
    show Out.ok (Itm.st ((five s).map trV), ((five s).map trV).length) h = _
    rw [List.length_map]
  generalize (five s).map trV = T at lf im el
  generalize (five s).length = n at im el
  generalize trV [oneP s] = v1 at o1 lf
  generalize trV [oneP s, ⟨"b", [], []⟩] = v2 at o2 lf
  generalize trV [oneP s, othP] = v3 at o3 lf
  generalize trV [othP, oneP s] = v4 at o4 lf
  generalize trV [⟨"b", [], say1⟩, oneP s] = v5 at o5 lf
  generalize Pt.val (oneP s) = p1 at *
  generalize Pt.val othP = p2 at *
  generalize Pt.val ⟨"b", [], []⟩ = p3 at *
  generalize Pt.val ⟨"b", [], say1⟩ = p4 at *
  generalize sls (say3 ++ [s]) = q1 at ad1 to1
  generalize sls (say3 ++ say3) = q2 at ad2 to2
  generalize sls say1 = q3 at ts cut
  generalize sls say3 = q4 at *
  generalize s.val = v at *
  unfold lBody
  simp -implicitDefEqProofs only [nSeq_e, nSet_e, sArgs_e, aCons_e, sC_e, aNil_e, ob_ok, tn, sBin_e, sVar_s, sVar_0, sVar_1, sVar_2, t1, ad1, to1, sb_ok, sq_nx, List.set_cons_zero, List.set_cons_succ, t0, ad2, to2, nFor_e, iVal_e, o1, tb, o2, o3, o4, sSl_e, oNone_e, oSome_e, unI_i, sl_t, cut, ts, o5, lf, im, el, nNext_e]
theorem law_all (hR : Rt RF) (hT : To TF) (ns : List Int) : ∃ h, outOf (lawB RF TF [some (.scr ns), none, none, none, none, none, none, none, none] []) = .ok (.bl true) h := by
  have ln := scr_len (ns := ns) (h := [])
  obtain ⟨n, x, hn, hx, e1⟩ : ∃ (n : Nat) (x : Val), n ≤ 4 ∧ fMin [.int 4, .int (ns.length : Nat)] [] = .ok x [] ∧ fMax [.int 2, x] [] = .ok (.int (n : Nat)) [] := by
    by_cases c : ns.length < 4
    · refine ⟨max 2 ns.length, .int (ns.length : Nat), by omega, ?_, ?_⟩
      · show Out.ok (Val.int (if ((ns.length : Nat) : Int) < 4 then ((ns.length : Nat) : Int) else 4)) [] = _
        rw [if_pos (by omega)]
      · show Out.ok (Val.int (if (2 : Int) < ((ns.length : Nat) : Int) then ((ns.length : Nat) : Int) else 2)) [] = _
        by_cases c2 : 2 < ns.length
        · rw [if_pos (by omega), Nat.max_eq_right (by omega)]
        · rw [if_neg (by omega), Nat.max_eq_left (by omega)]; rfl
    · refine ⟨4, .int 4, by omega, ?_, rfl⟩
      show Out.ok (Val.int (if ((ns.length : Nat) : Int) < 4 then ((ns.length : Nat) : Int) else 4)) [] = _
      rw [if_neg (by omega)]
  have rg : fRg [.int (n : Nat)] [] = .ok (.st (nums 0 n), n) [] := fRg1 (by omega)
  obtain ⟨ro', h1, el, a1, b5, b6, er⟩ := turns_inv (g := gNm 1) (body := oBody RF TF) (x := .st (nums 0 n)) (n := n) (fun _ ro _ => ∃ a1 b5 b6 : Option Val, ro = [some (.scr ns), a1, none, none, none, b5, b6, none, none])
    (fun i ro h ⟨a1, b5, b6, er⟩ hi => by
      subst er
      obtain ⟨c5, c6, h2, e2⟩ := o_turn hR hT (ns := ns) (h := h) (a2 := none) (a3 := none) (a4 := none) (a5 := b5) (a6 := b6) (a7 := none) (a8 := none) (i := i) (by omega)
      rw [← Int.zero_add ((i : Nat) : Int)] at e2
      exact ⟨.int (0 + (i : Nat)), _, h, _, h2, by show some (nums 0 n)[i]? = _; rw [nums_get hi], rfl, e2, ⟨_, _, _, rfl⟩⟩)
    (fun ro h _ => by show some (nums 0 n)[n]? = _; rw [nums_end]) n 0 [some (.scr ns), none, none, none, none, none, none, none, none] [] (by omega) ⟨_, _, _, rfl⟩
  subst er
  obtain ⟨ro', h2, el2, c5, c7, c8, c4, er⟩ := turns_inv (g := gNm 4) (body := lBody RF) (x := .st (sls last6)) (n := 6) (fun _ ro _ => ∃ c5 c7 c8 c4 : Option Val, ro = [some (.scr ns), a1, some (.tup (sls say3)), some (.lst (sls last6)), c4, c5, b6, c7, c8])
    (fun i ro h ⟨c5, c7, c8, c4, er⟩ hi => by
      subst er
      have hi' : i < last6.length := hi
      obtain ⟨d5, d7, d8, h2, e2⟩ := l_turn hR (h := h) (s := last6[i]) (List.getElem_mem hi') (a0 := some (.scr ns)) (a1 := a1) (a3 := some (.lst (sls last6))) (a5 := c5) (a6 := b6) (a7 := c7) (a8 := c8)
      exact ⟨last6[i].val, _, h, _, h2, by rw [nxt_st, sls_get (List.getElem?_eq_getElem hi')], rfl, e2, ⟨_, _, _, _, rfl⟩⟩)
    (fun ro h _ => by rw [nxt_st, sls_none (ys := last6) (i := 6) (Nat.le_refl 6)]) 6 0 [some (.scr ns), a1, some (.tup (sls say3)), some (.lst (sls last6)), none, b5, b6, none, none] h1 rfl ⟨_, _, _, _, rfl⟩
  subst er
  refine ⟨h2, ?_⟩
  have k8 : F__law_balanced 6 [.int 8] h1 = .ok (bal 5 8).val h1 := ev_bal 5 8 h1 (by decide) (by decide)
  have k5 : F__law_balanced 6 [.int 5] h1 = .ok (bal 5 5).val h1 := ev_bal 5 5 h1 (by decide) (by decide)
  have k4 : F__law_balanced 6 [.int 4] h1 = .ok (bal 5 4).val h1 := ev_bal 5 4 h1 (by decide) (by decide)
  have u1 : fTup [.str "say", (bal 5 8).val] h1 = .ok (Sy.val (.plain "say" (bal 5 8))) h1 := tupV (by simp)
  have u2 : fTup [Sy.val (.plain "say" (bal 5 8))] h1 = .ok (.tup (sls say1)) h1 := tupV (by simp)
  have ml : bMulT (.tup (sls say1)) (.int 3) h1 = .ok (.tup (sls say3)) h1 := by
    show (if (2 : Int) ≤ 3 ∧ (3 : Int) ≤ 1000 ∧ ([] : List Val).length + 1 ≤ 1000 then Out.ok (Val.tup (List.replicate (3 : Int).toNat [Sy.val (.plain "say" (bal 5 8))]).flatten) h1 else .bad) = _
    rw [if_pos ⟨by omega, by omega, by simp⟩]
    rfl
  have v1 : fTup [.str "say", (bal 5 5).val] h1 = .ok (Sy.val (.plain "say" (bal 5 5))) h1 := tupV (by simp)
  have v2 : fTup [.str "if", (bal 5 5).val, .tup [], .tup []] h1 = .ok (Sy.val (.iff (bal 5 5) [] [])) h1 := tupV (by simp)
  have v3 : fTup [.str "while", (bal 5 4).val, .tup []] h1 = .ok (Sy.val (.whl (bal 5 4) [])) h1 := tupV (by simp)
  have v4 : fTup [.str "while", (bal 5 5).val, .tup []] h1 = .ok (Sy.val (.whl (bal 5 5) [])) h1 := tupV (by simp)
  have cut : cutW (sls say3) none (some 1) = sls say1 := (cutW_first (n := 1)).trans rfl
  have v5 : fTup [.str "try", .tup (sls say3), .str "n", .tup (sls say1)] h1 = .ok (Sy.val (.tri say3 "n" say1)) h1 := tupV (by simp)
  have v6 : fTup [.str "if", .int 1, .tup (sls say3), .tup []] h1 = .ok (Sy.val (.iff (.num 1) say3 [])) h1 := tupV (by simp)
  have t0 : fTup [] h1 = .ok (.tup []) h1 := tupV (by simp)
  have l1 : fLst [Sy.val (.plain "say" (bal 5 5)), Sy.val (.iff (bal 5 5) [] []), Sy.val (.whl (bal 5 4) [])] h1 = .ok (.lst [Sy.val (.plain "say" (bal 5 5)), Sy.val (.iff (bal 5 5) [] []), Sy.val (.whl (bal 5 4) [])]) h1 := lstV (by simp)
  have l2 : fLst [Sy.val (.whl (bal 5 5) []), Sy.val (.tri say3 "n" say1), Sy.val (.iff (.num 1) say3 [])] h1 = .ok (.lst [Sy.val (.whl (bal 5 5) []), Sy.val (.tri say3 "n" say1), Sy.val (.iff (.num 1) say3 [])]) h1 := lstV (by simp)
  have ad : bAdd (.lst [Sy.val (.plain "say" (bal 5 5)), Sy.val (.iff (bal 5 5) [] []), Sy.val (.whl (bal 5 4) [])]) (.lst [Sy.val (.whl (bal 5 5) []), Sy.val (.tri say3 "n" say1), Sy.val (.iff (.num 1) say3 [])]) h1 = .ok (.lst (sls last6)) h1 := by
    rw [addVL (by simp)]
    rfl
  have im : itmV (.lst (sls last6)) h1 = .ok (.st (sls last6), 6) h1 := rfl
  generalize (bal 5 8).val = x8 at k8 u1
  generalize (bal 5 5).val = x5 at k5 v1 v2 v4
  generalize (bal 5 4).val = x4 at k4 v3
  generalize Sy.val (.plain "say" (bal 5 8)) = y1 at u1 u2
  generalize Sy.val (.plain "say" (bal 5 5)) = y2 at v1 l1 ad
  generalize Sy.val (.iff (bal 5 5) [] []) = y3 at v2 l1 ad
  generalize Sy.val (.whl (bal 5 4) []) = y4 at v3 l1 ad
  generalize Sy.val (.whl (bal 5 5) []) = y5 at v4 l2 ad
  generalize Sy.val (.tri say3 "n" say1) = y6 at v5 l2 ad
  generalize Sy.val (.iff (.num 1) say3 []) = y7 at v6 l2 ad
  generalize sls last6 = q6 at *
  generalize sls say1 = q1 at *
  generalize sls say3 = q3 at *
  unfold lawB
  rw [nSeq_e, nFor_e, iRgN_e]
  simp -implicitDefEqProofs only [aCons_e, sArgs_e, sC_e, sVar_0, aNil_e, ob_ok, ln, hx, e1]
  rw [if_pos (show [Val.int (n : Int)].length = 1 from rfl), rg, sb_ok, el, sq_nx]
  simp -implicitDefEqProofs only [nSeq_e, nSet_e, sBin_e, sArgs_e, aCons_e, sC_e, aNil_e, ob_ok, sCall_e, List.length_cons, List.length_nil, if_true, and_self, k8, u1, u2, ml, sb_ok, sq_nx, List.set_cons_zero, List.set_cons_succ, k5, v1, t0, v2, k4, v3, l1, sVar_s, sVar_0, sVar_1, sVar_2, v4, sSl_e, oNone_e, oSome_e, unI_i, sl_t, cut, v5, v6, l2, ad, nFor_e, iVal_e, im, el2, nRet_e, sq_ret, outOf_ret]
end
theorem law_true : ∀ C_Busy C_MADE C_NoHook C_NoMark C_NoNumbers C_NoPart C_NoProgram C_NoRow C_NoText C_NoWord C_TooLong C_TooMany C_Unsound C_rows_of_if C_rows_of_plain C_rows_of_set C_rows_of_try C_rows_of_while : Addr, C_rows_of_if ≠ C_rows_of_plain → C_rows_of_if ≠ C_rows_of_set → C_rows_of_if ≠ C_rows_of_try → C_rows_of_if ≠ C_rows_of_while → C_rows_of_plain ≠ C_rows_of_set → C_rows_of_plain ≠ C_rows_of_try → C_rows_of_plain ≠ C_rows_of_while → C_rows_of_set ≠ C_rows_of_try → C_rows_of_set ≠ C_rows_of_while → C_rows_of_try ≠ C_rows_of_while → ∀ ns : List Int, ns.length ≤ 63 → (∀ z ∈ ns, Builtin.Int.intBits z ≤ 1048576) → ∃ h, F_law C_Busy C_MADE C_NoHook C_NoMark C_NoNumbers C_NoPart C_NoProgram C_NoRow C_NoText C_NoWord C_TooLong C_TooMany C_Unsound C_rows_of_if C_rows_of_plain C_rows_of_set C_rows_of_try C_rows_of_while [.scr ns] [] = .ok (.bl true) h := by
  intro C_Busy C_MADE C_NoHook C_NoMark C_NoNumbers C_NoPart C_NoProgram C_NoRow C_NoText C_NoWord C_TooLong C_TooMany C_Unsound C_rows_of_if C_rows_of_plain C_rows_of_set C_rows_of_try C_rows_of_while n1 n2 n3 n4 n5 n6 n7 n8 n9 n10 ns _ _
  have U : Unl C_rows_of_if C_rows_of_plain C_rows_of_set C_rows_of_try C_rows_of_while := ⟨n1, n2, n3, n4, n5, n6, n7, n8, n9, n10⟩
  rw [e_law, law_is]
  exact law_all (fun ps h t => by
    obtain ⟨h', e, _⟩ := ev_right (C_Busy := C_Busy) (C_MADE := C_MADE) (C_NoHook := C_NoHook) (C_NoMark := C_NoMark) (C_NoNumbers := C_NoNumbers) (C_NoPart := C_NoPart) (C_NoProgram := C_NoProgram) (C_NoRow := C_NoRow) (C_NoText := C_NoText) (C_NoWord := C_NoWord) (C_TooLong := C_TooLong) (C_TooMany := C_TooMany) (C_Unsound := C_Unsound) U (h := h) t
    exact ⟨h', e⟩) (fun ps h t => by
    obtain ⟨h', e, _⟩ := ev_told (C_Busy := C_Busy) (C_MADE := C_MADE) (C_NoHook := C_NoHook) (C_NoMark := C_NoMark) (C_NoNumbers := C_NoNumbers) (C_NoPart := C_NoPart) (C_NoProgram := C_NoProgram) (C_NoRow := C_NoRow) (C_NoText := C_NoText) (C_NoWord := C_NoWord) (C_TooLong := C_TooLong) (C_TooMany := C_TooMany) (C_Unsound := C_Unsound) U (h := h) (fun p hp => (t.k p hp).w) t.l
    exact ⟨h', e⟩) ns
end K08
open PySem PySem.W PyProof.Rows
set_option maxRecDepth 100000 in
set_option maxHeartbeats 0 in
theorem PySem.Challenge.cw_watchedrun_k08_trees_made_holds : PySem.Challenge.rw_watchedrun_k08_trees_made.Holds := by
  w_on; o_law; k_head; (case hw => w_witness2)
  k_fill
  refine Z.walk (k := 39) (x := "_law_script") (l := PySem.Challenge.rw_watchedrun_k08_trees_made) rfl rfl ⟨⟨rfl, by decide, by decide⟩, rfl⟩ (fun w h Y => PySem.W.kIn_of Y) ?F
  case F =>
    intro w mg fa h KX G hmg
    refine K08.fin K08.law_true hmg ?_
    refine' K08.txt_mk KX G ?zz_OverflowError ?zz_abs ?zz_int ?zz_isinstance ?zz_len ?zz_max ?zz_min ?zz_range ?zz_repr ?zz_sorted ?zz_tuple ?n_MOST_ROWS ?n_MADE ?d_MADE ?n_TooLong ?n_Unsound ?n_NoHook ?n_NoMark ?n_NoNumbers ?n_NoPart ?n_NoProgram ?n_NoRow ?n_NoText ?n_NoWord ?n_TooMany ?n_Busy ?nxL_TooLong ?nsa_TooLong ?nga_TooLong ?ngg_TooLong ?nnb_TooLong ?na1_TooLong ?nt1_TooLong ?nl1_TooLong ?nc1_TooLong ?nkC_TooLong ?neC_TooLong ?ntC_TooLong ?nhC_TooLong ?niC_TooLong ?nsC_TooLong ?xg_TooLong ?xk_TooLong ?xs_TooLong ?xd_TooLong ?xa_TooLong ?xn_TooLong ?xt_TooLong ?xm_TooLong ?i_0 ?i_1 ?i_2 ?n_rows_of_value ?l_rows_of_value ?c_rows_of_value ?k_rows_of_value ?n_rows_of_plain ?l_rows_of_plain ?c_rows_of_plain ?k_rows_of_plain ?n_rows_of_set ?l_rows_of_set ?c_rows_of_set ?k_rows_of_set ?n_rows_of_if ?l_rows_of_if ?c_rows_of_if ?k_rows_of_if ?n_rows_of_while ?l_rows_of_while ?c_rows_of_while ?k_rows_of_while ?n_rows_of_try ?l_rows_of_try ?c_rows_of_try ?k_rows_of_try ?n_rows_of_sayings ?l_rows_of_sayings ?c_rows_of_sayings ?k_rows_of_sayings ?n_made ?l_made ?c_made ?k_made ?n__law_bag ?l__law_bag ?c__law_bag ?k__law_bag ?n__law_take ?l__law_take ?c__law_take ?k__law_take ?n__law_worth ?l__law_worth ?c__law_worth ?k__law_worth ?n__law_value ?l__law_value ?c__law_value ?k__law_value ?n__law_saying ?l__law_saying ?c__law_saying ?k__law_saying ?n__law_sayings ?l__law_sayings ?c__law_sayings ?k__law_sayings ?n__law_tree ?l__law_tree ?c__law_tree ?k__law_tree ?n__law_emit_value ?l__law_emit_value ?c__law_emit_value ?k__law_emit_value ?n__law_emit_one ?l__law_emit_one ?c__law_emit_one ?k__law_emit_one ?n__law_emit ?l__law_emit ?c__law_emit ?k__law_emit ?n__law_rows ?l__law_rows ?c__law_rows ?k__law_rows ?n__law_short ?l__law_short ?c__law_short ?k__law_short ?n__law_told ?l__law_told ?c__law_told ?k__law_told ?n__law_due ?l__law_due ?c__law_due ?k__law_due ?n__law_right ?l__law_right ?c__law_right ?k__law_right ?n__law_balanced ?l__law_balanced ?c__law_balanced ?k__law_balanced ?n_law ?l_law ?c_law ?k_law ?y_MADE_set ?y_MADE_say ?y_MADE_back ?y_MADE_throw ?y_MADE_if ?y_MADE_while ?y_MADE_try
    (case zz_OverflowError => k_is)
    (case zz_abs => k_is)
    (case zz_int => k_is)
    (case zz_isinstance => k_is)
    (case zz_len => k_is)
    (case zz_max => k_is)
    (case zz_min => k_is)
    (case zz_range => k_is)
    (case zz_repr => k_is)
    (case zz_sorted => k_is)
    (case zz_tuple => k_is)
    (case n_MOST_ROWS => k_is)
    (case n_MADE => k_is)
    (case d_MADE => first | rfl | k_is)
    (case n_TooLong => k_is)
    (case n_Unsound => k_is)
    (case n_NoHook => k_is)
    (case n_NoMark => k_is)
    (case n_NoNumbers => k_is)
    (case n_NoPart => k_is)
    (case n_NoProgram => k_is)
    (case n_NoRow => k_is)
    (case n_NoText => k_is)
    (case n_NoWord => k_is)
    (case n_TooMany => k_is)
    (case n_Busy => k_is)
    (case nxL_TooLong => k_is)
    (case nsa_TooLong => k_is)
    (case nga_TooLong => k_is)
    (case ngg_TooLong => k_is)
    (case nnb_TooLong => k_is)
    (case na1_TooLong => k_is)
    (case nt1_TooLong => k_is)
    (case nl1_TooLong => k_is)
    (case nc1_TooLong => k_is)
    (case nkC_TooLong => k_is)
    (case neC_TooLong => k_is)
    (case ntC_TooLong => k_is)
    (case nhC_TooLong => k_is)
    (case niC_TooLong => k_is)
    (case nsC_TooLong => first | rfl | k_is)
    (case xg_TooLong => first | k_is | rfl | decide +kernel)
    (case xk_TooLong => first | k_is | rfl | decide +kernel)
    (case xs_TooLong => first | k_is | rfl | decide +kernel)
    (case xd_TooLong => first | k_is | rfl | decide +kernel)
    (case xa_TooLong => first | k_is | rfl | decide +kernel)
    (case xn_TooLong => first | k_is | rfl | decide +kernel)
    (case xt_TooLong => first | k_is | rfl | decide +kernel)
    (case xm_TooLong => first | k_is | rfl | decide +kernel)
    (case i_0 => first | k_is | rfl | decide +kernel)
    (case i_1 => first | k_is | rfl | decide +kernel)
    (case i_2 => first | k_is | rfl | decide +kernel)
    (case n_rows_of_value => k_is)
    (case l_rows_of_value => k_is)
    (case c_rows_of_value => k_is)
    (case k_rows_of_value => k_is)
    (case n_rows_of_plain => k_is)
    (case l_rows_of_plain => k_is)
    (case c_rows_of_plain => k_is)
    (case k_rows_of_plain => k_is)
    (case n_rows_of_set => k_is)
    (case l_rows_of_set => k_is)
    (case c_rows_of_set => k_is)
    (case k_rows_of_set => k_is)
    (case n_rows_of_if => k_is)
    (case l_rows_of_if => k_is)
    (case c_rows_of_if => k_is)
    (case k_rows_of_if => k_is)
    (case n_rows_of_while => k_is)
    (case l_rows_of_while => k_is)
    (case c_rows_of_while => k_is)
    (case k_rows_of_while => k_is)
    (case n_rows_of_try => k_is)
    (case l_rows_of_try => k_is)
    (case c_rows_of_try => k_is)
    (case k_rows_of_try => k_is)
    (case n_rows_of_sayings => k_is)
    (case l_rows_of_sayings => k_is)
    (case c_rows_of_sayings => k_is)
    (case k_rows_of_sayings => k_is)
    (case n_made => k_is)
    (case l_made => k_is)
    (case c_made => k_is)
    (case k_made => k_is)
    (case n__law_bag => k_is)
    (case l__law_bag => k_is)
    (case c__law_bag => k_is)
    (case k__law_bag => k_is)
    (case n__law_take => k_is)
    (case l__law_take => k_is)
    (case c__law_take => k_is)
    (case k__law_take => k_is)
    (case n__law_worth => k_is)
    (case l__law_worth => k_is)
    (case c__law_worth => k_is)
    (case k__law_worth => k_is)
    (case n__law_value => k_is)
    (case l__law_value => k_is)
    (case c__law_value => k_is)
    (case k__law_value => k_is)
    (case n__law_saying => k_is)
    (case l__law_saying => k_is)
    (case c__law_saying => k_is)
    (case k__law_saying => k_is)
    (case n__law_sayings => k_is)
    (case l__law_sayings => k_is)
    (case c__law_sayings => k_is)
    (case k__law_sayings => k_is)
    (case n__law_tree => k_is)
    (case l__law_tree => k_is)
    (case c__law_tree => k_is)
    (case k__law_tree => k_is)
    (case n__law_emit_value => k_is)
    (case l__law_emit_value => k_is)
    (case c__law_emit_value => k_is)
    (case k__law_emit_value => k_is)
    (case n__law_emit_one => k_is)
    (case l__law_emit_one => k_is)
    (case c__law_emit_one => k_is)
    (case k__law_emit_one => k_is)
    (case n__law_emit => k_is)
    (case l__law_emit => k_is)
    (case c__law_emit => k_is)
    (case k__law_emit => k_is)
    (case n__law_rows => k_is)
    (case l__law_rows => k_is)
    (case c__law_rows => k_is)
    (case k__law_rows => k_is)
    (case n__law_short => k_is)
    (case l__law_short => k_is)
    (case c__law_short => k_is)
    (case k__law_short => k_is)
    (case n__law_told => k_is)
    (case l__law_told => k_is)
    (case c__law_told => k_is)
    (case k__law_told => k_is)
    (case n__law_due => k_is)
    (case l__law_due => k_is)
    (case c__law_due => k_is)
    (case k__law_due => k_is)
    (case n__law_right => k_is)
    (case l__law_right => k_is)
    (case c__law_right => k_is)
    (case k__law_right => k_is)
    (case n__law_balanced => k_is)
    (case l__law_balanced => k_is)
    (case c__law_balanced => k_is)
    (case k__law_balanced => k_is)
    (case n_law => k_is)
    (case l_law => k_is)
    (case c_law => k_is)
    (case k_law => k_is)
    (case y_MADE_set => k_is)
    (case y_MADE_say => k_is)
    (case y_MADE_back => k_is)
    (case y_MADE_throw => k_is)
    (case y_MADE_if => k_is)
    (case y_MADE_while => k_is)
    (case y_MADE_try => k_is)
#print axioms PySem.Challenge.cw_watchedrun_k08_trees_made_holds
