import PyProof.Rows.All
import Wide.All
import OpenK.AllK
import Wide.FinOn
import HandS.List
import HandS.TupAny
import HandS.ForMost
import HandS.Exc
import HandS.TryOnly
import HandS.ExcOwn
import HandS.ExcCtx
import HandS.HotCalls
import HandS.Defaults
import HandS.WordsExc
import HandS.EndBits
import HandS.Flow
import HandS.Wide
import HandS.Conv
import KE.GoesMore
import PyProof.EnumMake
import HandS.Iter
import HandS.Strs
import HandS.IsInst
import PyProof.ReprRoads
import PyProof.StrOps2
import HandS.Text
import HandS.Sort
import PyProof.CollectIter
import PyProof.WalksMore
import KE.KUnpack
import HandS.More
import HandS.RaiseMore
import HandS.StrMore
import HandS.CallLocal
import HandS.HeadHook3
import HandS.IntHex
import KE.KIntText
import KE.KRevSl
import KE.KIsAll
import HandS.ExcIs
import HandS.TupMul
import HandS.Style
import PyProof.Rows.IntBool
import PyProof.Rows.TupMore
import HandS.ExcField
import HandS.TryMany
import HandS.ExcInit
import Open.SpecLaws
import KE.OsGo
import HandS.Dict
import HandS.WordsDict
import HandS.DictComp
import KE.KExcInit
import PyProof.ExcBaseAll.LookupError
import HandS.SuiteRaise
import HandS.RaiseFrom
import HandS.ExcInitHot
import HandS.ExcBuiltin
import HandS.Zip
import KE.KDictZip
import HandS.SortOrd
import HandS.SortRule
import HandS.DictTup
import KE.KSortTupAny
import PyProof.ExcBaseAll.IndexError
import PyProof.ReprLen
import PyProof.StrLawsRepr
import PyProof.FitsInt
import HandS.Finally
import HandS.ListItems
import KE.GoesComp
import KE.GoesEnumKw
import KE.KDictPairs
import PyProof.ExcBaseAll.Exception
import PyProof.ExcBaseAll.OverflowError
import PyProof.NeKinds
import PyProof.Rows.IntOr
import PySem.Challenge.RW_watchedrun_k03_parts_and_rows
set_option Elab.async false
set_option maxRecDepth 100000
set_option linter.unusedVariables false
set_option linter.all false
set_option maxHeartbeats 4000000
set_option linter.unusedSimpArgs false
/-! ZT: tuples laid with their object, which has no dict of its own; t.count(x). -/
namespace Z
open PySem PySem.Spec PyProof.Rows L2
/-- a tuple with its object -/
def FT (u : HO) (xs : List V) : Prop := ∃ o : Obj, u = .frz o (.tup xs) ∧ o.cls = .type "tuple" ∧ o.dict = none
def newT (its : Array Value) : Obj := { cls := .type "tuple", data := .seq its }
section
variable {X : Cx} {pins : List (Addr × Obj)} {σ : L2.St} {H : Hp} {s : Shared}
theorem ft_new {its : List Value} {xs : List V} : FT (.frz (newT its.toArray) (.tup xs)) xs := ⟨_, rfl, rfl, rfl⟩
theorem laidT {h' : Heap} {tk : Nat} {its : List Value} {xs : List V} (I : Inv X pins σ H s) (k : ∀ b o, s.heap.get? b = some o → h'.get? b = some o) (n : s.heap.objs.size ≤ h'.objs.size) (r : Vals xs its) (l : xs.length ≤ sizeLine) :
    Inv X pins σ (upd H h'.objs.size (.frz (newT its.toArray) (.tup xs))) { s with heap := h'.push { cls := .type "tuple", data := .seq its.toArray }, toks := tk } :=
  I.laid (o := .frz (newT its.toArray) (.tup xs)) (fun b o e => Heap.get?_push_of_some _ (k b o e)) n ⟨Heap.get?_push_size _ rfl, l, its, r, IsTup.new _ _⟩
end
section
variable {X : Cx} {es : List Expr} {t : TA} {pos : Pos}
def tTupF (t : TA) : TE := fun σ H Q => t σ H fun xs H1 => xs.length ≤ sizeLine ∧ ∀ p u, H1 p = none → FT u xs → Q (.ref p) (upd H1 p u)
theorem pe_tupF {x1} (h : PA X es t) : PE X (.Tuple es x1 pos) (tTupF t) := by
  refine ⟨fun pins s σ H Q I hq => ?_⟩
  refine wpAny_Tuple_spliced (thn (h.run pos pins s σ H _ I hq) fun us s1 ⟨xs, H1, I1, r, z, q⟩ => ⟨by rw [← r.length]; exact z, ?_⟩)
  exact ⟨.ref s1.heap.objs.size, _, laidT (tk := s1.toks) I1 (fun _ _ e => e) (Nat.le_refl _) r z, rfl, q _ _ (I1.hok.fresh (Nat.le_refl _)) ft_new⟩
/-- t + u -/
def rCatF (K : PySem.W.Frag) : R2 := fun x y H Q => ∃ a b xs ys, x = .ref a ∧ y = .ref b ∧ SqT K H a xs ∧ SqT K H b ys ∧ xs.length + ys.length ≤ sizeLine ∧
  (xs = [] → Q (.ref b) H) ∧ (xs ≠ [] → ys = [] → Q (.ref a) H) ∧ (xs ≠ [] → ys ≠ [] → ∀ p u, H p = none → FT u (xs ++ ys) → Q (.ref p) (upd H p u))
theorem op_catF : OpR X (binaryOp .Add) (rCatF X.K) := by
  intro pins s σ H x y v u Q I rx ry h
  obtain ⟨a, b, xs, ys, rfl, rfl, ha, hb, hz, q0, q1, q2⟩ := h
  cases rx
  cases ry
  obtain ⟨its, r1, p1, _⟩ := I.tuple ha
  obtain ⟨its2, r2, p2, _⟩ := I.tuple hb
  by_cases hx : xs = []
  · subst hx
    cases r1
    exact cat_tup0 p1 p2 ⟨.ref b, H, I, rfl, q0 rfl⟩
  · refine HT.cat_tup p1 p2 (fun z => hx (r1.nil_iff.mp z)) (fun z => ⟨.ref a, H, I, rfl, q1 hx (r2.nil_iff.mp z)⟩) (fun z => ?_) (by rw [← r1.length, ← r2.length]; exact hz)
    exact ⟨.ref s.heap.objs.size, _, laidT (tk := s.toks) I (fun _ _ e => e) (Nat.le_refl _) (r1.append r2) (by rw [List.length_append]; exact hz), rfl, q2 hx (fun w => z (r2.nil_iff.mpr w)) _ _ (I.hok.fresh (Nat.le_refl _)) ft_new⟩
/-- t[lo:hi] -/
def rSlF (K : PySem.W.Frag) : V → Option Int → Option Int → Hp → VK → Prop := fun x lo hi H Q => ∃ a xs, x = .ref a ∧ SqT K H a xs ∧
  (HT.sIx xs.length 0 lo = 0 ∧ HT.sIx xs.length xs.length hi = xs.length → Q (.ref a) H) ∧ (¬ (HT.sIx xs.length 0 lo = 0 ∧ HT.sIx xs.length xs.length hi = xs.length) → ∀ p u, H p = none → FT u (cutV xs lo hi) → Q (.ref p) (upd H p u))
theorem sl_tupF : SlR X (rSlF X.K) := by
  intro pins s σ H x v vl vu lo hi sl Q I rx hs pl pu h
  obtain ⟨a, xs, rfl, hx, q1, q2⟩ := h
  cases rx
  obtain ⟨its, r, ht, hz⟩ := I.tuple hx
  have hlen : its.toArray.size = xs.length := by rw [List.size_toArray]; exact r.length.symm
  refine ⟨"tuple", _, PyProof.Rows.slot_tuple_getitem.lookup, ht.typeIs, ?_⟩
  by_cases hw : HT.sIx xs.length 0 lo = 0 ∧ HT.sIx xs.length xs.length hi = xs.length
  · exact getItem_tuple_whole ht hs pl pu (by rw [hlen]; exact hw) ⟨.ref a, H, I, rfl, q1 hw⟩
  · refine HT.getItem_tuple_cut ht hs pl pu (by rw [hlen]; exact hw) ?_ (by rw [hlen]; exact hz)
    rw [hlen]
    exact ⟨.ref s.heap.objs.size, _, laidT (tk := s.toks) I (fun _ _ e => e) (Nat.le_refl _) ((r.drop (HT.sIx xs.length 0 lo)).take (HT.sIx xs.length xs.length hi - HT.sIx xs.length 0 lo)) (Nat.le_trans (cutV_length xs lo hi) hz), rfl, q2 hw _ _ (I.hok.fresh (Nat.le_refl _)) ft_new⟩
/-- tuple(x) -/
theorem call_tupleF : CallR X (.type "tuple") (fun xs H Q => ∃ p ys, xs = [.ref p] ∧ ((SqL X.K H p ys ∧ ∀ l u, H l = none → FT u ys → Q (.ref l) (upd H l u)) ∨ (SqT X.K H p ys ∧ Q (.ref p) H))) := by
  intro pins s σ H xs us Q I r h
  obtain ⟨p, ys, rfl, h⟩ := h
  obtain ⟨u, rfl, rx⟩ := vals1 r
  cases rx
  rcases h with ⟨hq, q⟩ | ⟨hq, q⟩
  · obtain ⟨its, r', pl, hz⟩ := I.list hq
    have hlen := r'.length
    refine call_tuple_list pl.isList (fun h' kp => ?_) (by simp only [List.size_toArray] <;> omega)
    have I1 : Inv X pins σ H { s with heap := h' } := I.kept (t' := s.toks) kp
    exact ⟨.ref h'.objs.size, _, laidT (s := { s with heap := h' }) (tk := s.toks) I1 (fun _ _ e => e) (Nat.le_refl _) r' hz, rfl, q _ _ (I1.hok.fresh (Nat.le_refl _)) ft_new⟩
  · obtain ⟨its, r', pl, hz⟩ := I.tuple hq
    exact call_tuple_same pl ⟨.ref p, H, I, rfl, q⟩
/-! ### t.count(x) -/
/-- a tuple that is known to have no dict of its own -/
def NoD (K : PySem.W.Frag) (H : Hp) (a : Addr) (xs : List V) : Prop := (∃ u, H a = some u ∧ FT u xs) ∨
  ∃ (o : Obj) (its : Array Value) (n : Nat), K.lookup a = some o ∧ o.cls = .type "tuple" ∧ o.dict = none ∧ o.data = .seq its n ∧ its.size ≤ sizeLine ∧ Vals xs its.toList
theorem NoD.sq {K : PySem.W.Frag} {a : Addr} {xs : List V} {H : Hp} (h : NoD K H a xs) : SqT K H a xs := by
  rcases h with ⟨u, e, o, rfl, _, _⟩ | ⟨o, its, n, a, b, c, d, e, f⟩
  · exact .inl (.inr ⟨o, e⟩)
  · exact .inr ⟨o, its, n, a, b, d, e, f⟩
theorem NoD.there {X : Cx} {pins : List (Addr × Obj)} {σ : L2.St} {H : Hp} {s : Shared} {a : Addr} {xs : List V} (h : NoD X.K H a xs) (I : Inv X pins σ H s) : ∃ o, s.heap.get? a = some o ∧ o.cls = .type "tuple" ∧ o.dict = none := by
  rcases h with ⟨u, e, o, rfl, c, d⟩ | ⟨o, its, n, a, b, c, _⟩
  · exact ⟨o, (show s.heap.get? a = some o ∧ _ from I.hok a _ e).1, c, d⟩
  · exact ⟨o, I.kIn _ o a, b, c⟩
variable {o e : Expr} {to te : TE} {apos cpos : Pos}
end
end Z
/-! Z0: own values and heaps, how they stand in the layer's heap, the readings made of own programs. -/
namespace Z
open PySem PySem.Spec PyProof.Rows L2

/-- own values: tuples and lists that stay as they are stand inline; ref: an own object -/
inductive Val where
  | non | bl (b : Bool) | int (i : Int) | str (x : Str)
  | tup (xs : List Val) | lst (xs : List Val)
  | ref (n : Nat) | glo (a : Addr) | ty (n : String) | scr (ns : List Int)
  /-- a caught exception at a, its fields at dd -/
  | exn (a dd : Addr) (ns : List Str) (ws : List Val)
/-- own objects -/
inductive Ob where
  | lst (xs : List Val)
  | dic (kvs : List (Key × Val))
  | ins (C : Addr) (fs : List (Str × Val))
abbrev HH := List Ob
structure Ex where
  cls : Value
  fs : List (Str × Val)
inductive Out (β : Type) where
  | bad
  | ok (a : β) (h : HH)
  | ex (e : Ex) (h : HH)
abbrev M (β : Type) := HH → Out β
abbrev En := List (Option Val)
abbrev SE := En → M Val
def obind {β γ : Type} (o : Out β) (f : β → M γ) : Out γ := match o with
  | .bad => .bad
  | .ok a h => f a h
  | .ex e h => .ex e h
def bind {β γ : Type} (m : M β) (f : β → M γ) : M γ := fun h => obind (m h) f
def ret {β : Type} (a : β) : M β := fun h => .ok a h
def fail {β : Type} : M β := fun _ => .bad
theorem obind_ok {β γ : Type} (a : β) (h : HH) (f : β → M γ) : obind (.ok a h) f = f a h := rfl
/-! ### how they stand -/
/-- the thing at a stays as it is: al the own objects' addresses, B those that are being made -/
def At (al B : List Addr) (H : Hp) (a : Addr) (u : HO) : Prop := (H a = some u ∨ ∃ o, H a = some (.frz o u)) ∧ a ∉ al ∧ a ∉ B
def At1 (al B : List Addr) (H : Hp) (a : Addr) (u : HO) : Prop := H a = some u ∧ a ∉ al ∧ a ∉ B
def KL (K : PySem.W.Frag) (a : Addr) (xs : List V) : Prop :=
  ∃ (o : Obj) (its : Array Value) (n : Nat), K.lookup a = some o ∧ o.cls = .type "list" ∧ o.dict = none ∧ o.data = .seq its n ∧ its.size ≤ sizeLine ∧ Vals xs its.toList
def AtT (al B : List Addr) (H : Hp) (a : Addr) (xs : List V) : Prop := ∃ u, At1 al B H a u ∧ FT u xs
def KT (K : PySem.W.Frag) (a : Addr) (xs : List V) : Prop :=
  ∃ (o : Obj) (its : Array Value) (n : Nat), K.lookup a = some o ∧ o.cls = .type "tuple" ∧ o.dict = none ∧ o.data = .seq its n ∧ its.size ≤ sizeLine ∧ Vals xs its.toList
mutual
inductive Rep (K : PySem.W.Frag) (al B : List Addr) (H : Hp) : Val → V → Prop
  | non : Rep K al B H .non .non
  | bl (b : Bool) : Rep K al B H (.bl b) (.bl b)
  | int (i : Int) : Rep K al B H (.int i) (.int i)
  | str (x : Str) : Rep K al B H (.str x) (.str x)
  | tup {a : Addr} {xs : List Val} {vs : List V} : (AtT al B H a vs ∨ KT K a vs) → xs.length ≤ sizeLine → Reps K al B H xs vs → Rep K al B H (.tup xs) (.ref a)
  | lst {a : Addr} {xs : List Val} {vs : List V} : At1 al B H a (.lst vs) → xs.length ≤ sizeLine → Reps K al B H xs vs → Rep K al B H (.lst xs) (.ref a)
  | ref {n : Nat} {a : Addr} : al[n]? = some a → Rep K al B H (.ref n) (.ref a)
  | glo (a : Addr) : Rep K al B H (.glo a) (.ref a)
  | ty (n : String) : Rep K al B H (.ty n) (.ty n)
  | scr {a : Addr} {ns : List Int} : (At al B H a (.lst (ns.map V.int)) ∨ KL K a (ns.map V.int)) → ns.length ≤ sizeLine → Rep K al B H (.scr ns) (.ref a)
  | exn {a dd : Addr} {ns : List Str} {ws : List Val} {gs : List (Str × V)} : At1 al B H dd (.xd gs) → ns = gs.map (·.1) → Reps K al B H ws (gs.map (·.2)) → Rep K al B H (.exn a dd ns ws) (.ref a)
inductive Reps (K : PySem.W.Frag) (al B : List Addr) (H : Hp) : List Val → List V → Prop
  | nil : Reps K al B H [] []
  | cons {x : Val} {xs : List Val} {v : V} {vs : List V} : Rep K al B H x v → Reps K al B H xs vs → Reps K al B H (x :: xs) (v :: vs)
end
/-- an own object -/
inductive ObR (K : PySem.W.Frag) (al B : List Addr) (H : Hp) : Ob → Addr → Prop
  | lst {a : Addr} {xs : List Val} {vs : List V} : H a = some (.lst vs) → xs.length ≤ sizeLine → Reps K al B H xs vs → ObR K al B H (.lst xs) a
  | dic {a : Addr} {kvs : List (Key × Val)} {kws : List (Key × V)} : H a = some (.dK kws) → kvs.map (·.1) = kws.map (·.1) → Reps K al B H (kvs.map (·.2)) (kws.map (·.2)) → ObR K al B H (.dic kvs) a
  | ins {a C dx : Addr} {fs : List (Str × Val)} {gs : List (Str × V)} : H a = some (.ins C dx gs) → fs.map (·.1) = gs.map (·.1) → Reps K al B H (fs.map (·.2)) (gs.map (·.2)) → ObR K al B H (.ins C fs) a
structure HR (K : PySem.W.Frag) (al B : List Addr) (H : Hp) (h : HH) : Prop where
  nd : al.Nodup
  len : al.length = h.length
  ob : ∀ (n : Nat) (a : Addr) (o : Ob), al[n]? = some a → h[n]? = some o → ObR K al B H o a
  live : ∀ a ∈ B, H a ≠ none
  apart : ∀ a ∈ B, a ∉ al
/-- a step: what isn't own stays, own ones may be added -/
structure Stp (al : List Addr) (H : Hp) (al' : List Addr) (H' : Hp) : Prop where
  more : ∃ be, al' = al ++ be ∧ ∀ b ∈ be, H b = none
  keep : ∀ a o, H a = some o → a ∉ al → H' a = some o
  up : ∀ a, H a ≠ none → H' a ≠ none
theorem Stp.refl (al : List Addr) (H : Hp) : Stp al H al H := ⟨⟨[], by simp, by simp⟩, fun _ _ e _ => e, fun _ e => e⟩
theorem Stp.notin {al al' : List Addr} {H H' : Hp} (s : Stp al H al' H') {a : Addr} (h : H a ≠ none) (n : a ∉ al) : a ∉ al' := by
  obtain ⟨be, e, f⟩ := s.more
  intro q
  rw [e] at q
  rcases List.mem_append.mp q with q | q
  · exact n q
  · exact h (f a q)
theorem Stp.trans {al al1 al2 : List Addr} {H H1 H2 : Hp} (s : Stp al H al1 H1) (t : Stp al1 H1 al2 H2) : Stp al H al2 H2 := by
  obtain ⟨be, e, f⟩ := s.more
  obtain ⟨ga, e2, g⟩ := t.more
  refine ⟨⟨be ++ ga, by rw [e2, e, List.append_assoc], fun b hb => ?_⟩, fun a o q n => ?_, fun a q => t.up a (s.up a q)⟩
  · rcases List.mem_append.mp hb with q | q
    · exact f b q
    · have := g b q
      cases z : H b with
      | none => rfl
      | some o => exact absurd this (s.up b (by rw [z]; simp))
  · exact t.keep a o (s.keep a o q n) (s.notin (by rw [q]; simp) n)
/-- a step in which those that are being made may change -/
structure StpB (B al : List Addr) (H : Hp) (al' : List Addr) (H' : Hp) : Prop where
  more : ∃ be, al' = al ++ be ∧ ∀ b ∈ be, H b = none
  keep : ∀ a o, H a = some o → a ∉ al → a ∉ B → H' a = some o
  up : ∀ a, H a ≠ none → H' a ≠ none
theorem Stp.toB {B al al' : List Addr} {H H' : Hp} (s : Stp al H al' H') : StpB B al H al' H' := ⟨s.more, fun a o e n _ => s.keep a o e n, s.up⟩
theorem StpB.notin {B al al' : List Addr} {H H' : Hp} (s : StpB B al H al' H') {a : Addr} (h : H a ≠ none) (n : a ∉ al) : a ∉ al' := by
  obtain ⟨be, e, f⟩ := s.more
  intro q
  rw [e] at q
  rcases List.mem_append.mp q with q | q
  · exact n q
  · exact h (f a q)
theorem StpB.trans {B al al1 al2 : List Addr} {H H1 H2 : Hp} (s : StpB B al H al1 H1) (t : StpB B al1 H1 al2 H2) : StpB B al H al2 H2 := by
  obtain ⟨be, e, f⟩ := s.more
  obtain ⟨ga, e2, g⟩ := t.more
  refine ⟨⟨be ++ ga, by rw [e2, e, List.append_assoc], fun b hb => ?_⟩, fun a o q n m => ?_, fun a q => t.up a (s.up a q)⟩
  · rcases List.mem_append.mp hb with q | q
    · exact f b q
    · have := g b q
      cases z : H b with
      | none => rfl
      | some o => exact absurd this (s.up b (by rw [z]; simp))
  · exact t.keep a o (s.keep a o q n m) (s.notin (by rw [q]; simp) n) m
theorem StpB.turn {B al al' : List Addr} {H H' : Hp} (s : StpB B al H al' H') {D : Addr} {u : HO} (n : D ∈ B) : StpB B al H al' (upd H' D u) :=
  ⟨s.more, fun a o e m b => by rw [upd_ne (a := D) (b := a) (fun z => b (by rw [z]; exact n))]; exact s.keep a o e m b, fun a q => by
    by_cases z : a = D
    · subst z; rw [upd_same]; simp
    · rw [upd_ne z]; exact s.up a q⟩
theorem At.stepW {al al' B : List Addr} {H H' : Hp} {a : Addr} {u : HO} (s : StpB B al H al' H') (x : At al B H a u) : (H' a = some u ∨ ∃ o, H' a = some (.frz o u)) ∧ a ∉ al' := by
  obtain ⟨q, n, m⟩ := x
  rcases q with q | ⟨o, q⟩
  · exact ⟨.inl (s.keep a _ q n m), s.notin (by rw [q]; simp) n⟩
  · exact ⟨.inr ⟨o, s.keep a _ q n m⟩, s.notin (by rw [q]; simp) n⟩
theorem At1.stepW {al al' B : List Addr} {H H' : Hp} {a : Addr} {u : HO} (s : StpB B al H al' H') (x : At1 al B H a u) : H' a = some u ∧ a ∉ al' := ⟨s.keep a _ x.1 x.2.1 x.2.2, s.notin (by rw [x.1]; simp) x.2.1⟩
theorem StpB.get {B al al' : List Addr} {H H' : Hp} (s : StpB B al H al' H') {n : Nat} {a : Addr} (h : al[n]? = some a) : al'[n]? = some a := by
  obtain ⟨be, e, _⟩ := s.more
  obtain ⟨q, r⟩ := List.getElem?_eq_some_iff.mp h
  rw [e, List.getElem?_append_left q]
  exact h
theorem At.step {al al' B : List Addr} {H H' : Hp} {a : Addr} {u : HO} (s : Stp al H al' H') (x : At al B H a u) : At al' B H' a u := by
  obtain ⟨q, n, m⟩ := x
  rcases q with q | ⟨o, q⟩
  · exact ⟨.inl (s.keep a _ q n), s.notin (by rw [q]; simp) n, m⟩
  · exact ⟨.inr ⟨o, s.keep a _ q n⟩, s.notin (by rw [q]; simp) n, m⟩
theorem At1.step {al al' B : List Addr} {H H' : Hp} {a : Addr} {u : HO} (s : Stp al H al' H') (x : At1 al B H a u) : At1 al' B H' a u := ⟨s.keep a _ x.1 x.2.1, s.notin (by rw [x.1]; simp) x.2.1, x.2.2⟩
theorem AtT.step {al al' B : List Addr} {H H' : Hp} {a : Addr} {u : List V} (s : Stp al H al' H') (x : AtT al B H a u) : AtT al' B H' a u := by
  obtain ⟨w, q, f⟩ := x
  exact ⟨w, q.step s, f⟩
theorem At1.at {al B : List Addr} {H : Hp} {a : Addr} {u : HO} (x : At1 al B H a u) : At al B H a u := ⟨.inl x.1, x.2⟩
theorem Stp.get {al al' : List Addr} {H H' : Hp} (s : Stp al H al' H') {n : Nat} {a : Addr} (h : al[n]? = some a) : al'[n]? = some a := by
  obtain ⟨be, e, _⟩ := s.more
  obtain ⟨q, r⟩ := List.getElem?_eq_some_iff.mp h
  rw [e, List.getElem?_append_left q]
  exact h
section
variable {K : PySem.W.Frag} {al al' B : List Addr} {H H' : Hp}
mutual
theorem Rep.step (s : Stp al H al' H') : ∀ {w : Val} {v : V}, Rep K al B H w v → Rep K al' B H' w v
  | _, _, .non => .non
  | _, _, .bl b => .bl b
  | _, _, .int i => .int i
  | _, _, .str x => .str x
  | _, _, .tup a l r => .tup (a.imp (AtT.step s) id) l (Reps.step s r)
  | _, _, .lst a l r => .lst (a.step s) l (Reps.step s r)
  | _, _, .ref e => .ref (s.get e)
  | _, _, .glo a => .glo a
  | _, _, .ty n => .ty n
  | _, _, .scr a l => .scr (a.imp (At.step s) id) l
  | _, _, .exn a e r => .exn (a.step s) e (Reps.step s r)
theorem Reps.step (s : Stp al H al' H') : ∀ {w : List Val} {v : List V}, Reps K al B H w v → Reps K al' B H' w v
  | _, _, .nil => .nil
  | _, _, .cons a r => .cons (Rep.step s a) (Reps.step s r)
end
theorem Reps.length : ∀ {xs : List Val} {vs : List V}, Reps K al B H xs vs → xs.length = vs.length
  | _, _, .nil => rfl
  | _, _, .cons _ r => congrArg (· + 1) r.length
theorem Reps.append : ∀ {xs ys : List Val} {vs ws : List V}, Reps K al B H xs vs → Reps K al B H ys ws → Reps K al B H (xs ++ ys) (vs ++ ws)
  | _, _, _, _, .nil, s => s
  | _, _, _, _, .cons a r, s => .cons a (r.append s)
theorem Reps.get : ∀ {xs : List Val} {vs : List V} {i : Nat} {w : Val}, Reps K al B H xs vs → xs[i]? = some w → ∃ v, vs[i]? = some v ∧ Rep K al B H w v
  | _, _, _, _, .nil, e => by simp at e
  | _, _, 0, _, .cons a r, e => by simp at e; subst e; exact ⟨_, rfl, a⟩
  | _, _, i + 1, w, .cons a r, e => by
    obtain ⟨v, p, q⟩ := r.get (i := i) (w := w) (by simpa using e)
    exact ⟨v, by simpa using p, q⟩
theorem Reps.take : ∀ {xs : List Val} {vs : List V} (n : Nat), Reps K al B H xs vs → Reps K al B H (xs.take n) (vs.take n)
  | _, _, 0, _ => by simp; exact .nil
  | _, _, _ + 1, .nil => .nil
  | _, _, n + 1, .cons a r => .cons a (r.take n)
theorem Reps.drop : ∀ {xs : List Val} {vs : List V} (n : Nat), Reps K al B H xs vs → Reps K al B H (xs.drop n) (vs.drop n)
  | _, _, 0, r => by simpa using r
  | _, _, _ + 1, .nil => .nil
  | _, _, n + 1, .cons a r => by simpa using r.drop n
theorem Reps.set {w : Val} {v : V} (q : Rep K al B H w v) : ∀ {xs : List Val} {vs : List V} (i : Nat), Reps K al B H xs vs → Reps K al B H (xs.set i w) (vs.set i v)
  | _, _, _, .nil => .nil
  | _, _, 0, .cons _ t => .cons q t
  | _, _, i + 1, .cons a t => .cons a (t.set q i)
theorem Reps.reverse : ∀ {xs : List Val} {vs : List V}, Reps K al B H xs vs → Reps K al B H xs.reverse vs.reverse
  | _, _, .nil => .nil
  | _, _, .cons a t => by
    rw [List.reverse_cons, List.reverse_cons]
    exact t.reverse.append (.cons a .nil)
end
theorem KL.sq {K : PySem.W.Frag} {H : Hp} {a : Addr} {xs : List V} (h : KL K a xs) : SqL K H a xs := .inr h
theorem noD_of {K : PySem.W.Frag} {al B : List Addr} {H : Hp} {a : Addr} {xs : List V} (h : AtT al B H a xs ∨ KT K a xs) : NoD K H a xs := by
  rcases h with ⟨u, q, f⟩ | h
  · exact .inl ⟨u, q.1, f⟩
  · exact .inr h
theorem sqT_of {K : PySem.W.Frag} {al B : List Addr} {H : Hp} {a : Addr} {xs : List V} (h : AtT al B H a xs ∨ KT K a xs) : SqT K H a xs := (noD_of h).sq
theorem sqL_of {K : PySem.W.Frag} {al B : List Addr} {H : Hp} {a : Addr} {xs : List V} (h : At al B H a (.lst xs) ∨ KL K a xs) : SqL K H a xs := by
  rcases h with ⟨h, _⟩ | h
  · exact .inl h
  · exact .inr h
theorem ObR.live {K : PySem.W.Frag} {al B : List Addr} {H : Hp} {o : Ob} {a : Addr} (x : ObR K al B H o a) : H a ≠ none := by
  cases x with
  | lst h _ _ => rw [h]; simp
  | dic h _ _ => rw [h]; simp
  | ins h _ _ => rw [h]; simp
theorem HR.alive {K : PySem.W.Frag} {al B : List Addr} {H : Hp} {h : HH} (x : HR K al B H h) {a : Addr} (q : a ∈ al) : H a ≠ none := by
  obtain ⟨n, hn, rfl⟩ := List.getElem_of_mem q
  have l : n < h.length := by rw [← x.len]; exact hn
  exact (x.ob n _ h[n] (List.getElem?_eq_getElem hn) (List.getElem?_eq_getElem l)).live
theorem HR.fresh {K : PySem.W.Frag} {al B : List Addr} {H : Hp} {h : HH} (x : HR K al B H h) {p : Addr} (q : H p = none) : p ∉ al ∧ p ∉ B := ⟨fun z => x.alive z q, fun z => x.live p z q⟩
theorem ObR.mono {K : PySem.W.Frag} {al B al' : List Addr} {H H' : Hp} {o : Ob} {a : Addr} (x : ObR K al B H o a) (s : Stp al H al' H') (e : H' a = H a) : ObR K al' B H' o a := by
  cases x with
  | lst h l r => exact .lst (e.trans h) l (r.step s)
  | dic h k r => exact .dic (e.trans h) k (r.step s)
  | ins h k r => exact .ins (e.trans h) k (r.step s)
/-- a thing that stays is laid -/
theorem Stp.lay {al : List Addr} {H : Hp} {p : Addr} {o : HO} (n : H p = none) : Stp al H al (upd H p o) :=
  ⟨⟨[], by simp, by simp⟩, fun a u e _ => by rw [upd_ne (ne_of_none e n)]; exact e, fun a q => by
    by_cases z : a = p
    · subst z; rw [upd_same]; simp
    · rw [upd_ne z]; exact q⟩
theorem HR.lay {K : PySem.W.Frag} {al B : List Addr} {H : Hp} {h : HH} (x : HR K al B H h) {p : Addr} {o : HO} (n : H p = none) : HR K al B (upd H p o) h :=
  ⟨x.nd, x.len, fun i a u e1 e2 => (x.ob i a u e1 e2).mono (Stp.lay n) (upd_ne fun z => (x.fresh n).1 (z ▸ List.mem_of_getElem? e1)), fun a ha => (Stp.lay (al := al) n).up a (x.live a ha), x.apart⟩
theorem At.lay {K : PySem.W.Frag} {al B : List Addr} {H : Hp} {h : HH} (x : HR K al B H h) {p : Addr} {o : HO} (n : H p = none) : At al B (upd H p o) p o :=
  ⟨.inl upd_same, (x.fresh n).1, (x.fresh n).2⟩
theorem AtT.lay {K : PySem.W.Frag} {al B : List Addr} {H : Hp} {h : HH} {u : HO} {xs : List V} (x : HR K al B H h) {p : Addr} (n : H p = none) (f : FT u xs) : AtT al B (upd H p u) p xs :=
  ⟨u, ⟨upd_same, (x.fresh n).1, (x.fresh n).2⟩, f⟩
theorem At1.lay {K : PySem.W.Frag} {al B : List Addr} {H : Hp} {h : HH} (x : HR K al B H h) {p : Addr} {o : HO} (n : H p = none) : At1 al B (upd H p o) p o :=
  ⟨upd_same, (x.fresh n).1, (x.fresh n).2⟩
/-- an own object is laid -/
theorem Stp.new {al : List Addr} {H : Hp} {p : Addr} {o : HO} (n : H p = none) : Stp al H (al ++ [p]) (upd H p o) :=
  ⟨⟨[p], rfl, by simpa using n⟩, (Stp.lay n).keep, (Stp.lay (al := al) n).up⟩
theorem HR.new {K : PySem.W.Frag} {al B : List Addr} {H : Hp} {h : HH} (x : HR K al B H h) {p : Addr} {u : HO} {o : Ob} (n : H p = none) (r : ObR K (al ++ [p]) B (upd H p u) o p) : HR K (al ++ [p]) B (upd H p u) (h ++ [o]) := by
  refine ⟨?_, by simp [x.len], fun i a v e1 e2 => ?_, fun a ha => (Stp.lay (al := al) n).up a (x.live a ha), fun a ha q => ?_⟩
  · rw [List.nodup_append]
    refine ⟨x.nd, by simp, fun a ha b hb => ?_⟩
    simp at hb
    subst hb
    exact fun z => (x.fresh n).1 (z ▸ ha)
  · by_cases z : i < al.length
    · rw [List.getElem?_append_left z] at e1
      rw [List.getElem?_append_left (by rw [← x.len]; exact z)] at e2
      exact (x.ob i a v e1 e2).mono (Stp.new n) (upd_ne fun z => (x.fresh n).1 (z ▸ List.mem_of_getElem? e1))
    · have l := (List.getElem?_eq_some_iff.mp e1).1
      have : i = al.length := by simp at l; omega
      subst this
      rw [List.getElem?_concat_length] at e1
      rw [x.len, List.getElem?_concat_length] at e2
      cases e1; cases e2
      exact r
  · rcases List.mem_append.mp q with q | q
    · exact x.apart a ha q
    · simp at q; subst q; exact x.live a ha n
theorem nodupIx {al : List Addr} (nd : al.Nodup) : ∀ {i j : Nat} {a : Addr}, al[i]? = some a → al[j]? = some a → i = j := by
  intro i j a h1 h2
  obtain ⟨p, q⟩ := List.getElem?_eq_some_iff.mp h1
  exact (List.getElem?_inj p nd).mp (h1.trans h2.symm)
/-- an own object is written -/
theorem Stp.put {al : List Addr} {H : Hp} {p : Addr} {o : HO} (n : p ∈ al) : Stp al H al (upd H p o) :=
  ⟨⟨[], by simp, by simp⟩, fun a u e m => by rw [upd_ne (a := p) (b := a) (fun z => m (by rw [z]; exact n))]; exact e, fun a q => by
    by_cases z : a = p
    · subst z; rw [upd_same]; simp
    · rw [upd_ne z]; exact q⟩
theorem HR.put {K : PySem.W.Frag} {al B : List Addr} {H : Hp} {h : HH} (x : HR K al B H h) {n : Nat} {p : Addr} {u : HO} {o : Ob} (e : al[n]? = some p) (r : ObR K al B (upd H p u) o p) : HR K al B (upd H p u) (h.set n o) := by
  have hp : p ∈ al := List.mem_of_getElem? e
  have s : Stp al H al (upd H p u) := Stp.put hp
  refine ⟨x.nd, by simp [x.len], fun i a v e1 e2 => ?_, fun a ha => s.up a (x.live a ha), x.apart⟩
  by_cases z : i = n
  · subst z
    rw [e] at e1; cases e1
    have l : i < h.length := by have := (List.getElem?_eq_some_iff.mp e2).1; simpa using this
    rw [List.getElem?_set_self l] at e2
    cases e2
    exact r
  · rw [List.getElem?_set_ne (fun q => z q.symm)] at e2
    refine (x.ob i a v e1 e2).mono s (upd_ne fun q => ?_)
    subst q
    exact z (nodupIx x.nd e1 e)
/-! ### states -/
structure Sim (K : PySem.W.Frag) (al B : List Addr) (ro : En) (h : HH) (sg : L2.St) (H : Hp) : Prop where
  hr : HR K al B H h
  len : ro.length = sg.length
  env : ∀ (i : Nat) (w : Val), ro[i]? = some (some w) → ∃ v, sg[i]? = some (some v) ∧ Rep K al B H w v
theorem Sim.step {K : PySem.W.Frag} {al al' B : List Addr} {ro : En} {h h' : HH} {sg : L2.St} {H H' : Hp} (x : Sim K al B ro h sg H) (s : Stp al H al' H') (hr : HR K al' B H' h') : Sim K al' B ro h' sg H' :=
  ⟨hr, x.len, fun i w e => by obtain ⟨v, p, q⟩ := x.env i w e; exact ⟨v, p, q.step s⟩⟩
/-- a raised exception -/
def ExR (K : PySem.W.Frag) (al B : List Addr) (H : Hp) (e : Ex) (cls : Value) (d : Option Addr) : Prop :=
  cls = e.cls ∧ (e.fs = [] → d = none) ∧ (e.fs ≠ [] → ∃ dd gs, d = some dd ∧ H dd = some (.xd gs) ∧ dd ∉ al ∧ dd ∉ B ∧ e.fs.map (·.1) = gs.map (·.1) ∧ Reps K al B H (e.fs.map (·.2)) (gs.map (·.2)))
/-- what must follow an own run -/
def Po {β γ : Type} (K : PySem.W.Frag) (B : List Addr) (rb : List Addr → Hp → β → γ → Prop) (sg : L2.St) (al : List Addr) (H : Hp) (o : Out β) (W : WX) (Q : γ → Hp → Prop) : Prop :=
  match o with
  | .bad => False
  | .ok w h' => ∀ al' H' v, Stp al H al' H' → HR K al' B H' h' → rb al' H' w v → Q v H'
  | .ex e h' => ∀ al' H' cls d, Stp al H al' H' → HR K al' B H' h' → ExR K al' B H' e cls d → W cls d sg H'
section
variable {β γ δ ε : Type} {K : PySem.W.Frag} {B : List Addr} {rb : List Addr → Hp → β → γ → Prop} {rc : List Addr → Hp → δ → ε → Prop} {sg : L2.St} {al al' : List Addr} {H H' : Hp} {o : Out β} {W : WX} {Q Q' : γ → Hp → Prop}
theorem Po.mono (p : Po K B rb sg al H o W Q) (h : ∀ v H', Q v H' → Q' v H') : Po K B rb sg al H o W Q' := by
  cases o with
  | bad => exact p
  | ok w h' => exact fun a b c d e f => h _ _ (p a b c d e f)
  | ex e h' => exact p
theorem Po.step (p : Po K B rb sg al H o W Q) (s : Stp al H al' H') : Po K B rb sg al' H' o W Q := by
  cases o with
  | bad => exact p
  | ok w h' => exact fun a b c d e f => p a b c (s.trans d) e f
  | ex e h' => exact fun a b c d e f => p a b c d (s.trans e) f
theorem Po.bind {f : β → M δ} {R : ε → Hp → Prop} (p : Po K B rc sg al H (obind o f) W R) :
    Po K B rb sg al H o W (fun v H1 => ∃ al1 h1 w, Stp al H al1 H1 ∧ HR K al1 B H1 h1 ∧ rb al1 H1 w v ∧ Po K B rc sg al1 H1 (f w h1) W R) := by
  cases o with
  | bad => exact p
  | ok w h' => exact fun a b c d e f => ⟨a, h', w, d, e, f, Po.step (o := _) p d⟩
  | ex e h' => exact p
theorem Po.now {w : β} {h : HH} {v : γ} (p : Po K B rb sg al H (.ok w h) W Q) (hr : HR K al B H h) (r : rb al H w v) : Q v H := p al H v (Stp.refl al H) hr r
end
/-- an expression's reading -/
def tE (K : PySem.W.Frag) (W : WX) (m : SE) : TE := fun sg H Q => ∃ al B ro h, Sim K al B ro h sg H ∧ Po K B (fun al H => Rep K al B H) sg al H (m ro h) W Q
def tA (K : PySem.W.Frag) (W : WX) (m : En → M (List Val)) : TA := fun sg H Q => ∃ al B ro h, Sim K al B ro h sg H ∧ Po K B (fun al H => Reps K al B H) sg al H (m ro h) W Q
def tT (K : PySem.W.Frag) (W : WX) (m : En → M Bool) : TT := fun sg H Q => ∃ al B ro h, Sim K al B ro h sg H ∧ Po K B (fun _ _ a b => a = b) sg al H (m ro h) W Q
end Z
/-! Z1: expressions. -/
namespace Z
open PySem PySem.Spec PyProof.Rows L2
section
variable {X : Cx} {W : WX} {a b c e : Expr} {m m1 m2 m3 : SE} {pos : Pos}
theorem PE.weak {t t' : TE} (h : PE X e t) (i : ∀ sg H Q, t' sg H Q → t sg H Q) : PE X e t' := ⟨fun pins s sg H Q I q => h.run pins s sg H Q I (i _ _ _ q)⟩
theorem PT.weak {t t' : TT} (h : PT X e t) (i : ∀ sg H Q, t' sg H Q → t sg H Q) : PT X e t' := ⟨fun pins s sg H Q I q => h.run pins s sg H Q I (i _ _ _ q)⟩
theorem PA.weak {es : List Expr} {t t' : TA} (h : PA X es t) (i : ∀ sg H Q, t' sg H Q → t sg H Q) : PA X es t' := ⟨fun po pins s sg H Q I q => h.run po pins s sg H Q I (i _ _ _ q)⟩
/-! ### names, constants -/
def sVar (i : Nat) : SE := fun ro h => match ro[i]? with
  | some (some w) => .ok w h
  | _ => .bad
def sC (w : Val) : SE := fun _ h => .ok w h
theorem oe_var {i : Nat} {x : Str} (hN : X.N[i]? = some x) (hv : Vis X.env.scope x) (hd : (x == ("__debug__" : Str)) = false) (hcd : (x == ("__classdict__" : Str)) = false) : PE X (.Name x pos) (tE X.K W (sVar i)) := by
  refine PE.weak (pe_var hN hv hd hcd) ?_
  rintro sg H Q ⟨al, B, ro, h, S, p⟩
  unfold sVar at p
  split at p
  · rename_i w e1
    obtain ⟨v, e2, r⟩ := S.env _ _ e1
    exact ⟨v, e2, Po.now p S.hr r⟩
  · exact p.elim
theorem oe_c {w : Val} {v : V} (h : PE X e (tC v)) (r : ∀ al B H, Rep X.K al B H w v) : PE X e (tE X.K W (sC w)) := by
  refine PE.weak h ?_
  rintro sg H Q ⟨al, B, ro, h, S, p⟩
  exact Po.now p S.hr (r _ _ _)
theorem oe_int {i : Int} {j : Nat} : PE X (.Constant (.int i) j pos) (tE X.K W (sC (.int i))) := oe_c pe_int fun _ _ _ => .int i
theorem oe_bl {i : Bool} {j : Nat} : PE X (.Constant (.bool i) j pos) (tE X.K W (sC (.bl i))) := oe_c pe_bl fun _ _ _ => .bl i
theorem oe_non {j : Nat} : PE X (.Constant .none j pos) (tE X.K W (sC .non)) := oe_c pe_non fun _ _ _ => .non
theorem oe_str {x : Str} {j : Nat} : PE X (.Constant (.str x) j pos) (tE X.K W (sC (.str x))) := oe_c pe_str fun _ _ _ => .str x
theorem oe_glob {x : Str} {u : Value} {w : Val} {v : V} (hg : Gl X x) (hm : X.mg x = some u) (rv : RelV v u) (r : ∀ al B H, Rep X.K al B H w v) (hd : (x == ("__debug__" : Str)) = false) : PE X (.Name x pos) (tE X.K W (sC w)) := by
  refine PE.weak (pe_glob hg hm rv hd) ?_
  rintro sg H Q ⟨al, B, ro, h, S, p⟩
  exact Po.now p S.hr (r _ _ _)
/-! ### two operands -/
def sBin (f : Val → Val → M Val) (m1 m2 : SE) : SE := fun ro => bind (m1 ro) fun a => bind (m2 ro) fun b => f a b
def Lk2 (K : PySem.W.Frag) (f : Val → Val → M Val) (r : R2) : Prop := ∀ (W : WX) al B sg H h w1 w2 v1 v2 (Q : VK), HR K al B H h → Rep K al B H w1 v1 → Rep K al B H w2 v2 →
  Po K B (fun al H => Rep K al B H) sg al H (f w1 w2 h) W Q → r v1 v2 H Q
theorem tE_bin {K : PySem.W.Frag} {f : Val → Val → M Val} {r : R2} (lk : Lk2 K f r) (sg : L2.St) (H : Hp) (Q : VK) (p : tE K W (sBin f m1 m2) sg H Q) : tOp r (tE K W m1) (tE K W m2) sg H Q := by
  obtain ⟨al, B, ro, h, S, p⟩ := p
  refine ⟨al, B, ro, h, S, Po.mono (Po.bind p) fun v1 H1 ⟨al1, h1, w1, st1, hr1, r1, p1⟩ => ?_⟩
  refine ⟨al1, B, ro, h1, S.step st1 hr1, Po.mono (Po.bind p1) fun v2 H2 ⟨al2, h2, w2, st2, hr2, r2, p2⟩ => ?_⟩
  exact lk W al2 B sg H2 h2 w1 w2 v1 v2 Q hr2 (r1.step st2) r2 p2
theorem oe_op {op : Operator} {f : Val → Val → M Val} {r : R2} (ho : OpR X (binaryOp op) r) (lk : Lk2 X.K f r) (ha : PE X a (tE X.K W m1)) (hb : PE X b (tE X.K W m2)) : PE X (.BinOp a op b pos) (tE X.K W (sBin f m1 m2)) :=
  PE.weak (pe_op ho ha hb) (tE_bin lk)
theorem oe_cmp {op : CmpOp} {f : Val → Val → M Val} {r : R2} (ho : OpR X (compareOp op) r) (lk : Lk2 X.K f r) (hm : behindInMarks op b = false) (ha : PE X a (tE X.K W m1)) (hb : PE X b (tE X.K W m2)) : PE X (.Compare a [op] [b] pos) (tE X.K W (sBin f m1 m2)) :=
  PE.weak (pe_cmpR ho ha hb hm) (tE_bin lk)
theorem oe_ix {f : Val → Val → M Val} {r : R2} (ho : IxR X r) (lk : Lk2 X.K f r) (hs : PlainIx b) (ha : PE X a (tE X.K W m1)) (hb : PE X b (tE X.K W m2)) : PE X (.Subscript a b pos) (tE X.K W (sBin f m1 m2)) :=
  PE.weak (pe_ix ho ha hb hs) (tE_bin lk)
theorem Lk2.or {K : PySem.W.Frag} {f : Val → Val → M Val} {r r' : R2} (h : Lk2 K f r) : Lk2 K f (fun x y H Q => r x y H Q ∨ r' x y H Q) := fun W al B sg H hh w1 w2 v1 v2 Q a1 a2 a3 p => .inl (h W al B sg H hh w1 w2 v1 v2 Q a1 a2 a3 p)
/-! ### one operand -/
def sUn (f : Val → M Val) (m : SE) : SE := fun ro => bind (m ro) f
def Lk1 (K : PySem.W.Frag) (f : Val → M Val) (r : V → Hp → VK → Prop) : Prop := ∀ (W : WX) al B sg H h w v (Q : VK), HR K al B H h → Rep K al B H w v → Po K B (fun al H => Rep K al B H) sg al H (f w h) W Q → r v H Q
theorem tE_un {K : PySem.W.Frag} {f : Val → M Val} {r : V → Hp → VK → Prop} (lk : Lk1 K f r) (sg : L2.St) (H : Hp) (Q : VK) (p : tE K W (sUn f m) sg H Q) : tUn r (tE K W m) sg H Q := by
  obtain ⟨al, B, ro, h, S, p⟩ := p
  refine ⟨al, B, ro, h, S, Po.mono (Po.bind p) fun v1 H1 ⟨al1, h1, w1, st1, hr1, r1, p1⟩ => ?_⟩
  exact lk W al1 B sg H1 h1 w1 v1 Q hr1 r1 p1
theorem oe_un {op : UnaryOp} {f : Val → M Val} {r : V → Hp → VK → Prop} (ho : UnR X (unaryOp op) r) (lk : Lk1 X.K f r) (ha : PE X a (tE X.K W m)) : PE X (.UnaryOp op a pos) (tE X.K W (sUn f m)) := PE.weak (pe_un ho ha) (tE_un lk)
/-! ### argument lists -/
def aNil : En → M (List Val) := fun _ => ret []
def aCons (m : SE) (r : En → M (List Val)) : En → M (List Val) := fun ro => bind (m ro) fun x => bind (r ro) fun xs => ret (x :: xs)
theorem oa_nil : PA X [] (tA X.K W aNil) := by
  refine PA.weak pa_nil ?_
  rintro sg H Q ⟨al, B, ro, h, S, p⟩
  exact Po.now p S.hr .nil
theorem oa_cons {es : List Expr} {r : En → M (List Val)} (ha : PE X e (tE X.K W m)) (hr : PA X es (tA X.K W r)) (hs : starEach (e :: es) X.env = (false, eval e X.env) :: starEach es X.env) : PA X (e :: es) (tA X.K W (aCons m r)) := by
  refine PA.weak (pa_cons ha hr hs) ?_
  rintro sg H Q ⟨al, B, ro, h, S, p⟩
  refine ⟨al, B, ro, h, S, Po.mono (Po.bind p) fun v1 H1 ⟨al1, h1, w1, st1, hr1, r1, p1⟩ => ?_⟩
  refine ⟨al1, B, ro, h1, S.step st1 hr1, Po.mono (Po.bind p1) fun v2 H2 ⟨al2, h2, w2, st2, hr2, r2, p2⟩ => ?_⟩
  exact Po.now p2 hr2 (.cons (r1.step st2) r2)
def sArgs (f : List Val → M Val) (r : En → M (List Val)) : SE := fun ro => bind (r ro) f
def Lks (K : PySem.W.Frag) (f : List Val → M Val) (r : List V → Hp → VK → Prop) : Prop := ∀ (W : WX) al B sg H h ws vs (Q : VK), HR K al B H h → Reps K al B H ws vs → Po K B (fun al H => Rep K al B H) sg al H (f ws h) W Q → r vs H Q
theorem tE_args {K : PySem.W.Frag} {f : List Val → M Val} {ra : En → M (List Val)} {r : List V → Hp → VK → Prop} (lk : Lks K f r) (sg : L2.St) (H : Hp) (Q : VK) (p : tE K W (sArgs f ra) sg H Q) : (tA K W ra) sg H (fun vs H1 => r vs H1 Q) := by
  obtain ⟨al, B, ro, h, S, p⟩ := p
  refine ⟨al, B, ro, h, S, Po.mono (Po.bind p) fun v1 H1 ⟨al1, h1, w1, st1, hr1, r1, p1⟩ => ?_⟩
  exact lk W al1 B sg H1 h1 w1 v1 Q hr1 r1 p1
/-- a built-in by its name -/
theorem oe_callB {x : Str} {id : String} {es : List Expr} {f : List Val → M Val} {ra : En → M (List Val)} {r : List V → Hp → VK → Prop} {p : Pos} (hc : CallR X (.builtin id) r) (lk : Lks X.K f r) (hg : Gl X x) (hm : X.mg x = none) (hv : bootBuiltins x = some (.builtin id))
    (ha : PA X (e :: es) (tA X.K W ra)) (hn : x ≠ "__name__") (hd : (x == ("__debug__" : Str)) = false) (hs : starEach (e :: es) X.env = (false, eval e X.env) :: starEach es X.env) (hpl : (backTo pos (starEach es X.env)).any (·.1) = false) :
    PE X (.Call (.Name x p) (e :: es) [] pos) (tE X.K W (sArgs f ra)) := PE.weak (pe_callB hc hg hm hv ha hn hd hs hpl) (tE_args lk)
theorem oe_callTy {x : Str} {T : String} {es : List Expr} {f : List Val → M Val} {ra : En → M (List Val)} {r : List V → Hp → VK → Prop} {p : Pos} (hc : CallR X (.type T) r) (lk : Lks X.K f r) (hg : Gl X x) (hm : X.mg x = none) (hv : bootBuiltins x = some (.type T))
    (ha : PA X (e :: es) (tA X.K W ra)) (hn : x ≠ "__name__") (hd : (x == ("__debug__" : Str)) = false) (hs : starEach (e :: es) X.env = (false, eval e X.env) :: starEach es X.env) (hpl : (backTo pos (starEach es X.env)).any (·.1) = false) :
    PE X (.Call (.Name x p) (e :: es) [] pos) (tE X.K W (sArgs f ra)) := PE.weak (pe_callTy hc hg hm hv ha hn hd hs hpl) (tE_args lk)
end
end Z
/-! ZL3: exceptions whose context is None or stands on the ground with None as its own. -/
namespace L3
open PySem PySem.Spec PyProof.Rows L2
abbrev St := L2.St
/-- a context: None, or an object of the ground, not tracked, whose own is None -/
def CtxOk (B : Heap) (H : Hp) (c : Value) : Prop := c = .none ∨ ∃ (x : Addr) (ox : Obj) (vx : Array Value), c = .ref x ∧ H x = none ∧ B.get? x = some ox ∧ ox.data = .fields vx ∧ vx[2]? = some .none
def CtxZ (B : Heap) (H : Hp) (o : Obj) : Prop := ∀ vs : Array Value, o.data = .fields vs → ∃ c, vs[2]? = some c ∧ CtxOk B H c
def Zk (B : Heap) (H : Hp) (cls : Value) (d : Option Addr) : Obj → Prop := fun o => o.cls = cls ∧ o.dict = d ∧ CtxZ B H o
section
variable {B : Heap} {H : Hp} {cls : Value} {d : Option Addr}
theorem ctxZ_steady : PXN.Steady1 (CtxZ B H) := fun o v q => by
  obtain ⟨cl, di, da, sl⟩ := o
  intro ws e
  cases da with
  | fields us =>
    obtain ⟨c, e2, ok⟩ := q us rfl
    have ew : us.setIfInBounds 1 v = ws := Data.fields.inj e
    refine ⟨c, ?_, ok⟩
    rw [← ew]
    first
    | rw [Array.getElem?_setIfInBounds_ne (by decide)]; exact e2
    | simpa [Array.getElem?_setIfInBounds] using e2
  | _ => first | exact Data.noConfusion e | cases e
theorem Zk.steady : PXN.Steady1 (Zk B H cls d) := PXN.steady_and PXN.steady_cls (PXN.steady_and PXN.steady_dict ctxZ_steady)
theorem Zk.zc {o : Obj} (z : Zk B H cls d o) : Zc cls d o := ⟨z.1, z.2.1⟩
theorem Zk.ofN {o : Obj} (z : L2N.Zn cls d o) : Zk B H cls d o := ⟨z.1, z.2.1, fun vs e => ⟨.none, z.2.2 vs e, .inl rfl⟩⟩
end
/-- in the air of X, its context known -/
def XE (X : Cx) (W : WX) (u : Value) (s' : Shared) : Prop :=
  ∃ (a : Addr) (B : Heap) (sI : Shared) (pins : List (Addr × Obj)) (σ : St) (H : Hp) (cls : Value) (d : Option Addr),
    u = .ref a ∧ Inv X pins σ H sI ∧ (∀ b o, sI.heap.get? b = some o → b ∉ frs X.stack → B.get? b = some o) ∧ sI.heap.UpToSlots s'.heap ∧ Sky B X.stack a (Zk B H cls d) X.env.locals s'.heap ∧ H a = none ∧ s'.os = sI.os ∧ AllBare s'.gens ∧ W cls d σ H
def Takes (X : Cx) (W : WX) : Prop := ∀ u s', L3.XE X W u s' → X.xe u s'
theorem Takes.imp {X : Cx} {W W' : WX} (t : L3.Takes X W) (i : ∀ c d σ H, W' c d σ H → W c d σ H) : L3.Takes X W' := by
  rintro u s' ⟨a, B, sI, pn, σ, H, cls, d, r1, r2, r3, r4, r5, r6, r7, r8, w⟩
  exact t u s' ⟨a, B, sI, pn, σ, H, cls, d, r1, r2, r3, r4, r5, r6, r7, r8, i _ _ _ _ w⟩
theorem sky_imp {B : Heap} {l : List Env} {a L : Addr} {h : Heap} {Z Z' : Obj → Prop} (i : ∀ o, Z o → Z' o) (x : Sky B l a Z L h) : Sky B l a Z' L h := by
  rcases x with ⟨q1, q2, q3, oe, vs, q4, z, q5⟩ | ⟨q1, q2, q3, oe, vs, T, oT, ts, q4, z, q5⟩ | ⟨q1, q2, q3, oe, vs, T, oT, ts, q4, z, q5⟩
  · exact .inl ⟨q1, q2, q3, oe, vs, q4, i _ z, q5⟩
  · exact .inr (.inl ⟨q1, q2, q3, oe, vs, T, oT, ts, q4, i _ z, q5⟩)
  · exact .inr (.inr ⟨q1, q2, q3, oe, vs, T, oT, ts, q4, i _ z, q5⟩)
/-- one whose context is None is one of ours -/
theorem Takes.toN {X : Cx} {W : WX} (t : L3.Takes X W) : L2N.Takes X W := by
  rintro u s' ⟨a, B, sI, pn, σ, H, cls, d, r1, r2, r3, r4, sky, r6, r7, r8, w⟩
  exact t u s' ⟨a, B, sI, pn, σ, H, cls, d, r1, r2, r3, r4, sky_imp (fun o z => Zk.ofN z) sky, r6, r7, r8, w⟩
/-- a def left by an exception, its context known -/
def CX (P : Program) (w : World) (outer : List Env) (H : Hp) (s : Shared) (E : XK) (u : Value) (s' : Shared) : Prop :=
  ∃ (a : Addr) (B : Heap) (H' : Hp) (cls : Value) (d : Option Addr), u = .ref a ∧ HandSPX.FlyingZ B outer a (Zk B H' cls d) s'.heap ∧ HOk P w H' B ∧ UB (frs outer) H H' s.heap B s'.heap ∧ H' a = none ∧ s'.os = s.os ∧ AllBare s'.gens ∧ E cls d H'
section
variable {X : Cx} {pins : List (Addr × Obj)} {σ : St} {H : Hp} {sI s s' : Shared} {B : Heap} {W : WX} {E : XK}
/-- a callee's exception is in our air -/
theorem XE.of_call (I : Inv X pins σ H s) (hW : ∀ cls d H', E cls d H' → W cls d σ H') {u : Value} (c : L3.CX X.prog X.w X.stack H s E u s') : L3.XE X W u s' := by
  obtain ⟨a, B, K, cls, d, rfl, fly, hok, kept, na, os, ag, hE⟩ := c
  have stays : B.StaysIn s'.heap := fly.1
  let inG : Addr → Bool := fun b => (B.get? b).isSome || decide (b ∈ frs X.stack)
  obtain ⟨G, yes, no⟩ := restrict s'.heap inG
  have fromB : ∀ {b : Addr} {o : Obj}, B.get? b = some o → G.get? b = some o := fun {b o} e => (yes b (by simp [inG, e])).trans (stays b o e)
  have atF : ∀ {b : Addr}, b ∈ frs X.stack → G.get? b = s'.heap.get? b := fun {b} m => yes b (by simp [inG, m])
  have back : ∀ {b : Addr} {o : Obj}, G.get? b = some o → s'.heap.get? b = some o ∧ ((B.get? b).isSome = true ∨ b ∈ frs X.stack) := by
    intro b o e
    rcases q : inG b with _ | _
    · rw [no b q] at e; cases e
    · rw [yes b q] at e
      refine ⟨e, ?_⟩
      have q' : ((B.get? b).isSome || decide (b ∈ frs X.stack)) = true := q
      rw [Bool.or_eq_true, decide_eq_true_eq] at q'
      exact q'
  have inB : ∀ (b : Addr) (o : Obj), G.get? b = some o → b ∉ frs X.stack → B.get? b = some o := by
    intro b o e nf
    obtain ⟨e', h | h⟩ := back e
    · obtain ⟨o2, q⟩ := Option.isSome_iff_exists.mp h
      have := stays b o2 q
      rw [e'] at this
      cases this
      exact q
    · exact (nf h).elim
  have un : Un (frs X.stack) [] H K s.heap G := by
    refine ⟨fun b o e n nf _ => fromB (kept.keep b o e n nf), fun b o e n m _ => ?_, fun b o e n _ => kept.free b o e n, fun b o e _ => ?_, kept.tups, kept.frzs, kept.tbls⟩
    · obtain ⟨sl, q⟩ := kept.slot b o e m
      exact ⟨sl, (atF m).trans q⟩
    · by_cases m : b ∈ frs X.stack
      · obtain ⟨sl, q⟩ := kept.slot b o e m
        exact ⟨_, (atF m).trans q⟩
      · obtain ⟨o2, q⟩ := kept.there b o e m
        exact ⟨o2, fromB q⟩
  have J : Inv X pins σ K { s with heap := G, gens := s'.gens, drawn := s'.drawn, toks := s'.toks } := I.call un (hok.kept fun b o e => fromB e) ag (fun _ z => nomatch z)
  exact ⟨a, B, _, pins, σ, K, cls, d, rfl, J, inB, Heap.UpToSlots.of_keeps fun b o e => (back e).1, .inr (.inl fly), na, os, ag, hW _ _ _ hE⟩
/-- an exception just made, whose context is what is handled or None -/
theorem XE.made {a : Addr} {oe : Obj} {vs : Array Value} {cls : Value} {d : Option Addr} (I : Inv X pins σ H sI) (k : ∀ b o, sI.heap.get? b = some o → s'.heap.get? b = some o) (hne : sI.heap.get? a = none) (he : s'.heap.get? a = some oe)
    (hz : Zc cls d oe) (hd : oe.data = .fields vs) (h1 : vs[1]? = some .none) {c : Value} (h2 : vs[2]? = some c) (hc : c = .none ∨ ∃ p ∈ X.pn ++ pins, ∃ vx : Array Value, c = .ref p.1 ∧ p.2.data = .fields vx ∧ vx[2]? = some .none)
    (na : H a = none) (os : s'.os = sI.os) (ag : AllBare s'.gens) (w : W cls d σ H) : L3.XE X W (.ref a) s' := by
  have hidden : ∀ (b : Addr) (o : Obj), sI.heap.get? b = some o → b ∉ frs X.stack → (PySem.W.hideAll sI.heap (frs X.stack)).get? b = some o := fun b o e n => PySem.W.hideAll_get _ e n
  have ctx : CtxOk (PySem.W.hideAll sI.heap (frs X.stack)) H c := by
    rcases hc with rfl | ⟨p, hp, vx, rfl, dx, x2⟩
    · exact .inl rfl
    · obtain ⟨g1, g2, _⟩ := I.pin p hp
      refine .inr ⟨p.1, p.2, vx, rfl, g2, hidden _ _ g1 fun m => ?_, dx, x2⟩
      obtain ⟨_, o', e', nf⟩ := I.stack.mem m
      rw [g1] at e'
      cases e'
      exact nf _ dx
  refine ⟨a, PySem.W.hideAll sI.heap (frs X.stack), sI, pins, σ, H, cls, d, rfl, I, hidden, Heap.UpToSlots.of_keeps k, .inl ⟨fun b o e => k b o (PySem.W.of_hideAll _ e), ?_, ?_, oe, vs, he, ⟨hz.1, hz.2, fun ws e => ?_⟩, hd, h1⟩, na, os, ag, w⟩
  · rcases q : (PySem.W.hideAll sI.heap (frs X.stack)).get? a with _ | o
    · rfl
    · have := PySem.W.of_hideAll _ q
      rw [hne] at this
      cases this
  · exact Heap.FunFrames.of_keeps (fun b o e _ => ⟨o, k b o e, rfl⟩) (funFrames_none I.stack fun b m => PySem.W.hideAll_none _ m)
  · rw [hd] at e
    cases e
    exact ⟨c, h2, ctx⟩
/-- it goes out of the def -/
theorem XE.leave (hs : X.stack = X.env :: X.outer) (hf : X.env.frame = some X.env.locals) (hex : X.ex = []) {E₁ : Value → Shared → Prop} (hW : ∀ cls d σ H, W cls d σ H → E cls d H) {u : Value} (x : L3.XE X W u s') :
    wpAny (model X.prog X.w) X.A (leaving X.env u) (fun _ s'' => L3.CX X.prog X.w X.outer X.H_0 X.s_0 E u s'') E₁ s' := by
  obtain ⟨a, B, sI, pins, σ, H, cls, d, rfl, I, nb, up, sky, na, os, ag, w⟩ := x
  rw [hs] at sky
  have frames : X.A.frames = some (X.env :: X.outer) := by rw [I.ok.frames, hs]
  have none_ex : ∀ b, b ∉ X.ex := fun b m => by rw [hex] at m; cases m
  have old : ∀ (b : Addr) (o : Obj), X.s_0.heap.get? b = some o → b ∉ X.fs → b ∉ frs X.stack := by
    intro b o e nf m
    rcases List.mem_cons.mp (I.stkSub b m) with z | z
    · have l1 := Heap.lt_size e
      have l2 := I.ok.above
      rw [z] at l1
      exact Nat.lt_irrefl _ (Nat.lt_of_lt_of_le l1 l2)
    · exact nf z
  have out : ∀ h', HandSPX.FlyingZ B X.outer a (Zk B H cls d) h' → s'.heap.UpToSlots h' → L3.CX X.prog X.w X.outer X.H_0 X.s_0 E (.ref a) { s' with heap := h' } := by
    intro h' fly up2
    have slots : ∀ (b : Addr) (o : Obj), X.s_0.heap.get? b = some o → b ∈ X.fs → ∃ sl, h'.get? b = some { o with slots := sl } := by
      intro b o e m
      obtain ⟨_, o0, e0, nf⟩ := I.ok.funs.mem m
      rw [e] at e0
      cases e0
      obtain ⟨l1, q1⟩ := I.base.slot b o e (I.ok.frf b m) m (none_ex b)
      obtain ⟨l2, q2⟩ := up b _ q1 nf
      obtain ⟨l3, q3⟩ := up2 b _ q2 nf
      exact ⟨l3, q3⟩
    refine ⟨a, B, H, cls, d, rfl, fly, I.inGround nb, ⟨fun b o e n nf => nb b o (I.base.keep b o e n nf (none_ex b)) (old b o e nf), slots, fun b o e n => I.base.free b o e n (none_ex b), fun b o e nf => ?_, I.base.tups, I.base.frzs, I.base.tbls⟩, na, os.trans I.os, ag, hW _ _ _ _ w⟩
    obtain ⟨o2, q⟩ := I.base.there b o e (none_ex b)
    exact ⟨o2, nb b o2 q (old b o e nf)⟩
  rcases sky with ⟨q1, q2, q3, oe, vs, q4, q5, q6, q7⟩ | fly | held
  · exact PXN.leaving_firstZ Zk.steady frames q3 hf q4 q1 q2 q6 q7 q5 out
  · exact PXN.leaves_onZ Zk.steady frames hf fly out
  · exact HandSPX.leaves_heldZ hf held out
theorem takes_of (hs : X.stack = X.env :: X.outer) (hf : X.env.frame = some X.env.locals) (hex : X.ex = []) {E₁ : Value → Shared → Prop}
    (hx : X.xe = fun e s' => wpAny (model X.prog X.w) X.A (leaving X.env e) (fun _ s'' => L3.CX X.prog X.w X.outer X.H_0 X.s_0 E e s'') E₁ s') : L3.Takes X (fun cls d _ H => E cls d H) := by
  intro u s' x
  rw [hx]
  exact L3.XE.leave (W := fun cls d _ H => E cls d H) (E := E) hs hf hex (fun _ _ _ _ q => q) x
end
end L3
/-! ZK: promises of defs where the guards about a call are known (none). -/
namespace Z
open PySem PySem.Spec PyProof.Rows L2
structure RmG (k : Nat) (A : Around) : Prop extends Room k A where
  gd : A.guards = some []
theorem RmG.mono {j k : Nat} {A : Around} (r : RmG k A) (h : j ≤ k) : RmG j A := ⟨r.toRoom.mono h, r.gd⟩
theorem RmG.deep {k : Nat} {A : Around} (r : RmG (k + 1) A) (env : Env) : RmG k (A.deeper env) := ⟨r.toRoom.deeper env, r.gd⟩
structure FnG (P : Program) (w : World) (K : PySem.W.Frag) (mg : Str → Option Value) (base : Heap) (CX : CXT) (k : Nat) (f : Addr) (fd : FuncData) (ps : List Str) (sp : Sp) : Prop where
  len : ∀ vs H Q E, sp vs H Q E → vs.length = ps.length
  run : ∀ (Ar : Around) (out : List Env) (st : Shared) (H : Hp) (ags : Args) (us : List Value) (vs : List V) (Q : VK) (E : XK), RmG k Ar → Env0 P w K mg base Ar out st H → BindsTo st fd ags (ps.zip us) → Vals vs us → sp vs H Q E →
    codeAny (model P w) Ar (.call (.ref f) ags) (CR CX out P w H st Q E) st
section
variable {P : Program} {w : World} {K : PySem.W.Frag} {mg : Str → Option Value} {base : Heap} {CX : CXT}
theorem FnG.mono {j k : Nat} {f : Addr} {fd : FuncData} {ps : List Str} {sp : Sp} (F : FnG P w K mg base CX j f fd ps sp) (h : j ≤ k) : FnG P w K mg base CX k f fd ps sp :=
  ⟨F.len, fun Ar out st H ags us vs Q E hr => F.run Ar out st H ags us vs Q E (hr.mono h)⟩
theorem fnG_of {k : Nat} {f : Addr} {nm qual : Str} {pms : Arguments} {bd : List Stmt} {sc : Scope} {dV kV doc pm cdv ct oc : Value} {an od : Option Addr} {osl : Array (Option Value)} {N ps : List Str} {sp : Sp}
    (lk : K.lookup f = some ⟨oc, od, .func (PySem.W.fnOf nm qual pms bd sc dV kV doc pm an cdv ct), osl⟩) (hcd : PySem.W.codeIn K cdv qual = true) (S : FnScope N ps sc) (hlen : ∀ vs H Q E, sp vs H Q E → vs.length = ps.length)
    (hbd : ∀ (Ar : Around) (out : List Env) (st : Shared) (H : Hp) (vs : List V) (Q : VK) (E : XK), RmG k (Ar.deeper (envOfC qual sc st.heap.objs.size f cdv)) → sp vs H Q E →
      ∃ t, PSs (cxOf CX P w K mg base N qual sc f cdv Ar out st H E) bd t ∧ t { nx := fun _ H' => Q .non H', rt := Q } (start N vs) H) :
    FnG P w K mg base CX (k + 1) f (PySem.W.fnOf nm qual pms bd sc dV kV doc pm an cdv ct) ps sp := by
  refine ⟨hlen, fun Ar out st H ags us vs Q E rm en bnd rv hsp => ?_⟩
  have ln := hlen _ _ _ _ hsp
  have keep : ∀ b o, base.get? b = some o → st.heap.get? b = some o := fun b o e => (en.bs b o e).1
  have KI : K.In st.heap := en.mod.kin.keeps keep
  have nl : st.heap.NoLimit := en.mod.nolimit.keeps keep
  have kinds : ∀ z ∈ ps.zip us, sc.names.lookup z.1 = some .local ∨ (sc.names.lookup z.1 = some .cell ∧ ((cellsFrom (st.heap.objs.size + 1) sc.names []).lookup z.1).isSome = true) := by
    rintro ⟨n, v⟩ hz
    exact (S.par n (List.of_mem_zip hz).1).imp id fun q => ⟨q, PySem.W.cellsFrom_some _ _ _ (.inl q)⟩
  refine codeAny_call_function rm.toRoom.depth (KI _ _ lk) rfl S.co S.gen rfl (PySem.W.codeRec_of KI hcd) (bnd _ _ _ _ ?_)
  refine wpAny_newFunctionEnv_cells S.kind kinds fun env he s2 x => ?_
  subst he
  refine ⟨nl.keeps x.toInCall.keep, codeAny_func ?_⟩
  obtain ⟨t, h1, h2⟩ := hbd Ar out st H vs Q E (rm.deep _) hsp
  have I0 : Inv (cxOf CX P w K mg base N qual sc f cdv Ar out st H E) [] (start N vs) H s2 := inv_start S rm.toRoom.hd en ln rv x
  refine wpAny_mono (h1.run [] s2 (start N vs) H _ I0 h2) (fun fl s3 hs => ?_) fun _ _ z => z
  cases fl with
  | next =>
    obtain ⟨_, H3, J, q⟩ := hs
    exact ⟨V.non, H3, J.os, J.bare, J.base, J.hok, (rfl : RelV V.non Value.none), q⟩
  | ret u =>
    obtain ⟨v, _, H3, J, r3, q⟩ := hs
    exact ⟨v, H3, J.os, J.bare, J.base, J.hok, r3, q⟩
  | brk => exact hs.elim fun _ z => z.elim fun _ z => z.2.elim
  | cont => exact hs.elim fun _ z => z.elim fun _ z => z.2.elim
/-- the law's call, the guards known -/
theorem law_callG {mb : Str → Option Value} {k : Nat} {fa a : Addr} {fd : FuncData} {x : Str} {sp : Sp} {s1 : Shared} {vs : List Value} {ns : List Int} (KX : K.In s1.heap) (hns : s1.heap.Ns mainGlobals mg) (hbn : s1.heap.Ns builtinsNs mb)
    (hbb : ∀ x : Str, x ≠ "__name__" → mb x = bootBuiltins x) (hlim : s1.heap.NoLimit) (hg : s1.gens = #[]) (ha : s1.heap.get? a = some { cls := .type "list", data := .seq vs.toArray }) (hi : IntsAre vs ns) (hl : ns.length ≤ sizeLine) (rm : RmG k callerA)
    (F : ∀ base : Heap, K.In base → base.Ns mainGlobals mg → FnG P w K mg base CX k fa fd [x] sp) (bind : ∀ (s : Shared) (u : Value), BindsTo s fd ⟨[u], []⟩ [(x, u)])
    (hsp : ∀ H : Hp, SqL K H a (ns.map V.int) → sp [.ref a] H (fun v _ => v = .bl true) fun _ _ _ => False) (hCX : ∀ H e s', CX [] H s1 (fun _ _ _ => False) e s' → False) :
    codeAny (model P w) callerA (.call (.ref fa) ⟨[.ref a], []⟩) (fun r s' => r = .ok (.ret (.bool true)) ∧ OldK s1.heap s'.heap ∧ s'.os = s1.os ∧ AllBare s'.gens) s1 := by
  have rvs := vals_ints hi
  have lenV := hi.length
  have core : ∀ H : Hp, Only H → SqL K H a (ns.map V.int) → HOk P w H s1.heap → (∀ b, H b ≠ none → b = a) → (H a ≠ none → K.lookup a = none) →
      codeAny (model P w) callerA (.call (.ref fa) ⟨[.ref a], []⟩) (fun r s' => r = .ok (.ret (.bool true)) ∧ OldK s1.heap s'.heap ∧ s'.os = s1.os ∧ AllBare s'.gens) s1 := by
    intro H hO hS hok hA hK
    have hidden : ∀ {b : Addr} {o : Obj}, s1.heap.get? b = some o → H b = none → (hidT s1.heap H).get? b = some o := fun e n => hidT_get e n
    have dicts : ∀ {b : Addr} {o : Obj} {es : Array DictEntry} {ep : Nat}, s1.heap.get? b = some o → o.data = .dict es ep → H b = none := by
      intro b o es ep e d
      rcases q : H b with _ | u
      · rfl
      · obtain rfl := hA b (by rw [q]; simp)
        rw [ha] at e
        cases e
        exact absurd (show Data.seq vs.toArray _ = Data.dict es ep from d) (by simp)
    have space : ∀ {b : Addr} {m : Str → Option Value}, s1.heap.Ns b m → (hidT s1.heap H).Ns b m := by
      rintro b m ⟨o, es, ep, e, d, r⟩
      exact ⟨o, es, ep, hidden e (dicts e d), d, r⟩
    have KB : K.In (hidT s1.heap H) := by
      intro b o e
      refine hidden (KX b o e) ?_
      rcases q : H b with _ | u
      · rfl
      · obtain rfl := hA b (by rw [q]; simp)
        have z := hK (by rw [q]; simp)
        rw [z] at e
        cases e
    have md : Mod K mg (hidT s1.heap H) := by
      obtain ⟨mc, h1, h2⟩ := hlim
      exact ⟨KB, space hns, ⟨mb, space hbn, hbb⟩, ⟨mc, space h1, h2⟩⟩
    have en : Env0 P w K mg (hidT s1.heap H) callerA [] s1 H := by
      refine ⟨rfl, md, fun b o e => of_hidT e, Nat.le_of_eq (hidT_size _ _), trivial, fun b hb => ?_, hok, .of_eq hg⟩
      have hb' : b ∈ ([] : List Addr) := hb
      cases hb'
    refine codeAny_mono ((F _ KB (space hns)).run callerA [] s1 H ⟨[.ref a], []⟩ [.ref a] [.ref a] _ _ rm en (bind s1 (.ref a)) (.cons rfl .nil) (hsp H hS)) fun r s2 h => ?_
    match r, h with
    | .error e, h => exact (hCX H e s2 h).elim
    | .ok .next, h => exact False.elim h
    | .ok .brk, h => exact False.elim h
    | .ok .cont, h => exact False.elim h
    | .ok (.ret u), ⟨v, H2, os, bare, un, hok2, rv, (q : v = .bl true)⟩ =>
      subst q
      obtain rfl : u = Value.bool true := rv
      refine ⟨rfl, OldK.of_keep fun b o e => ?_, os, bare⟩
      rcases q : H b with _ | u
      · refine un.keep b o e q (fun z => ?_) (by simp)
        have z' : b ∈ ([] : List Addr) := z
        cases z'
      · rcases hO b with z | ⟨ob, xs, z⟩
        · rw [q] at z; cases z
        · have f1 := (hok b _ z).1
          rw [e] at f1
          cases f1
          exact (hok2 b _ (un.frzs b _ _ z)).1
  rcases hk : K.lookup a with _ | o
  · let ob : Obj := { cls := .type "list", data := .seq vs.toArray }
    let H0 : Hp := fun b => if b = a then some (.frz ob (.lst (ns.map V.int))) else none
    have at0 : H0 a = some (.frz ob (.lst (ns.map V.int))) := if_pos rfl
    have ne0 : ∀ {b}, b ≠ a → H0 b = none := fun z => if_neg z
    refine core H0 (fun b => ?_) (.inl (.inr ⟨ob, at0⟩)) (fun b u z => ?_) (fun b z => ?_) fun _ => hk
    · by_cases c : b = a
      · subst c; exact .inr ⟨ob, _, at0⟩
      · exact .inl (ne0 c)
    · by_cases c : b = a
      · subst c
        rw [at0] at z
        cases z
        exact ⟨ha, by rw [List.length_map]; exact hl, vs, _, rvs, ha⟩
      · rw [ne0 c] at z; cases z
    · exact Classical.byContradiction fun c => z (ne0 c)
  · have e := KX a o hk
    rw [ha] at e
    cases e
    refine core (fun _ => none) (fun _ => .inl rfl) (.inr ⟨_, vs.toArray, _, hk, rfl, rfl, rfl, ?_, ?_⟩) (fun b u z => ?_) (fun b z => absurd rfl z) fun z => absurd rfl z
    · rw [List.size_toArray, lenV]; exact hl
    · rw [List.toList_toArray]; exact rvs
    · have z' : (none : Option HO) = some u := z
      cases z'
end
theorem walk_ofG {l : PySem.W.OpenLaw} {n k : Nat} {q : Program} {loose : List Str} {XP : (Str → Option Value) → Heap → Prop} {YP : World → Heap → Prop} {d : DefRec} {K : Params → PySem.W.Frag} {CX : World → CXT} {sp : World → Sp} {x : Str}
    (hn : l.most = some n) (hn2 : n ≤ sizeLine) (hdf : d.params.defaults = []) (rm : RmG k callerA) (hY : ∀ (w : World) (h : Heap), YP w h → (K w.params).In h)
    (F : ∀ (w : World) (mg : Str → Option Value) (fa : Addr) (h : Heap), (K w.params).In h → h.Ns mainGlobals mg → mg d.name = some (.ref fa) →
      ∃ fd : FuncData, (∀ (s : Shared) (u : Value), BindsTo s fd ⟨[u], []⟩ [(x, u)]) ∧ ∀ base : Heap, (K w.params).In base → base.Ns mainGlobals mg → FnG l.prog w (K w.params) mg base (CX w) k fa fd [x] (sp w))
    (hsp : ∀ (w : World) (H : Hp) (a : Addr) (ns : List Int), ns.length ≤ n → (∀ z ∈ ns, Builtin.Int.intBits z ≤ 1048576) → SqL (K w.params) H a (ns.map V.int) → sp w [.ref a] H (fun v _ => v = .bl true) fun _ _ _ => False)
    (hCX : ∀ (w : World) (H : Hp) (s : Shared) (e : Value) (s' : Shared), CX w [] H s (fun _ _ _ => False) e s' → False) : PySem.W.WalkO q loose XP YP l.row.toRowW d [] (fun f vs => PySem.call f vs) := by
  refine Att.attach_callB hn hdf fun w s0 s1 mg mb fa o pm cd doc a vs ns G Y ho hd hcd hmg hobj hints hlen hbits hg => ?_
  have KX := hY w _ Y
  obtain ⟨fd, hb, hF⟩ := F w mg fa _ KX G.T.g hmg
  exact law_callG KX G.T.g G.T.b G.T.builtins G.T.nolimit hg hobj hints (Nat.le_trans hlen hn2) rm hF hb (fun H hS => hsp w H a ns hlen hbits hS) fun H e s' => hCX w H s1 e s'
section
variable {P : Program} {w : World} {K : PySem.W.Frag} {mg : Str → Option Value} {base : Heap}
theorem funG {x qual : Str} {st : Stmt} {f : Addr} {fd : FuncData} {N ps : List Str} {k : Nat} {sp : Sp} (F : Fun K x qual st f fd) (S : FnScope N ps (defScope st)) (hlen : ∀ vs H Q E, sp vs H Q E → vs.length = ps.length)
    (hbd : ∀ (cdv : Value) (Ar : Around) (out : List Env) (s : Shared) (H : Hp) (vs : List V) (Q : VK) (E : XK), RmG k (Ar.deeper (envOfC qual (defScope st) s.heap.objs.size f cdv)) → sp vs H Q E →
      ∃ t, PSs (cxOf (L3.CX P w) P w K mg base N qual (defScope st) f cdv Ar out s H E) (defBody st) t ∧ t { nx := fun _ H' => Q .non H', rt := Q } (start N vs) H) : FnG P w K mg base (L3.CX P w) (k + 1) f fd ps sp := by
  obtain ⟨oc, od, kV, doc, pm, an, cdv, ct, osl, rfl, lk, hcd⟩ := F.ex
  exact fnG_of lk hcd S hlen fun Ar out s H vs Q E rm h => hbd cdv Ar out s H vs Q E rm h
theorem funG0 {x qual : Str} {st : Stmt} {f : Addr} {fd : FuncData} {N ps : List Str} {k : Nat} {sp : Sp} (F : Fun K x qual st f fd) (S : FnScope N ps (defScope st)) (hlen : ∀ vs H Q E, sp vs H Q E → vs.length = ps.length)
    (hbd : ∀ (cdv : Value) (Ar : Around) (out : List Env) (s : Shared) (H : Hp) (vs : List V) (Q : VK) (E : XK), RmG k (Ar.deeper (envOfC qual (defScope st) s.heap.objs.size f cdv)) → sp vs H Q E →
      ∃ t, PSs (cxOf CX0 P w K mg base N qual (defScope st) f cdv Ar out s H E).nox (defBody st) t ∧ t { nx := fun _ H' => Q .non H', rt := Q } (start N vs) H) : FnG P w K mg base CX0 (k + 1) f fd ps sp := by
  obtain ⟨oc, od, kV, doc, pm, an, cdv, ct, osl, rfl, lk, hcd⟩ := F.ex
  refine fnG_of lk hcd S hlen fun Ar out s H vs Q E rm h => ?_
  obtain ⟨t, h1, h2⟩ := hbd cdv Ar out s H vs Q E rm h
  exact ⟨t, h1.nox, h2⟩
theorem funDG {x qual : Str} {pms : Arguments} {bd : List Stmt} {sc : Scope} {dvs : List V} {kws : List (Str × V)} {f : Addr} {fd : FuncData} {N ps : List Str} {k : Nat} {sp : Sp} (F : FunD K x qual pms bd sc dvs kws f fd) (S : FnScope N ps sc) (hlen : ∀ vs H Q E, sp vs H Q E → vs.length = ps.length)
    (hbd : ∀ (cdv : Value) (Ar : Around) (out : List Env) (s : Shared) (H : Hp) (vs : List V) (Q : VK) (E : XK), RmG k (Ar.deeper (envOfC qual sc s.heap.objs.size f cdv)) → sp vs H Q E →
      ∃ t, PSs (cxOf (L3.CX P w) P w K mg base N qual sc f cdv Ar out s H E) bd t ∧ t { nx := fun _ H' => Q .non H', rt := Q } (start N vs) H) : FnG P w K mg base (L3.CX P w) (k + 1) f fd ps sp := by
  obtain ⟨oc, od, dV, kV, doc, pm, an, cdv, ct, osl, rfl, lk, hcd, _, _⟩ := F.ex
  exact fnG_of lk hcd S hlen fun Ar out s H vs Q E rm h => hbd cdv Ar out s H vs Q E rm h
end
end Z
/-! Z2: calls of the program's own defs, statements, bodies. -/
namespace Z
open PySem PySem.Spec PyProof.Rows L2
/-! ### own defs -/
def spF (K : PySem.W.Frag) (n : Nat) (F : List Val → M Val) : Sp := fun vs H Q E => ∃ al B h ws, HR K al B H h ∧ Reps K al B H ws vs ∧ ws.length = n ∧ Po K B (fun al H => Rep K al B H) [] al H (F ws h) (fun cls d _ H' => E cls d H') Q
theorem Po.wish {β γ : Type} {K : PySem.W.Frag} {B : List Addr} {rb : List Addr → Hp → β → γ → Prop} {sg sg' : L2.St} {al : List Addr} {H : Hp} {o : Out β} {W W' : WX} {Q : γ → Hp → Prop} (p : Po K B rb sg al H o W Q) (h : ∀ cls d H', W cls d sg H' → W' cls d sg' H') : Po K B rb sg' al H o W' Q := by
  cases o with
  | bad => exact p
  | ok w h' => exact p
  | ex e h' => exact fun a b c d e f g => h _ _ _ (p a b c d e f g)
/-- own values in the parameters' order -/
structure KBz (K : PySem.W.Frag) (fd : FuncData) (ps : List Str) (n : Nat) (ks : List Str) (gW : List Val → List Val → List Val) : Prop where
  ex : ∃ g gV, KBn K fd ps n ks g gV ∧ ∀ al B H ws vs zs us, Reps K al B H ws vs → Reps K al B H zs us → Reps K al B H (gW ws zs) (gV vs us)
def sCall (F : List Val → M Val) (n m np : Nat) (gW : List Val → List Val → List Val) (ra rk : En → M (List Val)) : SE := fun ro => bind (ra ro) fun ws => bind (rk ro) fun zs => if ws.length = n ∧ zs.length = m ∧ (gW ws zs).length = np then F (gW ws zs) else fail
/-- a def that may be called in X, whatever is handled there -/
def RunsIn (X : Cx) (f : Addr) (fd : FuncData) (ps : List Str) (sp : Sp) : Prop :=
  ∀ (pins : List (Addr × Obj)) (sg : L2.St) (s : Shared) (H : Hp) (ags : Args) (us : List Value) (vs : List V) (Q : VK) (E : XK), Inv X pins sg H s → BindsTo s fd ags (ps.zip us) → Vals vs us → sp vs H Q E →
    codeAny (model X.prog X.w) X.A (.call (.ref f) ags) (CR (L3.CX X.prog X.w) X.stack X.prog X.w H s Q E) s
theorem rG {X : Cx} {f : Addr} {fd : FuncData} {ps : List Str} {sp : Sp} {k : Nat} (G : FnG X.prog X.w X.K X.mg X.base (L3.CX X.prog X.w) k f fd ps sp) (hr : RmG k X.A) : RunsIn X f fd ps sp :=
  fun _ _ s H ags us vs Q E I b r h => G.run X.A X.stack s H ags us vs Q E hr I.env0 b r h
/-! ### while an exception is handled -/
/-- the handled exception's object is one of these; its context is None or one of these, whose own is None -/
def HotP (A : Around) (ps : List (Addr × Obj)) : Prop :=
  ∃ (q : Addr × Obj) (vq : Array Value) (c : Value), A.handled = some (.ref q.1) ∧ q ∈ ps ∧ q.2.data = .fields vq ∧ vq[2]? = some c ∧ (c = .none ∨ ∃ (z : Addr × Obj) (vz : Array Value), c = .ref z.1 ∧ z ∈ ps ∧ z.2.data = .fields vz ∧ vz[2]? = some .none)
theorem HotP.mono {A : Around} {ps qs : List (Addr × Obj)} (h : HotP A ps) (i : ∀ q ∈ ps, q ∈ qs) : HotP A qs := by
  obtain ⟨q, vq, c, e1, m, e2, e3, e4⟩ := h
  refine ⟨q, vq, c, e1, i _ m, e2, e3, ?_⟩
  rcases e4 with e | ⟨z, vz, e5, m2, e6⟩
  · exact .inl e
  · exact .inr ⟨z, vz, e5, i _ m2, e6⟩
structure RmW (k : Nat) (A : Around) : Prop extends L2H.RoomH k A where
  gd : A.guards = some []
theorem RmW.mono {j k : Nat} {A : Around} (r : RmW k A) (h : j ≤ k) : RmW j A := ⟨r.toRoomH.mono h, r.gd⟩
theorem RmW.deep {k : Nat} {A : Around} (r : RmW (k + 1) A) (env : Env) : RmW k (A.deeper env) := ⟨r.toRoomH.deeper env, r.gd⟩
/-- what a def promises while an exception is handled -/
structure FnW (P : Program) (w : World) (K : PySem.W.Frag) (mg : Str → Option Value) (base : Heap) (CX : CXT) (k : Nat) (f : Addr) (fd : FuncData) (ps : List Str) (sp : Sp) : Prop where
  len : ∀ vs H Q E, sp vs H Q E → vs.length = ps.length
  run : ∀ (Ar : Around) (out : List Env) (st : Shared) (H : Hp) (ags : Args) (us : List Value) (vs : List V) (Q : VK) (E : XK) (pl : List (Addr × Obj)), RmW k Ar → HotP Ar pl → (∀ p ∈ pl, L2H.PinOk out H st p) → Env0 P w K mg base Ar out st H → BindsTo st fd ags (ps.zip us) → Vals vs us → sp vs H Q E →
    codeAny (model P w) Ar (.call (.ref f) ags) (CR CX out P w H st Q E) st
theorem pinOk_of {X : Cx} {pins : List (Addr × Obj)} {sg : L2.St} {H : Hp} {s : Shared} (I : Inv X pins sg H s) : ∀ p ∈ X.pn, L2H.PinOk X.stack H s p := fun p hp => by
  obtain ⟨g1, g2, g3, g4, g5⟩ := I.pin p (List.mem_append_left _ hp)
  refine ⟨g1, g2, fun m => ?_, g5⟩
  rcases List.mem_cons.mp (I.stkSub p.1 m) with z | z
  · exact g3 z
  · exact g4 z
/-- the context of such a def's body -/
abbrev cxW (CX : CXT) (P : Program) (w : World) (K : PySem.W.Frag) (mg : Str → Option Value) (base : Heap) (N : List Str) (qual : Str) (scope : Scope) (f : Addr) (cd : Value) (A : Around) (outer : List Env) (s : Shared) (H : Hp) (E : XK) (pl : List (Addr × Obj)) : Cx :=
  { cxOf CX P w K mg base N qual scope f cd A outer s H E with calm := false, pn := pl }
section
variable {P : Program} {w : World} {K : PySem.W.Frag} {mg : Str → Option Value} {base : Heap} {CX : CXT}
theorem env_calm {Ar : Around} {out : List Env} {st : Shared} {H : Hp} (en : Env0 P w K mg base Ar out st H) : Env0 P w K mg base { Ar with handled := none } out st H := ⟨en.frames, en.mod, en.bs, en.bsz, en.funs, en.frf, en.hok, en.bare⟩
theorem inv_startW {N ps : List Str} {qual : Str} {sc : Scope} {f : Addr} {cd : Value} {Ar : Around} {out : List Env} {st s1 : Shared} {H : Hp} {E : XK} {us : List Value} {vs : List V} {pl : List (Addr × Obj)} (S : FnScope N ps sc) (hp : ∀ p ∈ pl, L2H.PinOk out H st p)
    (en : Env0 P w K mg base Ar out st H) (hl : vs.length = ps.length) (r : Vals vs us)
    (x : InCallC st st.heap.objs.size (bindL (envOfC qual sc st.heap.objs.size f cd).kindOf (ps.zip us) fun _ => none) (cellsFrom (st.heap.objs.size + 1) sc.names []) (bindC (envOfC qual sc st.heap.objs.size f cd).kindOf (ps.zip us) fun _ => none) s1) :
    Inv (cxW CX P w K mg base N qual sc f cd Ar out st H E pl) [] (start N vs) H s1 := by
  have J : Inv (cxOf CX P w K mg base N qual sc f cd { Ar with handled := none } out st H E) [] (start N vs) H s1 := inv_start S rfl (env_calm en) hl r x
  obtain ⟨h1, tk, rfl, hk⟩ := x.done
  have o := J.ok
  refine ⟨⟨o.mod, o.kind, o.glob, o.blt, o.above, o.inj, o.has, o.cab, fun z => Bool.noConfusion (show false = true from z), Around.frames_deeper en.frames, o.stk, o.exf, o.bs, o.bsz, o.noex, o.exfs, o.funs, o.frf⟩, J.os, J.bare, J.base, J.loc, J.cell, J.free, J.freeC, fun q hq => ?_, J.hok, J.len⟩
  have hq' : q ∈ pl := by
    rcases List.mem_append.mp hq with z | z
    · exact z
    · cases z
  have k := hp q hq'
  exact ⟨hk q.1 q.2 k.get, k.free, Nat.ne_of_lt (Heap.lt_size k.get), k.nofs, k.nocell⟩
end
section
variable {X : Cx} {W : WX} {k n : Nat} {f : Addr} {fd : FuncData} {ps ks : List Str} {F : List Val → M Val} {gW : List Val → List Val → List Val} {ra rk : En → M (List Val)} {x : Str} {p pos : Pos} {e : Expr} {es : List Expr} {kws : List Keyword}
/-- the keywords' values -/
theorem PK.weak {t t' : TA} (h : PK X kws t) (i : ∀ sg H Q, t' sg H Q → t sg H Q) : PK X kws t' := ⟨fun po pins s sg H Q I q => h.run po pins s sg H Q I (i _ _ _ q)⟩
theorem ok_nil : PK X [] (tA X.K W aNil) := by
  refine PK.weak pk_nil ?_
  rintro sg H Q ⟨al, B, ro, h, S, p⟩
  exact Po.now p S.hr .nil
theorem ok_cons {m : SE} {nm : Option Str} {kpos : Pos} (ha : PE X e (tE X.K W m)) (hr : PK X kws (tA X.K W rk)) : PK X (⟨nm, e, kpos⟩ :: kws) (tA X.K W (aCons m rk)) := by
  refine PK.weak (pk_cons ha hr) ?_
  rintro sg H Q ⟨al, B, ro, h, S, p⟩
  refine ⟨al, B, ro, h, S, Po.mono (Po.bind p) fun v1 H1 ⟨al1, h1, w1, st1, hr1, r1, p1⟩ => ?_⟩
  refine ⟨al1, B, ro, h1, S.step st1 hr1, Po.mono (Po.bind p1) fun v2 H2 ⟨al2, h2, w2, st2, hr2, r2, p2⟩ => ?_⟩
  exact Po.now p2 hr2 (.cons (r1.step st2) r2)
theorem run_call {pins : List (Addr × Obj)} {sg : L2.St} {H : Hp} {s : Shared} {Q : VK} {us ws : List Value} {vs zs : List V} {g : List Value → List Value → List Value} {gV : List V → List V → List V} {sp : Sp} {E : XK}
    (G : RunsIn X f fd ps sp) (hb : KBn X.K fd ps n ks g gV) (tk : L3.Takes X W) (hE : ∀ cls d H', E cls d H' → W cls d sg H')
    (I : Inv X pins sg H s) (r : Vals vs us) (rz : Vals zs ws) (l1 : vs.length = n) (l2 : zs.length = ks.length) (h : sp (gV vs zs) H Q E) : wpAny (model X.prog X.w) X.A (call (.ref f) us (ks.zip ws)) (EP X pins sg Q) X.xe s := by
  have r2 := hb.rel r rz
  refine wpAny_call (codeAny_mono (G pins sg s H ⟨us, ks.zip ws⟩ (g us ws) (gV vs zs) Q E I (hb.to s us ws I.kIn (r.length.symm.trans l1) (rz.length.symm.trans l2)) r2 h) fun r s' hq => ?_)
  cases r with
  | error e => exact tk _ _ (L3.XE.of_call I hE hq)
  | ok fl =>
    cases fl with
    | ret u => exact I.after hq
    | next => exact False.elim hq
    | brk => exact False.elim hq
    | cont => exact False.elim hq
/-- f(e, .., k = v, ..) -/
theorem oe_call {nk np : Nat} (G : RunsIn X f fd ps (spF X.K ps.length F)) (hg : Gl X x) (hm : X.mg x = some (.ref f)) (hk : PySem.W.keepIn X.K (.ref f) = true) (hb : KBz X.K fd ps n ks gW) (tk : L3.Takes X W)
    (ha : PA X (e :: es) (tA X.K W ra)) (hkw : PK X kws (tA X.K W rk)) (h1 : ks.length = nk) (h2 : ps.length = np) (hall : (backToKw pos (keywordEach kws X.env)).all (·.1.isSome) = true) (hks : (backToKw pos (keywordEach kws X.env)).filterMap (·.1) = ks)
    (hdb : (x == ("__debug__" : Str)) = false) (he : starEach (e :: es) X.env = (false, eval e X.env) :: starEach es X.env)
    (hpl : ((backTo pos (starEach (e :: es) X.env)).any (·.1) || (backToKw pos (keywordEach kws X.env)).any (·.1.isNone)) = false) :
    PE X (.Call (.Name x p) (e :: es) kws pos) (tE X.K W (sCall F n nk np gW ra rk)) := by
  subst h1 h2
  refine ⟨fun pins s sg H Q I h => ?_⟩
  obtain ⟨al, B, ro, h, S, q⟩ := h
  obtain ⟨g, gV, hb, hrel⟩ := hb.ex
  refine wpAny_Call_Name_kw (ld_glob I hg hm ?_ hdb)
  refine PySem.W.callWith_KW (h₀ := X.base) I.ok.mod.kin hk hall (thn (ha.run pos pins s sg H _ I ⟨al, B, ro, h, S, Po.mono (Po.bind q) fun vs H1 z => z⟩) fun us s1 ⟨vs, H1, I1, r, al1, h1, w1, st1, hr1, r1, p1⟩ => ?_) hpl he
  refine thn (hkw.run pos pins s1 sg H1 _ I1 ⟨al1, B, ro, h1, S.step st1 hr1, Po.mono (Po.bind p1) fun vs H1 z => z⟩) fun ws s2 ⟨zs, H2, I2, rz, al2, h2, w2, st2, hr2, r2, p2⟩ => ⟨I2.kIn, ?_⟩
  have r1' := r1.step st2
  rw [hks]
  by_cases c : w1.length = n ∧ w2.length = ks.length ∧ (gW w1 w2).length = ps.length
  · rw [if_pos c] at p2
    refine run_call (W := W) (E := fun cls d H' => W cls d sg H') G hb tk (fun _ _ _ z => z) I2 r rz (r1.length.symm.trans c.1) (r2.length.symm.trans c.2.1) ?_
    exact ⟨al2, B, h2, gW w1 w2, hr2, hrel _ _ _ _ _ _ _ r1' r2, c.2.2, Po.wish p2 fun _ _ _ z => z⟩
  · rw [if_neg c] at p2
    exact p2.elim
end
/-! ### statements -/
inductive Fl where
  | nx | brk | ct | ret (w : Val) | ex (e : Ex)
inductive SO where
  | bad
  | go (f : Fl) (ro : En) (h : HH)
abbrev SS := En → HH → SO
def Ps (K : PySem.W.Frag) (B : List Addr) (al : List Addr) (H : Hp) (o : SO) (W : WX) (D : Ends) : Prop :=
  match o with
  | .bad => False
  | .go f ro' h' => ∀ al' sg' H', Stp al H al' H' → Sim K al' B ro' h' sg' H' → match f with
    | .nx => D.nx sg' H'
    | .brk => D.bk sg' H'
    | .ct => D.ct sg' H'
    | .ret w => ∀ v, Rep K al' B H' w v → D.rt v H'
    | .ex e => ∀ cls d, ExR K al' B H' e cls d → W cls d sg' H'
def tS (K : PySem.W.Frag) (W : WX) (m : SS) : TS := fun D sg H => ∃ al B ro h, Sim K al B ro h sg H ∧ Ps K B al H (m ro h) W D
theorem Ps.step {K : PySem.W.Frag} {B al al' : List Addr} {H H' : Hp} {o : SO} {W : WX} {D : Ends} (p : Ps K B al H o W D) (s : Stp al H al' H') : Ps K B al' H' o W D := by
  cases o with
  | bad => exact p
  | go f ro h => exact fun a b c d e => p a b c (s.trans d) e
def sbind {β : Type} (o : Out β) (ro : En) (k : β → HH → SO) : SO := match o with
  | .bad => .bad
  | .ok a h => k a h
  | .ex e h => .go (.ex e) ro h
theorem Ps.bind {β γ : Type} {K : PySem.W.Frag} {B al : List Addr} {rb : List Addr → Hp → β → γ → Prop} {sg : L2.St} {H : Hp} {o : Out β} {W : WX} {D : Ends} {ro : En} {h : HH} {k : β → HH → SO} (S : Sim K al B ro h sg H) (p : Ps K B al H (sbind o ro k) W D) :
    Po K B rb sg al H o W (fun v H1 => ∃ al1 h1 w, Stp al H al1 H1 ∧ HR K al1 B H1 h1 ∧ rb al1 H1 w v ∧ Ps K B al1 H1 (k w h1) W D) := by
  cases o with
  | bad => exact p
  | ok w h' => exact fun a b c d e f => ⟨a, h', w, d, e, f, Ps.step (o := k w h') p d⟩
  | ex e h' => exact fun a b c d st hr er => p a sg b st (S.step st hr) c d er
theorem Ps.ends {K : PySem.W.Frag} {B al : List Addr} {H : Hp} {o : SO} {W : WX} {D D' : Ends} (p : Ps K B al H o W D) (h1 : ∀ s h, D.nx s h → D'.nx s h) (h2 : ∀ s h, D.bk s h → D'.bk s h) (h3 : ∀ s h, D.ct s h → D'.ct s h) (h4 : ∀ s h, D.rt s h → D'.rt s h) : Ps K B al H o W D' := by
  cases o with
  | bad => exact p
  | go f ro h =>
    intro a b c d e
    have q := p a b c d e
    cases f with
    | nx => exact h1 _ _ q
    | brk => exact h2 _ _ q
    | ct => exact h3 _ _ q
    | ret w => exact fun v r => h4 _ _ (q v r)
    | ex e => exact q
def nNext : SS := fun ro h => .go .nx ro h
def nSeq (m1 m2 : SS) : SS := fun ro h => match m1 ro h with
  | .go .nx ro1 h1 => m2 ro1 h1
  | o => o
def nRet (m : SE) : SS := fun ro h => sbind (m ro h) ro fun w h1 => .go (.ret w) ro h1
def nRetN : SS := fun ro h => .go (.ret .non) ro h
def nExpr (m : SE) : SS := fun ro h => sbind (m ro h) ro fun _ h1 => .go .nx ro h1
def nSet (i : Nat) (m : SE) : SS := fun ro h => sbind (m ro h) ro fun w h1 => .go .nx (ro.set i (some w)) h1
def nIf (c : En → M Bool) (m1 m2 : SS) : SS := fun ro h => sbind (c ro h) ro fun b h1 => if b = true then m1 ro h1 else m2 ro h1
def nBrk : SS := fun ro h => .go .brk ro h
def nCt : SS := fun ro h => .go .ct ro h
section
variable {X : Cx} {W : WX} {st : Stmt} {rest : List Stmt} {e : Expr} {m : SE} {m1 m2 : SS} {pos : Pos}
theorem PS.weak {t t' : TS} (h : PS X st t) (i : ∀ D sg H, t' D sg H → t D sg H) : PS X st t' := ⟨fun pins s sg H D I q => h.run pins s sg H D I (i _ _ _ q)⟩
theorem PSs.weak {t t' : TS} (h : PSs X rest t) (i : ∀ D sg H, t' D sg H → t D sg H) : PSs X rest t' := ⟨fun pins s sg H D I q => h.run pins s sg H D I (i _ _ _ q)⟩
theorem os_nil : PSs X [] (tS X.K W nNext) := by
  refine PSs.weak pss_nil ?_
  rintro D sg H ⟨al, B, ro, h, S, p⟩
  exact p al sg H (Stp.refl _ _) S
theorem tS_seq {K : PySem.W.Frag} (D : Ends) (sg : L2.St) (H : Hp) (p : tS K W (nSeq m1 m2) D sg H) : tSeq (tS K W m1) (tS K W m2) D sg H := by
  obtain ⟨al, B, ro, h, S, p⟩ := p
  refine ⟨al, B, ro, h, S, ?_⟩
  unfold nSeq at p
  cases e : m1 ro h with
  | bad => rw [e] at p; exact p
  | go f ro1 h1 =>
    rw [e] at p
    intro a b c d s
    cases f with
    | nx => exact ⟨a, B, ro1, h1, s, Ps.step (o := m2 ro1 h1) p d⟩
    | brk => exact p a b c d s
    | ct => exact p a b c d s
    | ret w => exact p a b c d s
    | ex e => exact p a b c d s
theorem os_cons (h1 : PS X st (tS X.K W m1)) (h2 : PSs X rest (tS X.K W m2)) : PSs X (st :: rest) (tS X.K W (nSeq m1 m2)) := PSs.weak (pss_cons h1 h2) tS_seq
theorem os_ret (he : PE X e (tE X.K W m)) : PS X (.Return (some e) pos) (tS X.K W (nRet m)) := by
  refine PS.weak (ps_ret he) ?_
  rintro D sg H ⟨al, B, ro, h, S, p⟩
  refine ⟨al, B, ro, h, S, Po.mono (Ps.bind S p) fun v H1 ⟨al1, h1, w, st, hr, r, q⟩ => ?_⟩
  exact q al1 sg H1 (Stp.refl _ _) (S.step st hr) v r
theorem os_expr (he : PE X e (tE X.K W m)) (hs : swapsWith e none pos.line X.env = pure false) : PS X (.Expr e pos) (tS X.K W (nExpr m)) := by
  refine PS.weak (ps_expr he hs) ?_
  rintro D sg H ⟨al, B, ro, h, S, p⟩
  refine ⟨al, B, ro, h, S, Po.mono (Ps.bind S p) fun v H1 ⟨al1, h1, w, st, hr, r, q⟩ => ?_⟩
  exact q al1 sg H1 (Stp.refl _ _) (S.step st hr)
theorem os_if {c : Expr} {mc : En → M Bool} {p q : List Stmt} (hc : PT X c (tT X.K W mc)) (hp : PSs X p (tS X.K W m1)) (hq : PSs X q (tS X.K W m2)) : PS X (.If c p q pos) (tS X.K W (nIf mc m1 m2)) := by
  refine PS.weak (ps_if hc hp hq) ?_
  rintro D sg H ⟨al, B, ro, h, S, p⟩
  refine ⟨al, B, ro, h, S, Po.mono (Ps.bind S p) fun v H1 ⟨al1, h1, w, st, hr, r, q⟩ => ?_⟩
  subst r
  by_cases k : w = true
  · rw [if_pos k] at q ⊢; exact ⟨al1, B, ro, h1, S.step st hr, q⟩
  · rw [if_neg k] at q ⊢; exact ⟨al1, B, ro, h1, S.step st hr, q⟩
theorem Sim.set {K : PySem.W.Frag} {al B : List Addr} {ro : En} {h : HH} {sg : L2.St} {H : Hp} (S : Sim K al B ro h sg H) (i : Nat) {w : Val} {v : V} (r : Rep K al B H w v) : Sim K al B (ro.set i (some w)) h (sg.set i (some v)) H := by
  refine ⟨S.hr, by simp [S.len], fun j u e => ?_⟩
  by_cases z : i = j
  · subst z
    have l : i < ro.length := by have := (List.getElem?_eq_some_iff.mp e).1; simpa using this
    rw [List.getElem?_set_self l] at e
    cases e
    exact ⟨v, by rw [List.getElem?_set_self (by rw [← S.len]; exact l)], r⟩
  · rw [List.getElem?_set_ne z] at e
    obtain ⟨v', p, q⟩ := S.env j u e
    exact ⟨v', by rw [List.getElem?_set_ne z]; exact p, q⟩
theorem os_set {i : Nat} {x : Str} {pos' : Pos} (hN : X.N.Nodup) (hi : X.N[i]? = some x) (hx : Loc X.env.scope x) (he : PE X e (tE X.K W m)) (hs : swapsWith e (some (.Name x pos')) pos.line X.env = pure false) (hf : X.fn x = true ∨ X.env.scope.names.lookup x = some .local) :
    PS X (.Assign [.Name x pos'] e pos) (tS X.K W (nSet i m)) := by
  refine PS.weak (ps_set hN hi hx he hs hf) ?_
  rintro D sg H ⟨al, B, ro, h, S, p⟩
  refine ⟨al, B, ro, h, S, Po.mono (Ps.bind S p) fun v H1 ⟨al1, h1, w, st, hr, r, q⟩ => ?_⟩
  exact q al1 _ H1 (Stp.refl _ _) ((S.step st hr).set i r)
end
/-! ### tests -/
def Out.val {β γ : Type} (o : Out β) (f : β → M γ) : Out γ := obind o f
section
variable {X : Cx} {W : WX} {a b : Expr} {m : SE} {t u : En → M Bool} {rest : List Expr} {pos : Pos}
def truthy (w : Val) : M Bool := fun h => match w with
  | .non => .ok false h
  | .bl b => .ok b h
  | .int i => .ok (i != 0) h
  | .str x => if x.length ≤ sizeLine then .ok ((x.length : Int) != 0) h else .bad
  | .tup xs => .ok (!xs.isEmpty) h
  | .lst xs => .ok (!xs.isEmpty) h
  | .ref n => match h[n]? with
    | some (.lst xs) => .ok (!xs.isEmpty) h
    | some (.dic xs) => .ok (!xs.isEmpty) h
    | _ => .bad
  | .scr ns => .ok (!ns.isEmpty) h
  | _ => .bad
def cV (m : SE) : En → M Bool := fun ro => bind (m ro) truthy
def cAnd (t u : En → M Bool) : En → M Bool := fun ro => bind (t ro) fun b => if b = true then u ro else ret false
def cOr (t u : En → M Bool) : En → M Bool := fun ro => bind (t ro) fun b => if b = true then ret true else u ro
def cNot (t : En → M Bool) : En → M Bool := fun ro => bind (t ro) fun b => ret (!b)
theorem Reps.isEmpty {K : PySem.W.Frag} {al B : List Addr} {H : Hp} {xs : List Val} {vs : List V} (r : Reps K al B H xs vs) : (!xs.isEmpty) = !vs.isEmpty := by cases r <;> rfl
theorem lk_truthy {K : PySem.W.Frag} {al B : List Addr} {sg : L2.St} {H : Hp} {h : HH} {w : Val} {v : V} {Q : Bool → Hp → Prop} (hr : HR K al B H h) (r : Rep K al B H w v) (p : Po K B (fun _ _ a b => a = b) sg al H (truthy w h) W Q) : ∃ k, TruV K v H k ∧ Q k H := by
  cases r with
  | non => exact ⟨false, rfl, Po.now p hr rfl⟩
  | bl b => exact ⟨b, rfl, Po.now p hr rfl⟩
  | int i => exact ⟨i != 0, rfl, Po.now p hr rfl⟩
  | str x =>
    unfold truthy at p
    dsimp only at p
    split at p
    · rename_i z; exact ⟨_, ⟨z, rfl⟩, Po.now p hr rfl⟩
    · exact p.elim
  | tup a _ s => exact ⟨_, .inr (.inl ⟨_, sqT_of a, s.isEmpty⟩), Po.now p hr rfl⟩
  | lst a _ s => exact ⟨_, .inl ⟨_, SqL.of a.1, s.isEmpty⟩, Po.now p hr rfl⟩
  | ref e =>
    rename_i n a
    unfold truthy at p
    dsimp only at p
    split at p
    · rename_i xs e2
      cases hr.ob _ _ _ e e2 with
      | lst q _ s => exact ⟨_, .inl ⟨_, SqL.of q, s.isEmpty⟩, Po.now p hr rfl⟩
    · rename_i xs e2
      cases hr.ob _ _ _ e e2 with
      | dic q ks s => exact ⟨_, .inr (.inr ⟨_, q, by have := s.isEmpty; cases xs <;> cases ‹List (Key × V)› <;> simp_all⟩), Po.now p hr rfl⟩
    · exact p.elim
  | glo => exact p.elim
  | ty => exact p.elim
  | scr a _ => exact ⟨_, .inl ⟨_, sqL_of a, by simp⟩, Po.now p hr rfl⟩
  | exn => exact p.elim
theorem ot_val (ha : PE X a (tE X.K W m)) (he : ∀ whole, isTrue a X.env whole = (do let v ← whole; standAt a.pos; holding [v] (PySem.truthy v))) : PT X a (tT X.K W (cV m)) := by
  refine PT.weak (pt_truth ha he) ?_
  rintro sg H Q ⟨al, B, ro, h, S, p⟩
  refine ⟨al, B, ro, h, S, Po.mono (Po.bind p) fun v1 H1 ⟨al1, h1, w1, st1, hr1, r1, p1⟩ => ?_⟩
  exact lk_truthy hr1 r1 p1
theorem PW.weak {t t' : TT} {e : Expr} (h : PW X e t) (i : ∀ sg H Q, t' sg H Q → t sg H Q) : PW X e t' := ⟨fun wh pins s sg H Q I q => h.run wh pins s sg H Q I (i _ _ _ q)⟩
theorem ow_and1 (ha : PT X a (tT X.K W t)) : PW X (.BoolOp .And [a] pos) (tT X.K W t) := pw_and1 ha
theorem ow_or1 (ha : PT X a (tT X.K W t)) : PW X (.BoolOp .Or [a] pos) (tT X.K W t) := pw_or1 ha
theorem ow_and (ha : PT X a (tT X.K W t)) (hb : PW X (.BoolOp .And (b :: rest) pos) (tT X.K W u)) : PW X (.BoolOp .And (a :: b :: rest) pos) (tT X.K W (cAnd t u)) := by
  refine PW.weak (pw_and ha hb) ?_
  rintro sg H Q ⟨al, B, ro, h, S, p⟩
  refine ⟨al, B, ro, h, S, Po.mono (Po.bind p) fun v1 H1 ⟨al1, h1, w1, st1, hr1, r1, p1⟩ => ?_⟩
  subst r1
  cases w1 with
  | true => exact ⟨al1, B, ro, h1, S.step st1 hr1, p1⟩
  | false => exact Po.now p1 hr1 rfl
theorem ow_or (ha : PT X a (tT X.K W t)) (hb : PW X (.BoolOp .Or (b :: rest) pos) (tT X.K W u)) : PW X (.BoolOp .Or (a :: b :: rest) pos) (tT X.K W (cOr t u)) := by
  refine PW.weak (pw_or ha hb) ?_
  rintro sg H Q ⟨al, B, ro, h, S, p⟩
  refine ⟨al, B, ro, h, S, Po.mono (Po.bind p) fun v1 H1 ⟨al1, h1, w1, st1, hr1, r1, p1⟩ => ?_⟩
  subst r1
  cases w1 with
  | false => exact ⟨al1, B, ro, h1, S.step st1 hr1, p1⟩
  | true => exact Po.now p1 hr1 rfl
theorem ot_not (ha : PT X a (tT X.K W t)) : PT X (.UnaryOp .Not a pos) (tT X.K W (cNot t)) := by
  refine PT.weak (pt_not ha) ?_
  rintro sg H Q ⟨al, B, ro, h, S, p⟩
  refine ⟨al, B, ro, h, S, Po.mono (Po.bind p) fun v1 H1 ⟨al1, h1, w1, st1, hr1, r1, p1⟩ => ?_⟩
  subst r1
  exact Po.now p1 hr1 rfl
/-- a comparison as a test -/
def cBin (f : Val → Val → M Val) (m1 m2 : SE) : En → M Bool := fun ro => bind (sBin f m1 m2 ro) fun w => match w with
  | .bl b => ret b
  | _ => fail
theorem ot_cmp {op : CmpOp} {f : Val → Val → M Val} {m1 m2 : SE} {r : R2} (ho : OpR X (compareOp op) r) (lk : Lk2 X.K f r) (hm : behindInMarks op b = false) (ha : PE X a (tE X.K W m1)) (hb : PE X b (tE X.K W m2)) : PT X (.Compare a [op] [b] pos) (tT X.K W (cBin f m1 m2)) := by
  refine PT.weak (pt_cmpR ho ha hb hm) ?_
  rintro sg H Q ⟨al, B, ro, h, S, p⟩
  refine tE_bin lk sg H _ ⟨al, B, ro, h, S, Po.mono (Po.bind p) fun v1 H1 ⟨al1, h1, w1, st1, hr1, r1, p1⟩ => ?_⟩
  cases r1 <;> first | exact p1.elim | exact ⟨_, rfl, Po.now p1 hr1 rfl⟩
/-! ### and, or, not, if as values -/
def sAnd (m1 m2 : SE) : SE := fun ro => bind (m1 ro) fun w => bind (truthy w) fun b => if b = true then m2 ro else ret w
def sOr (m1 m2 : SE) : SE := fun ro => bind (m1 ro) fun w => bind (truthy w) fun b => if b = true then ret w else m2 ro
def sNot (m : SE) : SE := fun ro => bind (m ro) fun w => bind (truthy w) fun b => ret (.bl (!b))
def sIf (c : En → M Bool) (m1 m2 : SE) : SE := fun ro => bind (c ro) fun b => if b = true then m1 ro else m2 ro
end
end Z
/-! Z3: and, or, not, if as values; targets; loops; list comprehensions. -/
namespace Z
open PySem PySem.Spec PyProof.Rows L2
section
variable {X : Cx} {W : WX} {a b c : Expr} {m1 m2 m : SE} {t : En → M Bool} {rest : List Expr} {pos : Pos}
theorem oe_one {op : BoolOp} (h : PE X a (tE X.K W m)) : PE X (.BoolOp op [a] pos) (tE X.K W m) := pe_one h
theorem oe_and (ha : PE X a (tE X.K W m1)) (hb : PE X (.BoolOp .And (b :: rest) pos) (tE X.K W m2)) : PE X (.BoolOp .And (a :: b :: rest) pos) (tE X.K W (sAnd m1 m2)) := by
  refine PE.weak (pe_andT ha hb) ?_
  rintro sg H Q ⟨al, B, ro, h, S, p⟩
  refine ⟨al, B, ro, h, S, Po.mono (Po.bind p) fun v1 H1 ⟨al1, h1, w1, st1, hr1, r1, p1⟩ => ?_⟩
  obtain ⟨k, tk, al2, h2, w2, st2, hr2, e, p2⟩ := lk_truthy hr1 r1 (Po.bind p1)
  subst e
  refine ⟨_, tk, ?_⟩
  cases w2 with
  | true => exact ⟨al2, B, ro, h2, S.step (st1.trans st2) hr2, p2⟩
  | false => exact Po.now p2 hr2 (r1.step st2)
theorem oe_or (ha : PE X a (tE X.K W m1)) (hb : PE X (.BoolOp .Or (b :: rest) pos) (tE X.K W m2)) : PE X (.BoolOp .Or (a :: b :: rest) pos) (tE X.K W (sOr m1 m2)) := by
  refine PE.weak (pe_orT ha hb) ?_
  rintro sg H Q ⟨al, B, ro, h, S, p⟩
  refine ⟨al, B, ro, h, S, Po.mono (Po.bind p) fun v1 H1 ⟨al1, h1, w1, st1, hr1, r1, p1⟩ => ?_⟩
  obtain ⟨k, tk, al2, h2, w2, st2, hr2, e, p2⟩ := lk_truthy hr1 r1 (Po.bind p1)
  subst e
  refine ⟨_, tk, ?_⟩
  cases w2 with
  | false => exact ⟨al2, B, ro, h2, S.step (st1.trans st2) hr2, p2⟩
  | true => exact Po.now p2 hr2 (r1.step st2)
theorem oe_not (ha : PE X a (tE X.K W m)) : PE X (.UnaryOp .Not a pos) (tE X.K W (sNot m)) := by
  refine PE.weak (pe_notT ha) ?_
  rintro sg H Q ⟨al, B, ro, h, S, p⟩
  refine ⟨al, B, ro, h, S, Po.mono (Po.bind p) fun v1 H1 ⟨al1, h1, w1, st1, hr1, r1, p1⟩ => ?_⟩
  obtain ⟨k, tk, al2, h2, w2, st2, hr2, e, p2⟩ := lk_truthy hr1 r1 (Po.bind p1)
  subst e
  exact ⟨_, tk, Po.now p2 hr2 (.bl _)⟩
end
/-! ### targets -/
abbrev GM := Val → En → HH → SO
/-- what a store leaves: only the slots at sl are others -/
def Pg (K : PySem.W.Frag) (B : List Addr) (sl : List Nat) (al : List Addr) (H : Hp) (sg : L2.St) (o : SO) (Q : L2.St → Hp → Prop) : Prop := match o with
  | .go .nx ro' h' => ∀ al' sg' H', Stp al H al' H' → Sim K al' B ro' h' sg' H' → (sg'.length = sg.length ∧ ∀ i, i ∉ sl → sg'[i]? = sg[i]?) → Q sg' H'
  | _ => False
def tG (K : PySem.W.Frag) (sl : List Nat) (g : GM) : TG := fun v sg H Q => ∃ al B ro h w, Sim K al B ro h sg H ∧ Rep K al B H w v ∧ Pg K B sl al H sg (g w ro h) Q
def tGs (K : PySem.W.Frag) (sl : List Nat) (g : List Val → En → HH → SO) : TGs := fun vs sg H Q => ∃ al B ro h ws, Sim K al B ro h sg H ∧ Reps K al B H ws vs ∧ Pg K B sl al H sg (g ws ro h) Q
def gNm (i : Nat) : GM := fun w ro h => .go .nx (ro.set i (some w)) h
def gsNil : List Val → En → HH → SO := fun ws ro h => match ws with
  | [] => .go .nx ro h
  | _ => .bad
def gsCons (g : GM) (r : List Val → En → HH → SO) : List Val → En → HH → SO := fun ws ro h => match ws with
  | [] => .bad
  | w :: ws => match g w ro h with
    | .go .nx ro1 h1 => r ws ro1 h1
    | _ => .bad
/-- the items of a thing -/
def items (w : Val) (h : HH) : Option (List Val) := match w with
  | .tup xs => some xs
  | .lst xs => some xs
  | .scr ns => some (ns.map Val.int)
  | .ref n => match h[n]? with
    | some (.lst xs) => some xs
    | _ => none
  | _ => none
def gTp (n : Nat) (g : List Val → En → HH → SO) : GM := fun w ro h => match items w h with
  | some xs => if xs.length = n then g xs ro h else .bad
  | none => .bad
theorem Pg.step {K : PySem.W.Frag} {B : List Addr} {sl : List Nat} {al al' : List Addr} {H H' : Hp} {sg : L2.St} {o : SO} {Q : L2.St → Hp → Prop} (p : Pg K B sl al H sg o Q) (s : Stp al H al' H') : Pg K B sl al' H' sg o Q := by
  cases o with
  | bad => exact p
  | go f ro h =>
    cases f with
    | nx => exact fun a b c d e f => p a b c (s.trans d) e f
    | _ => exact p
theorem Reps.ints {K : PySem.W.Frag} {al B : List Addr} {H : Hp} : ∀ ns : List Int, Reps K al B H (ns.map Val.int) (ns.map V.int)
  | [] => .nil
  | n :: ns => .cons (.int n) (Reps.ints ns)
/-- a thing with items stands as a list or as a tuple -/
theorem items_sq {K : PySem.W.Frag} {al B : List Addr} {H : Hp} {h : HH} {w : Val} {v : V} {xs : List Val} (hr : HR K al B H h) (r : Rep K al B H w v) (e : items w h = some xs) : ∃ a vs, v = .ref a ∧ (SqL K H a vs ∨ SqT K H a vs) ∧ Reps K al B H xs vs := by
  cases r with
  | tup a _ s => cases e; exact ⟨_, _, rfl, .inr (sqT_of a), s⟩
  | lst a _ s => cases e; exact ⟨_, _, rfl, .inl (SqL.of a.1), s⟩
  | scr a _ => cases e; exact ⟨_, _, rfl, .inl (sqL_of a), Reps.ints _⟩
  | exn => cases e
  | ref q =>
    unfold items at e
    dsimp only at e
    split at e
    · rename_i e2
      cases e
      cases hr.ob _ _ _ q e2 with
      | lst q _ s => exact ⟨_, _, rfl, .inl (SqL.of q), s⟩
    · cases e
  | non => cases e
  | bl => cases e
  | int => cases e
  | str => cases e
  | glo => cases e
  | ty => cases e
section
variable {X : Cx} {tg : Expr} {pos : Pos}
theorem PG.weak {t t' : TG} (h : PG X tg t) (i : ∀ v sg H Q, t' v sg H Q → t v sg H Q) : PG X tg t' := ⟨fun pins s sg H v u Q I r q => h.run pins s sg H v u Q I r (i _ _ _ _ q)⟩
theorem PG.or {t t' : TG} (h : PG X tg t) (h' : PG X tg t') : PG X tg (fun v sg H Q => t v sg H Q ∨ t' v sg H Q) := ⟨fun pins s sg H v u Q I r q => q.elim (h.run pins s sg H v u Q I r) (h'.run pins s sg H v u Q I r)⟩
theorem PGs.weak {ts : List Expr} {t t' : TGs} (h : PGs X ts t) (i : ∀ v sg H Q, t' v sg H Q → t v sg H Q) : PGs X ts t' := ⟨fun pins s sg H v u Q I r q => h.run pins s sg H v u Q I r (i _ _ _ _ q)⟩
theorem og_name {i : Nat} {x : Str} (hN : X.N.Nodup) (hi : X.N[i]? = some x) (hx : Loc X.env.scope x) (hf : X.fn x = true ∨ X.env.scope.names.lookup x = some .local) : PG X (.Name x pos) (tG X.K [i] (gNm i)) := by
  refine PG.weak (pg_name hN hi hx hf) ?_
  rintro v sg H Q ⟨al, B, ro, h, w, S, r, p⟩
  refine p al _ H (Stp.refl _ _) (S.set i r) ⟨by simp, fun j hj => ?_⟩
  rw [List.getElem?_set_ne]
  simpa using fun z => hj (by simp [z])
theorem ogs_nil : PGs X [] (tGs X.K [] gsNil) := by
  refine PGs.weak pgs_nil ?_
  rintro v sg H Q ⟨al, B, ro, h, ws, S, r, p⟩
  cases r with
  | nil => exact ⟨rfl, p al sg H (Stp.refl _ _) S ⟨rfl, fun _ _ => rfl⟩⟩
  | cons _ _ => exact p.elim
theorem ogs_cons {e : Expr} {es : List Expr} {sl sl' : List Nat} {g : GM} {r : List Val → En → HH → SO} (h1 : PG X e (tG X.K sl g)) (h2 : PGs X es (tGs X.K sl' r)) (hs : (assignEach (e :: es) X.env).map (·.2) = assign e X.env :: (assignEach es X.env).map (·.2)) : PGs X (e :: es) (tGs X.K (sl ++ sl') (gsCons g r)) := by
  refine PGs.weak (pgs_cons h1 h2 hs) ?_
  rintro v sg H Q ⟨al, B, ro, h, ws, S, rr, p⟩
  cases rr with
  | nil => exact p.elim
  | @cons w ws v vs rw rs =>
    refine ⟨v, vs, rfl, al, B, ro, h, w, S, rw, ?_⟩
    unfold gsCons at p
    dsimp only at p
    cases e : g w ro h with
    | bad => rw [e] at p; exact p.elim
    | go f ro1 h1 =>
      rw [e] at p
      cases f with
      | nx =>
        intro a b c d s f
        refine ⟨a, B, ro1, h1, ws, s, rs.step d, ?_⟩
        dsimp only at p
        cases e2 : r ws ro1 h1 with
        | bad => rw [e2] at p; exact p.elim
        | go f2 ro2 h2 =>
          rw [e2] at p
          cases f2 with
          | nx =>
            intro a' b' c' d' s' f'
            refine p a' b' c' (d.trans d') s' ⟨f'.1.trans f.1, fun i hi => ?_⟩
            rw [f'.2 i fun z => hi (List.mem_append_right _ z), f.2 i fun z => hi (List.mem_append_left _ z)]
          | _ => exact p.elim
      | _ => exact p.elim
theorem og_tup {es : List Expr} {k n : Nat} {sl : List Nat} {g : List Val → En → HH → SO} (hc : X.calm = true) (h : PGs X es (tGs X.K sl g)) (hn : (assignEach es X.env).length = n) (hst : (assignEach es X.env).findIdx? (·.1) = none) : PG X (.Tuple es k pos) (tG X.K sl (gTp n g)) := by
  refine PG.weak (PG.or (pg_tup hc h hn hst) (pg_lst hc h hn hst)) ?_
  rintro v sg H Q ⟨al, B, ro, h, w, S, r, p⟩
  unfold gTp at p
  cases e : items w h with
  | none => rw [e] at p; exact p.elim
  | some xs =>
    rw [e] at p
    dsimp only at p
    obtain ⟨a, vs, rfl, q, rs⟩ := items_sq S.hr r e
    split at p
    · rename_i l
      rcases q with q | q
      · exact .inr ⟨a, vs, rfl, q, by rw [← rs.length]; exact l, al, B, ro, h, xs, S, rs, p⟩
      · exact .inl ⟨a, vs, rfl, q, by rw [← rs.length]; exact l, al, B, ro, h, xs, S, rs, p⟩
    · exact p.elim
end
def nAsg (m : SE) (g : GM) : SS := fun ro h => sbind (m ro h) ro fun w h1 => match g w ro h1 with
  | .go .nx ro2 h2 => .go .nx ro2 h2
  | _ => .bad
theorem os_asg {X : Cx} {W : WX} {tg e : Expr} {m : SE} {sl : List Nat} {g : GM} {pos : Pos} (he : PE X e (tE X.K W m)) (hg : PG X tg (tG X.K sl g)) (hs : swapsWithSole [tg] e pos.line X.env = pure false) (hw : swappedStores [tg] e X.env = pure none)
    (h1 : (assignEach [tg] X.env).map (·.2) = [assign tg X.env]) : PS X (.Assign [tg] e pos) (tS X.K W (nAsg m g)) := by
  refine PS.weak (ps_asg he hg hs hw h1) ?_
  rintro D sg H ⟨al, B, ro, h, S, p⟩
  refine ⟨al, B, ro, h, S, Po.mono (Ps.bind S p) fun v H1 ⟨al1, h1, w, st, hr, r, q⟩ => ?_⟩
  refine ⟨al1, B, ro, h1, w, S.step st hr, r, ?_⟩
  split at q
  · rename_i e
    rw [e]
    exact fun a b c d e f => q a b c d e
  · exact q.elim
section
variable {K : PySem.W.Frag} {al al' B B' : List Addr} {H H' : Hp}
theorem At.stepB (s : StpB B al H al' H') (hB : ∀ b ∈ B', b ∈ B ∨ H b = none) {a : Addr} {u : HO} (x : At al B H a u) : At al' B' H' a u := by
  have y := x.stepW s
  refine ⟨y.1, y.2, fun z => ?_⟩
  rcases hB a z with q | q
  · exact x.2.2 q
  · rcases x.1 with e | ⟨_, e⟩ <;> rw [q] at e <;> cases e
theorem At1.stepB (s : StpB B al H al' H') (hB : ∀ b ∈ B', b ∈ B ∨ H b = none) {a : Addr} {u : HO} (x : At1 al B H a u) : At1 al' B' H' a u := ⟨(x.stepW s).1, (x.at.stepB s hB).2⟩
theorem AtT.stepB (s : StpB B al H al' H') (hB : ∀ b ∈ B', b ∈ B ∨ H b = none) {a : Addr} {u : List V} (x : AtT al B H a u) : AtT al' B' H' a u := by
  obtain ⟨w, q, f⟩ := x
  exact ⟨w, q.stepB s hB, f⟩
mutual
theorem Rep.stepB (s : StpB B al H al' H') (hB : ∀ b ∈ B', b ∈ B ∨ H b = none) : ∀ {w : Val} {v : V}, Rep K al B H w v → Rep K al' B' H' w v
  | _, _, .non => .non
  | _, _, .bl b => .bl b
  | _, _, .int i => .int i
  | _, _, .str x => .str x
  | _, _, .tup a l r => .tup (a.imp (AtT.stepB s hB) id) l (Reps.stepB s hB r)
  | _, _, .lst a l r => .lst (At1.stepB s hB a) l (Reps.stepB s hB r)
  | _, _, .ref e => .ref (s.get e)
  | _, _, .glo a => .glo a
  | _, _, .ty n => .ty n
  | _, _, .scr a l => .scr (a.imp (At.stepB s hB) id) l
  | _, _, .exn a e r => .exn (At1.stepB s hB a) e (Reps.stepB s hB r)
theorem Reps.stepB (s : StpB B al H al' H') (hB : ∀ b ∈ B', b ∈ B ∨ H b = none) : ∀ {w : List Val} {v : List V}, Reps K al B H w v → Reps K al' B' H' w v
  | _, _, .nil => .nil
  | _, _, .cons a r => .cons (Rep.stepB s hB a) (Reps.stepB s hB r)
end
end
theorem Sim.stepB {K : PySem.W.Frag} {al al' B B' : List Addr} {ro : En} {h h' : HH} {sg : L2.St} {H H' : Hp} (x : Sim K al B ro h sg H) (s : StpB B al H al' H') (hB : ∀ b ∈ B', b ∈ B ∨ H b = none) (hr : HR K al' B' H' h') : Sim K al' B' ro h' sg H' :=
  ⟨hr, x.len, fun i w e => by obtain ⟨v, p, q⟩ := x.env i w e; exact ⟨v, p, q.stepB s hB⟩⟩
/-! ### what is walked -/
/-- what is walked: fixed items, or a list of one's own, read at each turn -/
inductive Itm where
  | st (xs : List Val) | dyn (n : Nat) | den (n : Nat)
def nxt (x : Itm) (i : Nat) (h : HH) : Option (Option Val) := match x with
  | .st xs => some xs[i]?
  | .dyn n => match h[n]? with
    | some (.lst xs) => some xs[i]?
    | _ => none
  | .den n => match h[n]? with
    | some (.lst xs) => some (xs[i]?.map fun x => .tup [.int (i : Nat), x])
    | _ => none
abbrev SI := En → M (Itm × Nat)
/-- what J yields is x, from (al, H) on -/
def ItR (K : PySem.W.Frag) (B : List Addr) (J : It) (x : Itm) (al : List Addr) (H : Hp) : Prop :=
  ∀ al' B' H' h', StpB B al H al' H' → (∀ b ∈ B', b ∈ B ∨ H b = none) → HR K al' B' H' h' → ∀ i,
    (nxt x i h' = some none → J.stop i H') ∧ ∀ w, nxt x i h' = some (some w) → J.go i H' ∧ ∀ y H'', J.yld i H' y H'' → Stp al' H' al' H'' ∧ HR K al' B' H'' h' ∧ Rep K al' B' H'' w y
def tI (K : PySem.W.Frag) (W : WX) (mi : SI) : TI := fun sg H R => ∃ al B ro h, Sim K al B ro h sg H ∧ Po K B (fun al H (x : Itm × Nat) J => ItR K B J x.1 al H ∧ x.2 ≤ sizeLine) sg al H (mi ro h) W R
/-- the turns -/
def turns (g : GM) (body : SS) (x : Itm) : Nat → Nat → SS
  | 0, i, ro, h => match nxt x i h with
    | some none => .go .nx ro h
    | _ => .bad
  | k + 1, i, ro, h => match nxt x i h with
    | none => .bad
    | some none => .go .nx ro h
    | some (some w) => match g w ro h with
      | .go .nx ro1 h1 => match body ro1 h1 with
        | .go .nx ro2 h2 => turns g body x k (i + 1) ro2 h2
        | .go .ct ro2 h2 => turns g body x k (i + 1) ro2 h2
        | .go .brk ro2 h2 => .go .nx ro2 h2
        | o => o
      | _ => .bad
def nFor (mi : SI) (g : GM) (body : SS) : SS := fun ro h => sbind (mi ro h) ro fun x h1 => turns g body x.1 x.2 0 ro h1
theorem tS_for {K : PySem.W.Frag} {W : WX} {mi : SI} {g : GM} {sl : List Nat} {body : SS} (D : Ends) (sg : L2.St) (H : Hp) (p : tS K W (nFor mi g body) D sg H) : tFor (tI K W mi) (tG K sl g) (tS K W body) D sg H := by
  obtain ⟨al, B, ro, h, S, p⟩ := p
  refine ⟨al, B, ro, h, S, Po.mono (Ps.bind S p) fun J H1 ⟨al1, h1, ⟨x, n⟩, st, hr, ⟨it, _⟩, q⟩ => ?_⟩
  dsimp only at it q
  refine ⟨fun i m sg2 H2 => ∃ al2 ro2 h2, Stp al1 H1 al2 H2 ∧ Sim K al2 B ro2 h2 sg2 H2 ∧ Ps K B al2 H2 (turns g body x m i ro2 h2) W D, ⟨n, al1, ro, h1, Stp.refl _ _, S.step st hr, q⟩, ?_⟩
  rintro i m sg2 H2 ⟨al2, ro2, h2, st2, S2, q2⟩
  obtain ⟨i1, i2⟩ := it al2 B H2 h2 st2.toB (fun b hb => .inl hb) S2.hr i
  cases e0 : nxt x i h2 with
  | none => cases m <;> (unfold turns at q2; rw [e0] at q2; exact q2.elim)
  | some o =>
  cases o with
  | none =>
    refine .inl ⟨i1 e0, ?_⟩
    cases m with
    | zero => unfold turns at q2; rw [e0] at q2; exact q2 al2 sg2 H2 (Stp.refl _ _) S2
    | succ m => unfold turns at q2; rw [e0] at q2; exact q2 al2 sg2 H2 (Stp.refl _ _) S2
  | some w =>
    obtain ⟨g1, g2⟩ := i2 w e0
    cases m with
    | zero => unfold turns at q2; rw [e0] at q2; exact q2.elim
    | succ m =>
    unfold turns at q2
    rw [e0] at q2
    refine .inr ⟨g1, fun sg3 H3 => ∃ al3 ro3 h3, Stp al1 H1 al3 H3 ∧ Sim K al3 B ro3 h3 sg3 H3 ∧ Ps K B al3 H3 (turns g body x m (i + 1) ro3 h3) W D, fun sg3 H3 ⟨al3, ro3, h3, a, b, c⟩ => ⟨m, by omega, al3, ro3, h3, a, b, c⟩, fun y H3 yy => ?_⟩
    obtain ⟨s3, hr3, r3⟩ := g2 y H3 yy
    refine ⟨al2, B, ro2, h2, w, S2.step s3 hr3, r3, ?_⟩
    dsimp only at q2
    cases e : g w ro2 h2 with
    | bad => rw [e] at q2; exact q2.elim
    | go f ro4 h4 =>
      rw [e] at q2
      cases f with
      | nx =>
        intro al4 sg4 H4 st4 S4 _
        refine ⟨al4, B, ro4, h4, S4, ?_⟩
        dsimp only at q2
        cases e2 : body ro4 h4 with
        | bad => rw [e2] at q2; exact q2.elim
        | go f5 ro5 h5 =>
          rw [e2] at q2
          have s34 := (st2.trans s3).trans st4
          intro al5 sg5 H5 st5 S5
          cases f5 with
          | nx => exact ⟨al5, ro5, h5, s34.trans st5, S5, q2.step ((s3.trans st4).trans st5)⟩
          | ct => exact ⟨al5, ro5, h5, s34.trans st5, S5, q2.step ((s3.trans st4).trans st5)⟩
          | brk => exact q2 al5 sg5 H5 ((s3.trans st4).trans st5) S5
          | ret w => exact q2 al5 sg5 H5 ((s3.trans st4).trans st5) S5
          | ex e => exact q2 al5 sg5 H5 ((s3.trans st4).trans st5) S5
      | _ => exact q2.elim
theorem os_for {X : Cx} {W : WX} {tg iter : Expr} {body : List Stmt} {mi : SI} {g : GM} {sl : List Nat} {mb : SS} {pos : Pos} (hp : PassesOwn (model X.prog X.w) X.A X.env X.xe) (hc : X.calm = true) (hi : PI X tg iter (tI X.K W mi)) (hg : PG X tg (tG X.K sl g)) (hb : PSs X body (tS X.K W mb))
    (hs : ∀ x, foldedSetIterable iter X.env x = pure x) : PS X (.For tg iter body [] pos) (tS X.K W (nFor mi g mb)) := PS.weak (ps_for hp hc hi hg hb hs) tS_for
/-! ### while -/
/-! ### list comprehensions -/
def lcTurns (g : GM) (t : En → M Bool) (m : SE) (ro : En) (x : Itm) : Nat → Nat → List Val → M (List Val)
  | 0, i, acc, h => match nxt x i h with
    | some none => .ok acc h
    | _ => .bad
  | k + 1, i, acc, h => match nxt x i h with
    | none => .bad
    | some none => .ok acc h
    | some (some w) => match g w ro h with
      | .go .nx ro1 h1 => match t ro1 h1 with
        | .ok b h2 => if b = true then match m ro1 h2 with
            | .ok y h3 => lcTurns g t m ro x k (i + 1) (acc ++ [y]) h3
            | _ => .bad
          else lcTurns g t m ro x k (i + 1) acc h2
        | _ => .bad
      | _ => .bad
def wipeN (ro : En) : List Nat → En
  | [] => ro
  | v :: vs => (wipeN ro vs).set v none
def sLc (mi : SI) (g : GM) (t : En → M Bool) (m : SE) (own : List Nat) : SE := fun ro => bind (mi ro) fun x => bind (lcTurns g t m (wipeN ro own) x.1 x.2 0 []) fun ys => ret (.lst ys)
theorem Sim.wiped {K : PySem.W.Frag} {al B : List Addr} {ro : En} {h : HH} {sg : L2.St} {H : Hp} (S : Sim K al B ro h sg H) : ∀ vs : List Nat, Sim K al B (wipeN ro vs) h (wipe sg vs) H
  | [] => S
  | v :: vs => by
    have T := S.wiped vs
    refine ⟨T.hr, by unfold wipeN wipe; simp [T.len], fun i w e => ?_⟩
    unfold wipeN at e
    unfold L2.wipe
    by_cases z : v = i
    · subst z
      by_cases l : v < (wipeN ro vs).length
      · rw [List.getElem?_set_self l] at e; cases e
      · rw [List.getElem?_eq_none (by simpa using l)] at e; cases e
    · rw [List.getElem?_set_ne z] at e
      obtain ⟨v', p, q⟩ := T.env i w e
      exact ⟨v', by rw [List.getElem?_set_ne z]; exact p, q⟩
theorem wipe_in {sg : L2.St} : ∀ {vs : List Nat} {i : Nat}, i ∈ vs → (wipe sg vs)[i]? = (sg[i]?).map fun _ => none
  | v :: vs, i, h => by
    unfold wipe
    by_cases z : v = i
    · subst z
      by_cases l : v < (wipe sg vs).length
      · rw [List.getElem?_set_self l]
        rw [wipe_length] at l
        rw [List.getElem?_eq_getElem l]; rfl
      · rw [List.getElem?_eq_none (by simpa using l)]
        rw [wipe_length] at l
        rw [List.getElem?_eq_none (by omega)]; rfl
    · rw [List.getElem?_set_ne z]
      exact wipe_in (by rcases List.mem_cons.mp h with e | e; exact absurd e.symm z; exact e)
theorem wipe_same {sg sg' : L2.St} {vs : List Nat} (hl : sg'.length = sg.length) (h : ∀ i, i ∉ vs → sg'[i]? = sg[i]?) : wipe sg' vs = wipe sg vs := by
  refine List.ext_getElem? fun i => ?_
  by_cases c : i ∈ vs
  · rw [wipe_in c, wipe_in c]
    by_cases l : i < sg.length
    · rw [List.getElem?_eq_getElem l, List.getElem?_eq_getElem (by rw [hl]; exact l)]; rfl
    · rw [List.getElem?_eq_none (by omega), List.getElem?_eq_none (by omega)]
  · rw [wipe_out c, wipe_out c, h i c]
theorem wipe_wipe {sg : L2.St} {vs : List Nat} : wipe (wipe sg vs) vs = wipe sg vs := wipe_same (wipe_length _ _) fun i h => wipe_out h
theorem At.grow {al B : List Addr} {H : Hp} {D : Addr} {o : HO} (n : H D = none) {a : Addr} {u : HO} (x : At al B H a u) : At al (D :: B) (upd H D o) a u := by
  obtain ⟨q, n1, n2⟩ := x
  have ne : a ≠ D := by
    intro z
    subst z
    rcases q with q | ⟨_, q⟩ <;> rw [n] at q <;> cases q
  refine ⟨by rw [upd_ne ne]; exact q, n1, fun z => ?_⟩
  rcases List.mem_cons.mp z with e | e
  · exact ne e
  · exact n2 e
theorem At1.grow {al B : List Addr} {H : Hp} {D : Addr} {o : HO} (n : H D = none) {a : Addr} {u : HO} (x : At1 al B H a u) : At1 al (D :: B) (upd H D o) a u := ⟨by rw [upd_ne (ne_of_none x.1 n)]; exact x.1, (x.at.grow (o := o) n).2⟩
theorem At.less {al B : List Addr} {H : Hp} {D : Addr} {a : Addr} {u : HO} (x : At al (D :: B) H a u) : At al B H a u := ⟨x.1, x.2.1, fun z => x.2.2 (List.mem_cons_of_mem _ z)⟩
theorem At1.less {al B : List Addr} {H : Hp} {D : Addr} {a : Addr} {u : HO} (x : At1 al (D :: B) H a u) : At1 al B H a u := ⟨x.1, x.2.1, fun z => x.2.2 (List.mem_cons_of_mem _ z)⟩
theorem At.turn {al B : List Addr} {H : Hp} {D : Addr} {o : HO} (n : D ∈ B) {a : Addr} {u : HO} (x : At al B H a u) : At al B (upd H D o) a u := by
  refine ⟨by rw [upd_ne (a := D) (b := a) (fun z => x.2.2 (by rw [z]; exact n))]; exact x.1, x.2⟩
theorem At1.turn {al B : List Addr} {H : Hp} {D : Addr} {o : HO} (n : D ∈ B) {a : Addr} {u : HO} (x : At1 al B H a u) : At1 al B (upd H D o) a u := by
  refine ⟨by rw [upd_ne (a := D) (b := a) (fun z => x.2.2 (by rw [z]; exact n))]; exact x.1, x.2⟩
theorem AtT.grow {al B : List Addr} {H : Hp} {D : Addr} {o : HO} (n : H D = none) {a : Addr} {u : List V} (x : AtT al B H a u) : AtT al (D :: B) (upd H D o) a u := by
  obtain ⟨w, q, f⟩ := x
  exact ⟨w, q.grow n, f⟩
theorem AtT.less {al B : List Addr} {H : Hp} {D : Addr} {a : Addr} {u : List V} (x : AtT al (D :: B) H a u) : AtT al B H a u := by
  obtain ⟨w, q, f⟩ := x
  exact ⟨w, q.less, f⟩
theorem AtT.turn {al B : List Addr} {H : Hp} {D : Addr} {o : HO} (n : D ∈ B) {a : Addr} {u : List V} (x : AtT al B H a u) : AtT al B (upd H D o) a u := by
  obtain ⟨w, q, f⟩ := x
  exact ⟨w, q.turn n, f⟩
mutual
theorem Rep.grow {K : PySem.W.Frag} {al B : List Addr} {H : Hp} {D : Addr} {o : HO} (n : H D = none) : ∀ {w : Val} {v : V}, Rep K al B H w v → Rep K al (D :: B) (upd H D o) w v
  | _, _, .non => .non
  | _, _, .bl b => .bl b
  | _, _, .int i => .int i
  | _, _, .str x => .str x
  | _, _, .tup a l r => .tup (a.imp (AtT.grow n) id) l (Reps.grow n r)
  | _, _, .lst a l r => .lst (At1.grow n a) l (Reps.grow n r)
  | _, _, .ref e => .ref e
  | _, _, .glo a => .glo a
  | _, _, .ty n => .ty n
  | _, _, .scr a l => .scr (a.imp (At.grow n) id) l
  | _, _, .exn a e r => .exn (At1.grow n a) e (Reps.grow n r)
theorem Reps.grow {K : PySem.W.Frag} {al B : List Addr} {H : Hp} {D : Addr} {o : HO} (n : H D = none) : ∀ {w : List Val} {v : List V}, Reps K al B H w v → Reps K al (D :: B) (upd H D o) w v
  | _, _, .nil => .nil
  | _, _, .cons a r => .cons (Rep.grow n a) (Reps.grow n r)
end
mutual
theorem Rep.less {K : PySem.W.Frag} {al B : List Addr} {H : Hp} {D : Addr} : ∀ {w : Val} {v : V}, Rep K al (D :: B) H w v → Rep K al B H w v
  | _, _, .non => .non
  | _, _, .bl b => .bl b
  | _, _, .int i => .int i
  | _, _, .str x => .str x
  | _, _, .tup a l r => .tup (a.imp AtT.less id) l (Reps.less r)
  | _, _, .lst a l r => .lst (At1.less  a) l (Reps.less  r)
  | _, _, .ref e => .ref e
  | _, _, .glo a => .glo a
  | _, _, .ty n => .ty n
  | _, _, .scr a l => .scr (a.imp (At.less) id) l
  | _, _, .exn a e r => .exn (At1.less a) e (Reps.less r)
theorem Reps.less {K : PySem.W.Frag} {al B : List Addr} {H : Hp} {D : Addr} : ∀ {w : List Val} {v : List V}, Reps K al (D :: B) H w v → Reps K al B H w v
  | _, _, .nil => .nil
  | _, _, .cons a r => .cons (Rep.less a) (Reps.less r)
end
mutual
/-- D changes -/
theorem Rep.turn {K : PySem.W.Frag} {al B : List Addr} {H : Hp} {D : Addr} {o : HO} (n : D ∈ B) : ∀ {w : Val} {v : V}, Rep K al B H w v → Rep K al B (upd H D o) w v
  | _, _, .non => .non
  | _, _, .bl b => .bl b
  | _, _, .int i => .int i
  | _, _, .str x => .str x
  | _, _, .tup a l r => .tup (a.imp (AtT.turn n) id) l (Reps.turn n r)
  | _, _, .lst a l r => .lst (At1.turn n a) l (Reps.turn n r)
  | _, _, .ref e => .ref e
  | _, _, .glo a => .glo a
  | _, _, .ty n => .ty n
  | _, _, .scr a l => .scr (a.imp (At.turn n) id) l
  | _, _, .exn a e r => .exn (At1.turn n a) e (Reps.turn n r)
theorem Reps.turn {K : PySem.W.Frag} {al B : List Addr} {H : Hp} {D : Addr} {o : HO} (n : D ∈ B) : ∀ {w : List Val} {v : List V}, Reps K al B H w v → Reps K al B (upd H D o) w v
  | _, _, .nil => .nil
  | _, _, .cons a r => .cons (Rep.turn n a) (Reps.turn n r)
end
theorem ObR.grow {K : PySem.W.Frag} {al B : List Addr} {H : Hp} {D : Addr} {u : HO} (n : H D = none) {o : Ob} {a : Addr} (x : ObR K al B H o a) : ObR K al (D :: B) (upd H D u) o a := by
  cases x with
  | lst h l r => exact .lst (by rw [upd_ne (ne_of_none h n)]; exact h) l (r.grow n)
  | dic h k r => exact .dic (by rw [upd_ne (ne_of_none h n)]; exact h) k (r.grow n)
  | ins h k r => exact .ins (by rw [upd_ne (ne_of_none h n)]; exact h) k (r.grow n)
theorem ObR.less {K : PySem.W.Frag} {al B : List Addr} {H : Hp} {D : Addr} {o : Ob} {a : Addr} (x : ObR K al (D :: B) H o a) : ObR K al B H o a := by
  cases x with
  | lst h l r => exact .lst h l r.less
  | dic h k r => exact .dic h k r.less
  | ins h k r => exact .ins h k r.less
theorem ObR.turn {K : PySem.W.Frag} {al B : List Addr} {H : Hp} {D : Addr} {u : HO} (n : D ∈ B) {o : Ob} {a : Addr} (na : a ≠ D) (x : ObR K al B H o a) : ObR K al B (upd H D u) o a := by
  cases x with
  | lst h l r => exact .lst (by rw [upd_ne na]; exact h) l (r.turn n)
  | dic h k r => exact .dic (by rw [upd_ne na]; exact h) k (r.turn n)
  | ins h k r => exact .ins (by rw [upd_ne na]; exact h) k (r.turn n)
theorem HR.grow {K : PySem.W.Frag} {al B : List Addr} {H : Hp} {h : HH} (x : HR K al B H h) {D : Addr} {u : HO} (n : H D = none) : HR K al (D :: B) (upd H D u) h :=
  ⟨x.nd, x.len, fun i a o e1 e2 => (x.ob i a o e1 e2).grow n, fun a ha => by
    rcases List.mem_cons.mp ha with e | e
    · subst e; rw [upd_same]; simp
    · exact (Stp.lay (al := al) n).up a (x.live a e), fun a ha => by
    rcases List.mem_cons.mp ha with e | e
    · subst e; exact (x.fresh n).1
    · exact x.apart a e⟩
theorem HR.less {K : PySem.W.Frag} {al B : List Addr} {H : Hp} {h : HH} {D : Addr} (x : HR K al (D :: B) H h) : HR K al B H h :=
  ⟨x.nd, x.len, fun i a o e1 e2 => (x.ob i a o e1 e2).less, fun a ha => x.live a (List.mem_cons_of_mem _ ha), fun a ha => x.apart a (List.mem_cons_of_mem _ ha)⟩
theorem HR.turn {K : PySem.W.Frag} {al B : List Addr} {H : Hp} {h : HH} (x : HR K al B H h) {D : Addr} {u : HO} (n : D ∈ B) : HR K al B (upd H D u) h :=
  ⟨x.nd, x.len, fun i a o e1 e2 => (x.ob i a o e1 e2).turn n fun z => x.apart D n (z ▸ List.mem_of_getElem? e1), fun a ha => by
    by_cases z : a = D
    · subst z; rw [upd_same]; simp
    · rw [upd_ne z]; exact x.live a ha, x.apart⟩
/-- what stays but D -/
theorem Stp.turn {al : List Addr} {H0 H : Hp} {al' : List Addr} {D : Addr} {u : HO} (s : Stp al H0 al' H) (n : H0 D = none) (l : H D ≠ none) : Stp al H0 al' (upd H D u) :=
  ⟨s.more, fun a o e m => by rw [upd_ne (ne_of_none e n)]; exact s.keep a o e m, fun a q => by
    by_cases z : a = D
    · subst z; rw [upd_same]; simp
    · rw [upd_ne z]; exact s.up a q⟩
theorem tE_lc {K : PySem.W.Frag} {W : WX} {mi : SI} {g : GM} {sl : List Nat} {t : En → M Bool} {m : SE} {own : List Nat} (hsl : ∀ i ∈ sl, i ∈ own) (sg : L2.St) (H : Hp) (Q : VK) (p : tE K W (sLc mi g t m own) sg H Q) :
    tLc (tI K W mi) (tG K sl g) (tT K (fun _ _ _ _ => False) t) (tE K (fun _ _ _ _ => False) m) own sg H Q := by
  obtain ⟨al, B, ro, h, S, p⟩ := p
  refine ⟨al, B, ro, h, S, Po.mono (Po.bind p) fun J H1 ⟨al1, h1, ⟨x, n⟩, st, hr, ⟨it, hlen⟩, q⟩ => ?_⟩
  dsimp only at it q hlen
  intro D hD
  have S1 := (S.step st hr).wiped own
  have hDB : ∀ b ∈ D :: B, b ∈ B ∨ H1 b = none := fun b hb => by
    rcases List.mem_cons.mp hb with e | e
    · exact .inr (e ▸ hD)
    · exact .inl e
  have key : ∀ acc accV al2 H2 h2, Po K B (fun al H => Rep K al B H) sg al1 H1 (obind (.ok acc h2) fun ys => ret (.lst ys)) W Q → acc.length ≤ sizeLine → Stp al1 H1 al2 H2 → HR K al2 (D :: B) H2 h2 → H2 D = some (.lst accV) → Reps K al2 (D :: B) H2 acc accV → Q (.ref D) H2 := by
    intro acc accV al2 H2 h2 q l s2 hr2 d2 r2
    refine q al2 H2 (.ref D) s2 hr2.less (.lst ⟨d2, fun z => hr2.apart D (List.mem_cons_self) z, fun z => ?_⟩ l r2.less)
    exact (hr.fresh hD).2 z
  refine ⟨fun i k H2 => ∃ al2 h2 acc accV, Stp al1 H1 al2 H2 ∧ HR K al2 (D :: B) H2 h2 ∧ H2 D = some (.lst accV) ∧ Reps K al2 (D :: B) H2 acc accV ∧ acc.length + k ≤ sizeLine ∧
    Po K B (fun al H => Rep K al B H) sg al1 H1 (obind (lcTurns g t m (wipeN ro own) x k i acc h2) fun ys => ret (.lst ys)) W Q, ⟨n, al1, h1, [], [], Stp.lay hD, hr.grow hD, upd_same, .nil, by simpa using hlen, q⟩, ?_⟩
  rintro i k H2 ⟨al2, h2, acc, accV, st2, hr2, d2, r2, hl, q2⟩
  obtain ⟨i1, i2⟩ := it al2 (D :: B) H2 h2 st2.toB hDB hr2 i
  cases e0 : nxt x i h2 with
  | none => cases k <;> (unfold lcTurns at q2; rw [e0] at q2; exact q2.elim)
  | some o =>
  cases o with
  | none =>
    refine .inl ⟨i1 e0, ?_⟩
    cases k with
    | zero => unfold lcTurns at q2; rw [e0] at q2; exact key acc accV al2 H2 h2 q2 (by omega) st2 hr2 d2 r2
    | succ k => unfold lcTurns at q2; rw [e0] at q2; exact key acc accV al2 H2 h2 q2 (by omega) st2 hr2 d2 r2
  | some w =>
    obtain ⟨g1, g2⟩ := i2 w e0
    cases k with
    | zero => unfold lcTurns at q2; rw [e0] at q2; exact q2.elim
    | succ k =>
    unfold lcTurns at q2
    rw [e0] at q2
    refine .inr ⟨g1, fun H3 => ∃ al3 h3 acc accV, Stp al1 H1 al3 H3 ∧ HR K al3 (D :: B) H3 h3 ∧ H3 D = some (.lst accV) ∧ Reps K al3 (D :: B) H3 acc accV ∧ acc.length + k ≤ sizeLine ∧
      Po K B (fun al H => Rep K al B H) sg al1 H1 (obind (lcTurns g t m (wipeN ro own) x k (i + 1) acc h3) fun ys => ret (.lst ys)) W Q, fun H3 ⟨al3, h3, acc, accV, a, b, c, d, e, f⟩ => ⟨k, by omega, al3, h3, acc, accV, a, b, c, d, e, f⟩, fun y H3 yy => ?_⟩
    -- within the turn D is one of those that are being made
    obtain ⟨s3, hr3, r3⟩ := g2 y H3 yy
    have st3 := st2.trans s3
    have d3 : H3 D = some (.lst accV) := s3.keep _ _ d2 (hr2.apart D List.mem_cons_self)
    refine ⟨al2, D :: B, wipeN ro own, h2, w, S1.stepB st3.toB hDB hr3, r3, ?_⟩
    dsimp only at q2
    cases e : g w (wipeN ro own) h2 with
    | bad => rw [e] at q2; exact q2.elim
    | go f ro4 h4 =>
      rw [e] at q2
      cases f with
      | nx =>
        intro al4 sg4 H4 st4 S4 ⟨hl4, f4⟩
        have d4 : H4 D = some (.lst accV) := st4.keep _ _ d3 (hr3.apart D List.mem_cons_self)
        refine ⟨(wipe_same hl4 fun i hi => f4 i fun z => hi (hsl i z)).trans wipe_wipe, ?_⟩
        refine ⟨al4, D :: B, ro4, h4, S4, ?_⟩
        dsimp only at q2
        cases e2 : t ro4 h4 with
        | bad => rw [e2] at q2; exact q2.elim
        | ex _ _ => rw [e2] at q2; exact q2.elim
        | ok b h5 =>
          rw [e2] at q2
          intro al5 H5 v5 st5 hr5 eb
          subst eb
          have d5 : H5 D = some (.lst accV) := st5.keep _ _ d4 (S4.hr.apart D List.mem_cons_self)
          have st15 := (st3.trans st4).trans st5
          have r5 := r2.step ((s3.trans st4).trans st5)
          cases b with
          | false => exact ⟨al5, h5, acc, accV, st15, hr5, d5, r5, by omega, q2⟩
          | true =>
            rw [if_pos rfl]
            refine ⟨al5, D :: B, ro4, h5, S4.step st5 hr5, ?_⟩
            dsimp only at q2
            rw [if_pos rfl] at q2
            cases e3 : m ro4 h5 with
            | bad => rw [e3] at q2; exact q2.elim
            | ex _ _ => rw [e3] at q2; exact q2.elim
            | ok y6 h6 =>
              rw [e3] at q2
              intro al6 H6 v6 st6 hr6 r6
              have d6 : H6 D = some (.lst accV) := st6.keep _ _ d5 (hr5.apart D List.mem_cons_self)
              refine ⟨accV, d6, by rw [← r2.length]; omega, al6, h6, acc ++ [y6], accV ++ [v6], (st15.trans st6).turn hD (by rw [d6]; simp), hr6.turn List.mem_cons_self, upd_same, ((r5.step st6).turn List.mem_cons_self).append (.cons (r6.turn List.mem_cons_self) .nil), by simp; omega, q2⟩
      | _ => exact q2.elim
abbrev W0 : WX := fun _ _ _ _ => False
section
variable {X : Cx} {W : WX} {elt tg iter : Expr} {ifs : List Expr} {scope : Scope} {own : List (Str × Nat)} {pos : Pos} {mi : SI} {g : GM} {sl : List Nat} {t : En → M Bool} {m : SE}
theorem oe_lc (hc : X.calm = true) (hN : X.N.Nodup) (hi : PI X tg iter (tI X.K W mi)) (ok : BlkOk X.N X.env.scope scope own) (hsl : ∀ i ∈ sl, i ∈ own.map (·.2))
    (hg : ∀ (s : Shared) (H : Hp) (C : Addr) (cl : List (Str × Addr)) (fp : List Addr), PG (X.blk s H scope (compEnvC scope cl C X.env) fp) tg (tG X.K sl g))
    (ht : ∀ (s : Shared) (H : Hp) (C : Addr) (cl : List (Str × Addr)) (fp : List Addr), PTs (X.blk s H scope (compEnvC scope cl C X.env) fp) ifs (tT X.K W0 t))
    (he : ∀ (s : Shared) (H : Hp) (C : Addr) (cl : List (Str × Addr)) (fp : List Addr), PE (X.blk s H scope (compEnvC scope cl C X.env) fp) elt (tE X.K W0 m)) (hs : ∀ x, foldedSetIterable iter X.env x = pure x) :
    PE X (.ListComp elt [⟨tg, iter, ifs, 0⟩] scope pos) (tE X.K W (sLc mi g t m (own.map (·.2)))) := PE.weak (pe_lc hc hN hi ok hg ht he hs) (tE_lc hsl)
theorem os_setLc {i : Nat} {y : Str} {py spos : Pos} (hc : X.calm = true) (hN : X.N.Nodup) (hy : X.N[i]? = some y) (hyl : X.env.scope.names.lookup y = some .local)
    (hsw : swapsWith (.ListComp elt [⟨tg, iter, ifs, 0⟩] scope pos) (some (.Name y py)) spos.line X.env = pure true) (hi : PI X tg iter (tI X.K W mi)) (ok : BlkOk X.N X.env.scope scope own) (hsl : ∀ i ∈ sl, i ∈ own.map (·.2))
    (hg : ∀ (s : Shared) (H : Hp) (C : Addr) (cl : List (Str × Addr)) (fp : List Addr), PG (X.blk s H scope (compEnvC scope cl C X.env) fp) tg (tG X.K sl g))
    (ht : ∀ (s : Shared) (H : Hp) (C : Addr) (cl : List (Str × Addr)) (fp : List Addr), PTs (X.blk s H scope (compEnvC scope cl C X.env) fp) ifs (tT X.K W0 t))
    (he : ∀ (s : Shared) (H : Hp) (C : Addr) (cl : List (Str × Addr)) (fp : List Addr), PE (X.blk s H scope (compEnvC scope cl C X.env) fp) elt (tE X.K W0 m)) (hs : ∀ x, foldedSetIterable iter X.env x = pure x) :
    PS X (.Assign [.Name y py] (.ListComp elt [⟨tg, iter, ifs, 0⟩] scope pos) spos) (tS X.K W (nSet i (sLc mi g t m (own.map (·.2))))) := by
  refine PS.weak (ps_setLc hc hN hy hyl hsw hi ok hg ht he hs) ?_
  rintro D sg H ⟨al, B, ro, h, S, p⟩
  refine tE_lc hsl sg H _ ⟨al, B, ro, h, S, Po.mono (Ps.bind S p) fun v H1 ⟨al1, h1, w, st, hr, r, q⟩ => ?_⟩
  exact q al1 _ H1 (Stp.refl _ _) ((S.step st hr).set i r)
end
end Z
/-! ZHW: an exception handled whose context is None or has none: a tuple unpacked then. -/
namespace HotY
open PySem PySem.Spec PyProof.Rows HotX
/-- the exception that is handled, its context None or with None as its own -/
def HotB (A : Around) (x1 : Addr) (h : Heap) : Prop :=
  A.handled = some (.ref x1) ∧ ∃ (o : Obj) (vs : Array Value) (c : Value), h.get? x1 = some o ∧ o.data = .fields vs ∧ vs[2]? = some c ∧ (c = .none ∨ ∃ (x2 : Addr) (o2 : Obj) (v2 : Array Value), c = .ref x2 ∧ h.get? x2 = some o2 ∧ o2.data = .fields v2 ∧ v2[2]? = some .none)
section
variable {prog : Program} {w : World} {A : Around} {E : Value → Shared → Prop} {s : Shared} {h0 : Heap}
theorem unchained2 {x1 a : Addr} {Q : Value → Shared → Prop} (t : HotB A x1 h0) (k : ∀ b o, h0.get? b = some o → s.heap.get? b = some o) (new : h0.get? a = none) (q : Q .none s) :
    wpAny (model prog w) A (holding [Value.ref a] (runValue (.builtin "proto.unchain" ⟨[.ref a, .ref x1, .ref x1, .bool false], []⟩))) Q E s := by
  obtain ⟨_, o, vs, c, e1, e2, e3, e4⟩ := t
  rcases e4 with rfl | ⟨x2, o2, v2, rfl, e6, e7, e8⟩
  · exact unchained (k _ _ e1) e2 e3 q
  · have n1 : a ≠ x2 := fun z => by
      rw [z, e6] at new
      cases new
    have n2 : x2 ≠ x1 := fun z => by
      rw [z, e1] at e6
      cases e6
      rw [e2] at e7
      cases e7
      rw [e3] at e8
      cases e8
    refine wpAny_holding (wpAny_runValue (codeAny_builtin HotX.entry_unchain ?_))
    show wpAny _ _ (field (.ref x1) 2 >>= _) _ _ s
    refine wpAny_bind (wpAny_field (k _ _ e1) e2 e3 ?_)
    rw [if_neg (show ¬ ((Value.ref x2 == Value.none) = true) from by simp), if_neg (show ¬ ((Value.ref x2 == Value.ref a) = true) from by simp [Ne.symm n1]), if_neg (show ¬ ((Value.ref x2 == Value.ref x1) = true) from by simp [n2])]
    refine wpAny_bind (wpAny_pure (wpAny_pure ⟨Code.quiet_builtin _ (by decide +kernel), ?_⟩))
    refine codeAny_builtin HotX.entry_unchain ?_
    show wpAny _ _ (field (.ref x2) 2 >>= _) _ _ s
    refine wpAny_bind (wpAny_field (k _ _ e6) e7 e8 ?_)
    rw [if_pos (show (Value.none == Value.none) = true from rfl)]
    first
    | exact wpAny_bind (wpAny_pure (wpAny_pure q))
    | exact wpAny_pure q
theorem raiseNew_hot2 {α : Type} {a x1 : Addr} {oe : Obj} {vs : Array Value} {Q : α → Shared → Prop} (t : HotB A x1 h0) (k : ∀ b o, h0.get? b = some o → s.heap.get? b = some o) (new : h0.get? a = none) (ha : s.heap.get? a = some oe) (da : oe.data = .fields vs) (hi : 2 < vs.size)
    (hE : E (.ref a) { s with heap := s.heap.update a (Obj.mapFields (·.setIfInBounds 2 (.ref x1))) }) : wpAny (model prog w) A (raiseNew (.ref a) : Sem α) Q E s := by
  have hne : x1 ≠ a := fun z => by
    obtain ⟨_, o, _, _, e1, _⟩ := t
    rw [z, new] at e1
    cases e1
  unfold raiseNew
  refine wpAny_bind (wpAny_handled ?_)
  rw [t.1]
  have hb : (Value.ref x1 != Value.ref a) = true := ref_bne hne
  first
  | (show wpAny _ _ (if (Value.ref x1 != Value.ref a) = true then _ else _) _ _ _
     rw [if_pos hb]
     first
     | exact wpAny_bind (unchained2 t k new (wpAny_bind (chained ha da hi (wpAny_throw hE))))
     | exact wpAny_bind (wpAny_bind (unchained2 t k new (chained ha da hi (wpAny_throw hE)))))
  | (refine wpAny_bind ?_
     show wpAny _ _ (if (Value.ref x1 != Value.ref a) = true then _ else _) _ _ _
     rw [if_pos hb]
     exact wpAny_bind (unchained2 t k new (chained ha da hi (wpAny_throw hE))))
theorem next_tuple_endW {x1 it t : Addr} {i : Nat} {items : Array Value} {Q : Option Value → Shared → Prop} (hot : HotB A x1 h0) (old : ∀ b o, h0.get? b = some o → b ≠ it ∧ s.heap.get? b = some o)
    (hit : IsTupIter s.heap it t i) (ht : IsTup s.heap t items) (hx : items[i]? = none) (hQ : ∀ h', Heap.ExtBut it s.heap h' → Q none { s with heap := h' }) : wpAny (model prog w) A (pyNext (.ref it)) Q E s := by
  obtain ⟨o, ho, hc, hd⟩ := id hit
  obtain ⟨ol, hol, _, nl, hdl⟩ := ht
  unfold pyNext
  refine wpAny_bind (wpAny_attempt (wpAny_callSpecial?_slot (name := Str.ofString "__next__") hit.typeIs slot_tupleiter_next (wpAny_call_entry slot_tupleiter_next hit.typeIs entry_tupleiter_next ?_ (args_tupleiter_next _))))
  show wpAny _ _ (field (.ref it) 0 >>= _) _ _ s
  refine wpAny_bind (wpAny_field ho hd (x := .ref t) rfl ?_)
  show wpAny _ _ (if (Value.ref t == Value.none) = true then _ else _) _ _ s
  rw [if_neg (show ¬ ((Value.ref t == Value.none) = true) from Bool.false_ne_true)]
  show wpAny _ _ (field (.ref it) 1 >>= _) _ _ s
  refine wpAny_bind (wpAny_field ho hd (x := .int i 0) rfl ?_)
  show wpAny _ _ (seqItems? (.ref t) >>= _) _ _ s
  refine wpAny_bind (wpAny_seqItems hol hdl ?_)
  simp only [Int.toNat_natCast, hx]
  refine wpAny_bind (wpAny_rule (wpAny_bind (wpAny_setField ho hd (by simp) ?_)))
  show wpAny _ _ (newExc (.type "StopIteration") [] >>= _) _ _ _
  refine wpAny_bind ?_
  simp only [newExc, newTuple]
  refine wpAny_bind (wpAny_newObj_type ?_ (by size_fits))
  refine wpAny_bind (m := firstArgMember _ _) (wpAny_of_eq (a := Value.none) (by first | rfl | (simp only [firstArgMember]; rfl)) ?_)
  refine wpAny_newObj_type ?_ (by size_fits)
  have hnew : ∀ {g : Heap}, (∀ b o, h0.get? b = some o → g.get? b = some o) → h0.get? g.objs.size = none := fun {g} kk => by
    rcases q : h0.get? g.objs.size with _ | u
    · rfl
    · exact absurd (Heap.lt_size (kk _ _ q)) (Nat.lt_irrefl _)
  have kept : ∀ (f : Obj → Obj) (o1 : Obj), ∀ b o, h0.get? b = some o → ((s.heap.update it f).push o1).get? b = some o := fun f o1 b o e => by
    refine Heap.get?_push_of_some _ ?_
    rw [Heap.get?_update_other _ _ (Ne.symm (old b o e).1)]
    exact (old b o e).2
  refine raiseNew_hot2 (h0 := h0) hot (fun b o e => Heap.get?_push_of_some _ (kept _ _ b o e)) (hnew (kept _ _)) (Heap.get?_push_size _ rfl) rfl (by first | (simp; done) | (simp; omega) | (simp only [Array.size_append]; simp; omega)) ?_
  refine wpAny_bind (wpAny_isInstance (T := "StopIteration") (b := true) ⟨_, Heap.get?_update_self _ (Heap.get?_push_size _ rfl) rfl, rfl⟩ isSubtype_stop ?_)
  refine wpAny_pure (hQ _ fun b o hb e => ?_)
  have e1 : ∀ (f : Obj → Obj) (o1 : Obj), ((s.heap.update it f).push o1).get? b = some o := fun f o1 => by
    refine Heap.get?_push_of_some _ ?_
    rw [Heap.get?_update_other _ _ (Ne.symm hb)]
    exact e
  rw [Heap.get?_update_other _ _ (Nat.ne_of_gt (Heap.lt_size (e1 _ _)))]
  exact Heap.get?_push_of_some _ (e1 _ _)
theorem unpackItems_tupleW {x1 t : Addr} {items : Array Value} {Q : List Value → Shared → Prop} (hot : HotB A x1 s.heap) (ht : IsTup s.heap t items)
    (hQ : ∀ h', Heap.ExtBut s.heap.objs.size s.heap h' → Q items.toList { s with heap := h' }) : wpAny (model prog w) A (unpackItems (.ref t) items.size none) Q E s := by
  have hlt : t ≠ s.heap.objs.size := by obtain ⟨o, ho, _⟩ := ht; exact Nat.ne_of_lt (Heap.lt_size ho)
  unfold unpackItems
  refine wpAny_bind ?_
  unfold notIterableAtAll
  refine wpAny_bind (wpAny_specialOf ht.typeIs slot_tuple_iter.lookup ?_)
  refine wpAny_pure ?_
  simp only [Bool.false_eq_true, if_false]
  refine wpAny_bind (wpAny_holding (iter_tuple ht ?_))
  refine wpAny_bind (wpAny_holding (draw_tuple hlt items.size 0 _ _ ⟨_, Heap.get?_push_size _ rfl, rfl, rfl⟩ (ht.push _) (by omega) fun h1 hit1 hs1 => ?_))
  have whole : List.take items.size (List.drop 0 items.toList) = items.toList := by
    rw [List.drop_zero]; exact List.take_of_length_le (by simp)
  rw [whole, if_neg (by simp)]
  have kept : ∀ b o, s.heap.get? b = some o → h1.get? b = some o := fun b o e => hs1.extBut b o (Nat.ne_of_lt (Heap.lt_size e)) (Heap.get?_push_of_some _ e)
  have ht1 : IsTup h1 t items := (ht.push _).extBut hs1.extBut hlt
  refine wpAny_bind (wpAny_holding (next_tuple_endW (h0 := s.heap) hot (fun b o e => ⟨Nat.ne_of_lt (Heap.lt_size e), kept b o e⟩) hit1 ht1 (by simp) fun h2 he2 => ?_))
  simp only [Option.isSome_none, Bool.false_eq_true, if_false]
  exact wpAny_pure (hQ h2 fun b o hb e => he2 b o hb (hs1.extBut b o hb (Heap.get?_push_of_some _ e)))
theorem assign_tupleW {x1 : Addr} {env : Env} {elts : List Expr} {n : Nat} {pos : Pos} {t : Addr} {items : Array Value} {Q : Unit → Shared → Prop} (hot : HotB A x1 s.heap) (ht : IsTup s.heap t items)
    (hn : (assignEach elts env).length = items.size) (hstar : (assignEach elts env).findIdx? (·.1) = none)
    (h : ∀ h', Heap.ExtBut s.heap.objs.size s.heap h' → wpAny (model prog w) A (assignInOrder ((assignEach elts env).map (·.2)) items.toList) Q E { s with heap := h' }) : wpAny (model prog w) A (assign (.Tuple elts n pos) env (.ref t)) Q E s := by
  rw [assign_Tuple]
  refine wpAny_bind (wpAny_standAt ?_)
  unfold unpack
  rw [hn, hstar]
  exact wpAny_bind (wpAny_holding (unpackItems_tupleW hot ht h))
end
end HotY
namespace Z
open PySem PySem.Spec PyProof.Rows L2 HotY
theorem HotP.at {X : Cx} {pins : List (Addr × Obj)} {sg : L2.St} {H : Hp} {s : Shared} (hw : HotP X.A X.pn) (I : Inv X pins sg H s) : ∃ x1, HotB X.A x1 s.heap := by
  obtain ⟨q, vq, c, e1, m, e2, e3, e4⟩ := hw
  have get : ∀ z ∈ X.pn, s.heap.get? z.1 = some z.2 := fun z hz => (I.pin z (List.mem_append_left _ hz)).1
  refine ⟨q.1, e1, q.2, vq, c, get q m, e2, e3, ?_⟩
  rcases e4 with e | ⟨z, vz, e5, mz, e6, e7⟩
  · exact .inl e
  · exact .inr ⟨z.1, z.2, vz, e5, get z mz, e6, e7⟩
theorem pg_tupW {X : Cx} {es : List Expr} {k n : Nat} {t : TGs} {pos : Pos} (hw : HotP X.A X.pn) (h : PGs X es t) (hn : (assignEach es X.env).length = n) (hst : (assignEach es X.env).findIdx? (·.1) = none) : PG X (.Tuple es k pos) (gTup X.K n t) := by
  refine ⟨fun pins s σ H v u Q I r q => ?_⟩
  obtain ⟨a, xs, rfl, hq, hl, q2⟩ := q
  cases r
  obtain ⟨its, rv, ht, _⟩ := I.tuple hq
  obtain ⟨x1, hot⟩ := hw.at I
  refine assign_tupleW hot ht (by simp [hn, ← hl, rv.length]) hst fun h' ext => ?_
  have J : Inv X pins σ H { s with heap := h' } := I.kept (t' := s.toks) fun b o e => ext b o (Nat.ne_of_lt (Heap.lt_size e)) e
  exact h.run pins _ σ H xs _ Q J (by simpa using rv) q2
def gTt (n : Nat) (g : List Val → En → HH → SO) : GM := fun w ro h => match w with
  | .tup xs => if xs.length = n then g xs ro h else .bad
  | _ => .bad
theorem og_tupW {X : Cx} {es : List Expr} {k n : Nat} {sl : List Nat} {g : List Val → En → HH → SO} {pos : Pos} (hw : HotP X.A X.pn) (h : PGs X es (tGs X.K sl g)) (hn : (assignEach es X.env).length = n) (hst : (assignEach es X.env).findIdx? (·.1) = none) : PG X (.Tuple es k pos) (tG X.K sl (gTt n g)) := by
  refine PG.weak (pg_tupW hw h hn hst) ?_
  rintro v sg H Q ⟨al, B, ro, h, w, S, r, p⟩
  unfold gTt at p
  split at p
  · rename_i xs
    have p' : (if xs.length = n then g xs ro h else .bad) = (if xs.length = n then g xs ro h else .bad) := rfl
    by_cases l : xs.length = n
    · rw [if_pos l] at p
      cases r with
      | @tup a _ vs hb hl rs => exact ⟨a, vs, rfl, sqT_of hb, by rw [← rs.length]; exact l, al, B, ro, h, xs, S, rs, p⟩
    · rw [if_neg l] at p
      exact p.elim
  · exact p.elim
theorem RmG.warm {k : Nat} {A : Around} {hd : Option Value} (r : RmG k A) : RmW k (A.mark hd) := ⟨⟨r.toRoom.dp, r.toRoom.un⟩, r.gd⟩
theorem RmW.units {k : Nat} {A : Around} (r : RmW k A) : A.units + 64 < cLine := by have := r.toRoomH.un; omega
end Z
/-! Z4: operators on values. -/
namespace Z
open PySem PySem.Spec PyProof.Rows L2
/-! ### plain data -/
mutual
def toD : Val → PyData
  | .non => .none
  | .bl b => .bool b
  | .int i => .int i
  | .str x => .str x
  | .tup xs => .tuple (toDs xs)
  | .lst xs => .list (toDs xs)
  | .ref _ => .none
  | .glo _ => .none
  | .ty _ => .none
  | .scr _ => .none
  | .exn _ _ _ _ => .none
def toDs : List Val → List PyData
  | [] => []
  | x :: xs => toD x :: toDs xs
end
mutual
def okV : Val → Bool
  | .non => true
  | .bl _ => true
  | .int _ => true
  | .str x => PyData.strOk x
  | .tup xs => okVs xs
  | .lst xs => okVs xs
  | .ref _ => false
  | .glo _ => false
  | .ty _ => false
  | .scr _ => false
  | .exn _ _ _ _ => false
def okVs : List Val → Bool
  | [] => true
  | x :: xs => okV x && okVs xs
end
section
variable {K : PySem.W.Frag} {al B : List Addr} {H : Hp}
mutual
theorem dp_of : ∀ {w : Val} {v : V}, okV w = true → Rep K al B H w v → Dp K H v (toD w)
  | _, _, _, .non => by unfold toD; exact .non
  | _, _, _, .bl b => by unfold toD; exact .bl b
  | _, _, _, .int i => by unfold toD; exact .int i
  | _, _, _, .str x => by unfold toD; exact .str x
  | _, _, o, .tup a _ r => by unfold okV at o; unfold toD; exact .tup (sqT_of a) (dps_of o r)
  | _, _, o, .lst a _ r => by unfold okV at o; unfold toD; exact .lst (SqL.of a.1) (dps_of o r)
  | _, _, o, .ref _ => by unfold okV at o; cases o
  | _, _, o, .glo _ => by unfold okV at o; cases o
  | _, _, o, .ty _ => by unfold okV at o; cases o
  | _, _, o, .scr _ _ => by unfold okV at o; cases o
  | _, _, o, .exn _ _ _ => by unfold okV at o; cases o
theorem dps_of : ∀ {w : List Val} {v : List V}, okVs w = true → Reps K al B H w v → DpAll K H v (toDs w)
  | _, _, _, .nil => by unfold toDs; exact .nil
  | _, _, o, .cons a r => by
    unfold okVs at o; unfold toDs
    rw [Bool.and_eq_true] at o
    exact .cons (dp_of o.1 a) (dps_of o.2 r)
end
end
mutual
theorem lay_of : ∀ w : Val, okV w = true → (toD w).canLay0 = true
  | .non, _ => by unfold toD; simp [PyData.canLay0]
  | .bl _, _ => by unfold toD; simp [PyData.canLay0]
  | .int _, _ => by unfold toD; simp [PyData.canLay0]
  | .str x, o => by unfold okV at o; unfold toD; simp [PyData.canLay0, o]
  | .tup xs, o => by unfold okV at o; unfold toD; simp [PyData.canLay0, lays_of xs o]
  | .lst xs, o => by unfold okV at o; unfold toD; simp [PyData.canLay0, lays_of xs o]
  | .ref _, o => by unfold okV at o; cases o
  | .glo _, o => by unfold okV at o; cases o
  | .ty _, o => by unfold okV at o; cases o
  | .scr _, o => by unfold okV at o; cases o
  | .exn _ _ _ _, o => by unfold okV at o; cases o
theorem lays_of : ∀ w : List Val, okVs w = true → PyData.canLayAll0 (toDs w) = true
  | [], _ => by unfold toDs; simp [PyData.canLayAll0]
  | x :: xs, o => by
    unfold okVs at o; unfold toDs
    rw [Bool.and_eq_true] at o
    simp [PyData.canLayAll0, lay_of x o.1, lays_of xs o.2]
end
/-- a list of one's own, as it stands -/
def rd (w : Val) (h : HH) : Option Val := match w with
  | .ref n => match h[n]? with
    | some (.lst xs) => some (.lst xs)
    | _ => none
  | w => some w
theorem rd_dp {K : PySem.W.Frag} {al B : List Addr} {H : Hp} {h : HH} {w w' : Val} {v : V} (hr : HR K al B H h) (r : Rep K al B H w v) (e : rd w h = some w') (o : okV w' = true) : Dp K H v (toD w') := by
  cases r with
  | ref q =>
    unfold rd at e
    dsimp only at e
    split at e
    · rename_i e2
      cases e
      cases hr.ob _ _ _ q e2 with
      | lst q _ s =>
        unfold okV at o
        unfold toD
        exact .lst (SqL.of q) (dps_of o s)
    · cases e
  | non => cases e; exact dp_of (al := al) (B := B) o .non
  | bl b => cases e; exact dp_of (al := al) (B := B) o (.bl b)
  | int b => cases e; exact dp_of (al := al) (B := B) o (.int b)
  | str b => cases e; exact dp_of (al := al) (B := B) o (.str b)
  | tup a l s => cases e; exact dp_of o (.tup a l s)
  | lst a l s => cases e; exact dp_of o (.lst a l s)
  | glo => cases e; exact dp_of (al := al) (B := B) o (.glo _)
  | ty => cases e; exact dp_of (al := al) (B := B) o (.ty _)
  | scr a l => cases e; exact dp_of o (.scr a l)
  | exn a e2 r => cases e; unfold okV at o; cases o
section
variable {X : Cx}
def rEqM (K : PySem.W.Frag) (neg : Bool) : R2 := fun x y H Q => ∃ d e, Dp K H x d ∧ Dp K H y e ∧ d.canLay0 = true ∧ e.canLay0 = true ∧ min d.depth e.depth ≤ 64 ∧ Q (.bl (if neg then !PyData.eqv d e else PyData.eqv d e)) H
theorem op_eqM (hu : X.A.units + 64 < cLine) : OpR X (compareOp .Eq) (rEqM X.K false) := by
  intro pins s σ H x y v u Q I rx ry h
  obtain ⟨d, e, hd, he, sd, se, l, q⟩ := h
  obtain ⟨as, r1⟩ := Dp.reads I d x v hd rx
  obtain ⟨bs, r2⟩ := Dp.reads I e y u he ry
  exact SeqAt.compareEq_reads r1 r2 sd se (by omega) ⟨.bl _, H, I, rfl, q⟩
theorem op_neM (hu : X.A.units + 64 < cLine) : OpR X (compareOp .NotEq) (rEqM X.K true) := by
  intro pins s σ H x y v u Q I rx ry h
  obtain ⟨d, e, hd, he, sd, se, l, q⟩ := h
  obtain ⟨as, r1⟩ := Dp.reads I d x v hd rx
  obtain ⟨bs, r2⟩ := Dp.reads I e y u he ry
  exact SeqAt.compareNe_reads r1 r2 sd se (by omega) ⟨.bl _, H, I, rfl, q⟩
end
/-- scalars that == tells at once -/
def quick : Val → Val → Option Bool
  | .str x, .str y => some (decide (x = y))
  | .int i, .int j => some (decide (i = j))
  | .bl i, .bl j => some (decide (i = j))
  | .non, .non => some true
  | .str _, .int _ => some false
  | .int _, .str _ => some false
  | .str _, .bl _ => some false
  | .bl _, .str _ => some false
  | .str _, .non => some false
  | .non, .str _ => some false
  | .int _, .non => some false
  | .non, .int _ => some false
  | .bl _, .non => some false
  | .non, .bl _ => some false
  | _, _ => none
def veq (w1 w2 : Val) : Option Bool := match quick w1 w2 with
  | some b => some b
  | none => if okV w1 = true ∧ okV w2 = true ∧ min (toD w1).depth (toD w2).depth ≤ 64 then some (PyData.eqv (toD w1) (toD w2)) else none
def bEq (w1 w2 : Val) : M Val := fun h => match rd w1 h, rd w2 h with
  | some a, some b => match veq a b with
    | some k => .ok (.bl k) h
    | none => .bad
  | _, _ => .bad
def bNe (w1 w2 : Val) : M Val := fun h => match rd w1 h, rd w2 h with
  | some a, some b => match veq a b with
    | some k => .ok (.bl (!k)) h
    | none => .bad
  | _, _ => .bad
theorem quick_scal {K : PySem.W.Frag} {al B : List Addr} {H : Hp} {w1 w2 : Val} {v1 v2 : V} {k : Bool} (r1 : Rep K al B H w1 v1) (r2 : Rep K al B H w2 v2) (e : quick w1 w2 = some k) : scal v1 v2 = true ∧ decide (v1 = v2) = k := by
  cases r1 <;> cases r2 <;> first
    | (exfalso; revert e; intro e; cases e; done)
    | (unfold quick at e; cases e; exact ⟨rfl, by simp⟩)
theorem rd_quick {K : PySem.W.Frag} {al B : List Addr} {H : Hp} {h : HH} {w a : Val} {v : V} (hr : HR K al B H h) (r : Rep K al B H w v) (e : rd w h = some a) : a = w ∨ ∃ xs, a = .lst xs := by
  cases r <;> unfold rd at e <;> dsimp only at e <;> first
    | (cases e; exact .inl rfl)
    | (split at e
       · cases e; exact .inr ⟨_, rfl⟩
       · cases e)
theorem quick_lst {xs : List Val} {b : Val} : quick (.lst xs) b = none := by cases b <;> rfl
theorem quick_lst' {xs : List Val} {b : Val} : quick b (.lst xs) = none := by cases b <;> rfl
theorem lk_eq {K : PySem.W.Frag} : Lk2 K bEq (fun x y H Q => rEq x y H Q ∨ rEqM K false x y H Q) := by
  intro W al B sg H h w1 w2 v1 v2 Q hr r1 r2 p
  unfold bEq at p
  cases e1 : rd w1 h with
  | none => rw [e1] at p; exact p.elim
  | some a =>
    cases e2 : rd w2 h with
    | none => rw [e1, e2] at p; exact p.elim
    | some b =>
      rw [e1, e2] at p
      dsimp only at p
      cases e3 : veq a b with
      | none => rw [e3] at p; exact p.elim
      | some k =>
        rw [e3] at p
        have q := Po.now p hr (.bl k)
        unfold veq at e3
        cases e4 : quick a b with
        | some k' =>
          rw [e4] at e3; cases e3
          rcases rd_quick hr r1 e1 with rfl | ⟨xs, rfl⟩
          · rcases rd_quick hr r2 e2 with rfl | ⟨xs, rfl⟩
            · obtain ⟨s, d⟩ := quick_scal r1 r2 e4
              exact .inl ⟨s, by rw [d]; exact q⟩
            · rw [quick_lst'] at e4; cases e4
          · rw [quick_lst] at e4; cases e4
        | none =>
          rw [e4] at e3
          dsimp only at e3
          split at e3
          · rename_i c
            cases e3
            exact .inr ⟨_, _, rd_dp hr r1 e1 c.1, rd_dp hr r2 e2 c.2.1, lay_of _ c.1, lay_of _ c.2.1, c.2.2, q⟩
          · cases e3
theorem lk_ne {K : PySem.W.Frag} : Lk2 K bNe (fun x y H Q => rNe x y H Q ∨ rEqM K true x y H Q) := by
  intro W al B sg H h w1 w2 v1 v2 Q hr r1 r2 p
  unfold bNe at p
  cases e1 : rd w1 h with
  | none => rw [e1] at p; exact p.elim
  | some a =>
    cases e2 : rd w2 h with
    | none => rw [e1, e2] at p; exact p.elim
    | some b =>
      rw [e1, e2] at p
      dsimp only at p
      cases e3 : veq a b with
      | none => rw [e3] at p; exact p.elim
      | some k =>
        rw [e3] at p
        have q := Po.now p hr (.bl (!k))
        unfold veq at e3
        cases e4 : quick a b with
        | some k' =>
          rw [e4] at e3; cases e3
          rcases rd_quick hr r1 e1 with rfl | ⟨xs, rfl⟩
          · rcases rd_quick hr r2 e2 with rfl | ⟨xs, rfl⟩
            · obtain ⟨s, d⟩ := quick_scal r1 r2 e4
              exact .inl ⟨s, by rw [d]; exact q⟩
            · rw [quick_lst'] at e4; cases e4
          · rw [quick_lst] at e4; cases e4
        | none =>
          rw [e4] at e3
          dsimp only at e3
          split at e3
          · rename_i c
            cases e3
            exact .inr ⟨_, _, rd_dp hr r1 e1 c.1, rd_dp hr r2 e2 c.2.1, lay_of _ c.1, lay_of _ c.2.1, c.2.2, q⟩
          · cases e3
end Z
/-! Z5: arithmetic, comparisons, subscripts, displays. -/
namespace Z
open PySem PySem.Spec PyProof.Rows L2
section
variable {X : Cx}
def CPowW (i j : Int) : Prop := 0 ≤ j ∧ (Builtin.Int.intBits i : Int) * j ≤ 2 ^ 27
theorem op_powW : OpR X (binaryOp .Pow) (rI CPowW fun i j => .int (i ^ j.toNat)) := opI fun _ _ _ _ _ _ _ hc q => pow_int hc.1 hc.2 q
end
theorem OpR.or4 {X : Cx} {f : Value → Value → Sem Value} {r1 r2 r3 r4 : R2} (h1 : OpR X f r1) (h2 : OpR X f r2) (h3 : OpR X f r3) (h4 : OpR X f r4) : OpR X f (fun x y H Q => r1 x y H Q ∨ r2 x y H Q ∨ r3 x y H Q ∨ r4 x y H Q) := h1.or (h2.or (h3.or h4))
/-- a list of one's own or one that stays -/
def lsts (w : Val) (h : HH) : Option (List Val) := match w with
  | .lst xs => some xs
  | .ref n => match h[n]? with
    | some (.lst xs) => some xs
    | _ => none
  | _ => none
theorem lsts_at {K : PySem.W.Frag} {al B : List Addr} {H : Hp} {h : HH} {w : Val} {v : V} {xs : List Val} (hr : HR K al B H h) (r : Rep K al B H w v) (e : lsts w h = some xs) : ∃ a vs, v = .ref a ∧ H a = some (.lst vs) ∧ xs.length ≤ sizeLine ∧ Reps K al B H xs vs := by
  cases r with
  | lst a l s => cases e; exact ⟨_, _, rfl, a.1, l, s⟩
  | ref q =>
    unfold lsts at e
    dsimp only at e
    split at e
    · rename_i e2
      cases e
      cases hr.ob _ _ _ q e2 with
      | lst q l s => exact ⟨_, _, rfl, q, l, s⟩
    · cases e
  | _ => cases e
def bAdd (w1 w2 : Val) : M Val := fun h => match w1, w2 with
  | .int i, .int j => .ok (.int (i + j)) h
  | .str x, .str y => if x.length + y.length ≤ sizeLine then .ok (.str (x ++ y)) h else .bad
  | .tup xs, .tup ys => if xs.length + ys.length ≤ sizeLine then .ok (.tup (xs ++ ys)) h else .bad
  | w1, w2 => match lsts w1 h, lsts w2 h with
    | some xs, some ys => if xs.length + ys.length ≤ sizeLine then .ok (.lst (xs ++ ys)) h else .bad
    | _, _ => .bad
theorem lk_add {K : PySem.W.Frag} : Lk2 K bAdd (fun x y H Q => rI0 (fun i j => .int (i + j)) x y H Q ∨ (∃ i j, x = .str i ∧ y = .str j ∧ i.length + j.length ≤ sizeLine ∧ Q (.str (i ++ j)) H) ∨ rCatF K x y H Q ∨ rCat x y H Q) := by
  intro W al B sg H h w1 w2 v1 v2 Q hr r1 r2 p
  have L : ∀ xs ys, lsts w1 h = some xs → lsts w2 h = some ys → xs.length + ys.length ≤ sizeLine → Po K B (fun al H => Rep K al B H) sg al H (.ok (.lst (xs ++ ys)) h) W Q → rCat v1 v2 H Q := by
    intro xs ys e1 e2 l p
    obtain ⟨a, vs, rfl, q1, _, s1⟩ := lsts_at hr r1 e1
    obtain ⟨b, us, rfl, q2, _, s2⟩ := lsts_at hr r2 e2
    refine ⟨a, b, vs, us, rfl, rfl, q1, q2, by rw [← s1.length, ← s2.length]; exact l, fun z hz => ?_⟩
    exact p _ _ _ (Stp.lay hz) (hr.lay hz) (.lst (At1.lay hr hz) (by rw [List.length_append]; exact l) ((s1.append s2).step (Stp.lay hz)))
  have E : ∀ {o : Out Val}, o = (match lsts w1 h, lsts w2 h with
    | some xs, some ys => if xs.length + ys.length ≤ sizeLine then .ok (.lst (xs ++ ys)) h else .bad
    | _, _ => .bad) → Po K B (fun al H => Rep K al B H) sg al H o W Q → rCat v1 v2 H Q := by
    intro o eo p
    cases e1 : lsts w1 h with
    | none => rw [e1] at eo; rw [eo] at p; exact p.elim
    | some xs =>
      cases e2 : lsts w2 h with
      | none => rw [e1, e2] at eo; rw [eo] at p; exact p.elim
      | some ys =>
        rw [e1, e2] at eo
        dsimp only at eo
        split at eo
        · rename_i l; rw [eo] at p; exact L xs ys e1 e2 l p
        · rw [eo] at p; exact p.elim
  unfold bAdd at p
  split at p
  · cases r1; cases r2; exact .inl ⟨_, _, rfl, rfl, Po.now p hr (.int _)⟩
  · cases r1; cases r2
    split at p
    · rename_i l; exact .inr (.inl ⟨_, _, rfl, rfl, l, Po.now p hr (.str _)⟩)
    · exact p.elim
  · cases r1 with
    | tup a1 l1 s1 =>
      cases r2 with
      | tup a2 l2 s2 =>
        split at p
        · rename_i l
          refine .inr (.inr (.inl ⟨_, _, _, _, rfl, rfl, sqT_of a1, sqT_of a2, by rw [← s1.length, ← s2.length]; exact l, fun e => ?_, fun _ e => ?_, fun _ _ z u hz hu => ?_⟩))
          · subst e; cases s1
            exact Po.now p hr (by rw [List.nil_append]; exact .tup a2 l2 s2)
          · subst e; cases s2
            exact Po.now p hr (by rw [List.append_nil]; exact .tup a1 l1 s1)
          · exact p _ _ _ (Stp.lay hz) (hr.lay hz) (.tup (.inl (AtT.lay hr hz hu)) (by rw [List.length_append]; exact l) ((s1.append s2).step (Stp.lay hz)))
        · exact p.elim
  · exact .inr (.inr (.inr (E rfl p)))
def bSub (w1 w2 : Val) : M Val := fun h => match w1, w2 with
  | .int i, .int j => .ok (.int (i - j)) h
  | _, _ => .bad
theorem lk_sub {K : PySem.W.Frag} : Lk2 K bSub (rI0 (fun i j => .int (i - j))) := by
  intro W al B sg H h w1 w2 v1 v2 Q hr r1 r2 p
  unfold bSub at p
  split at p
  · cases r1; cases r2; exact ⟨_, _, rfl, rfl, Po.now p hr (.int _)⟩
  · exact p.elim
instance {i j : Int} : Decidable (CMul i j) := inferInstanceAs (Decidable (_ ∨ _))
instance {i j : Int} : Decidable (CMulW i j) := inferInstanceAs (Decidable (_ < _))
instance {i j : Int} : Decidable (CPowW i j) := inferInstanceAs (Decidable (_ ∧ _))
instance {i j : Int} : Decidable (CDivW i j) := inferInstanceAs (Decidable (_ ∧ _))
instance {i j : Int} : Decidable (CDivN i j) := inferInstanceAs (Decidable (_ ∧ _))
def bMul (w1 w2 : Val) : M Val := fun h => match w1, w2 with
  | .int i, .int j => if CMul i j then .ok (.int (i * j)) h else if CMulW i j then .ok (.int (i * j)) h else .bad
  | _, _ => .bad
theorem lk_mul {K : PySem.W.Frag} : Lk2 K bMul (fun x y H Q => rI CMul (fun i j => .int (i * j)) x y H Q ∨ rI CMulW (fun i j => .int (i * j)) x y H Q) := by
  intro W al B sg H h w1 w2 v1 v2 Q hr r1 r2 p
  unfold bMul at p
  split at p
  · cases r1; cases r2
    split at p
    · rename_i c; exact .inl ⟨_, _, rfl, rfl, c, Po.now p hr (.int _)⟩
    · split at p
      · rename_i c; exact .inr ⟨_, _, rfl, rfl, c, Po.now p hr (.int _)⟩
      · exact p.elim
  · exact p.elim
def bPow (w1 w2 : Val) : M Val := fun h => match w1, w2 with
  | .int i, .int j => if CPowW i j then .ok (.int (i ^ j.toNat)) h else .bad
  | _, _ => .bad
theorem lk_pow {K : PySem.W.Frag} : Lk2 K bPow (rI CPowW (fun i j => .int (i ^ j.toNat))) := by
  intro W al B sg H h w1 w2 v1 v2 Q hr r1 r2 p
  unfold bPow at p
  split at p
  · cases r1; cases r2
    split at p
    · rename_i c; exact ⟨_, _, rfl, rfl, c, Po.now p hr (.int _)⟩
    · exact p.elim
  · exact p.elim
def bDiv (w1 w2 : Val) : M Val := fun h => match w1, w2 with
  | .int i, .int j => if CDivW i j then .ok (.int (i / j)) h else if CDivN i j then .ok (.int (i.fdiv j)) h else .bad
  | _, _ => .bad
theorem lk_div {K : PySem.W.Frag} : Lk2 K bDiv (fun x y H Q => rI CDivW (fun i j => .int (i / j)) x y H Q ∨ rI CDivN (fun i j => .int (i.fdiv j)) x y H Q) := by
  intro W al B sg H h w1 w2 v1 v2 Q hr r1 r2 p
  unfold bDiv at p
  split at p
  · cases r1; cases r2
    split at p
    · rename_i c; exact .inl ⟨_, _, rfl, rfl, c, Po.now p hr (.int _)⟩
    · split at p
      · rename_i c; exact .inr ⟨_, _, rfl, rfl, c, Po.now p hr (.int _)⟩
      · exact p.elim
  · exact p.elim
def bMod (w1 w2 : Val) : M Val := fun h => match w1, w2 with
  | .int i, .int j => if 0 < j then .ok (.int (i % j)) h else if j ≠ 0 then .ok (.int (i.fmod j)) h else .bad
  | _, _ => .bad
theorem lk_mod {K : PySem.W.Frag} : Lk2 K bMod (fun x y H Q => rI (fun _ j => 0 < j) (fun i j => .int (i % j)) x y H Q ∨ rI (fun _ j => j ≠ 0) (fun i j => .int (i.fmod j)) x y H Q) := by
  intro W al B sg H h w1 w2 v1 v2 Q hr r1 r2 p
  unfold bMod at p
  split at p
  · cases r1; cases r2
    split at p
    · rename_i c; exact .inl ⟨_, _, rfl, rfl, c, Po.now p hr (.int _)⟩
    · split at p
      · rename_i c; exact .inr ⟨_, _, rfl, rfl, c, Po.now p hr (.int _)⟩
      · exact p.elim
  · exact p.elim
def uNeg (w : Val) : M Val := fun h => match w with
  | .int i => .ok (.int (-i)) h
  | _ => .bad
theorem lk_neg {K : PySem.W.Frag} : Lk1 K uNeg (rU fun i => .int (-i)) := by
  intro W al B sg H h w v Q hr r p
  unfold uNeg at p
  split at p
  · cases r; exact ⟨_, rfl, Po.now p hr (.int _)⟩
  · exact p.elim
/-! ### order -/
def bOrd (f : Int → Int → Bool) (w1 w2 : Val) : M Val := fun h => match w1, w2 with
  | .int i, .int j => .ok (.bl (f i j)) h
  | _, _ => .bad
theorem lk_ord {K : PySem.W.Frag} {f : Int → Int → Bool} : Lk2 K (bOrd f) (rI0 fun i j => .bl (f i j)) := by
  intro W al B sg H h w1 w2 v1 v2 Q hr r1 r2 p
  unfold bOrd at p
  split at p
  · cases r1; cases r2; exact ⟨_, _, rfl, rfl, Po.now p hr (.bl _)⟩
  · exact p.elim
/-! ### is None -/
def bIs (neg : Bool) (w1 w2 : Val) : M Val := fun h => match w2 with
  | .non => match w1 with
    | .non => .ok (.bl (!neg)) h
    | _ => .ok (.bl neg) h
  | _ => .bad
/-! ### in: flat things, or one text in another -/
def flat : Val → Bool
  | .non => true
  | .bl _ => true
  | .int _ => true
  | .str _ => true
  | _ => false
def eqF : Val → Val → Bool
  | .non, .non => true
  | .bl a, .bl b => a == b
  | .bl a, .int b => (if a then 1 else 0) == b
  | .int a, .bl b => a == (if b then 1 else 0)
  | .int a, .int b => a == b
  | .str a, .str b => a == b
  | _, _ => false
def bIn (neg : Bool) (w1 w2 : Val) : M Val := fun h => match w1, w2 with
  | .str x, .str y => if neg then .ok (.bl (!(!(Builtin.Str.occurrences y x 0 y.length 1).isEmpty))) h else .ok (.bl (!(Builtin.Str.occurrences y x 0 y.length 1).isEmpty)) h
  | w1, w2 => match items w2 h with
    | some xs => if flat w1 = true ∧ xs.all flat = true then .ok (.bl (if neg then !(xs.any fun y => eqF y w1) else xs.any fun y => eqF y w1)) h else .bad
    | none => .bad
theorem flat_rep {K : PySem.W.Frag} {al B : List Addr} {H : Hp} {w : Val} {v : V} (r : Rep K al B H w v) (f : flat w = true) : flatV v = true := by cases r <;> first | rfl | (revert f; intro f; cases f)
theorem flats_rep {K : PySem.W.Frag} {al B : List Addr} {H : Hp} : ∀ {xs : List Val} {vs : List V}, Reps K al B H xs vs → xs.all flat = true → vs.all flatV = true
  | _, _, .nil, _ => rfl
  | _, _, .cons a r, f => by
    rw [List.all_cons, Bool.and_eq_true] at f ⊢
    exact ⟨flat_rep a f.1, flats_rep r f.2⟩
theorem eqF_rep {K : PySem.W.Frag} {al B : List Addr} {H : Hp} {w1 w2 : Val} {v1 v2 : V} (r1 : Rep K al B H w1 v1) (r2 : Rep K al B H w2 v2) (f1 : flat w1 = true) (f2 : flat w2 = true) : eqV v1 v2 = eqF w1 w2 := by
  cases r1 <;> cases r2 <;> first | rfl | (revert f1; intro f1; cases f1; done) | (revert f2; intro f2; cases f2; done)
theorem any_rep {K : PySem.W.Frag} {al B : List Addr} {H : Hp} {w : Val} {v : V} (r : Rep K al B H w v) (f : flat w = true) : ∀ {xs : List Val} {vs : List V}, Reps K al B H xs vs → xs.all flat = true → inV v vs = xs.any fun y => eqF y w
  | _, _, .nil, _ => rfl
  | _, _, .cons a q, g => by
    rw [List.all_cons, Bool.and_eq_true] at g
    have := any_rep r f q g.2
    unfold inV at this ⊢
    rw [List.any_cons, List.any_cons, eqF_rep a r g.1 f, this]
theorem lk_in {K : PySem.W.Frag} (neg : Bool) : Lk2 K (bIn neg) (fun x y H Q => (∃ i j, x = .str i ∧ y = .str j ∧ Q (.bl (if neg then !(!(Builtin.Str.occurrences j i 0 j.length 1).isEmpty) else !(Builtin.Str.occurrences j i 0 j.length 1).isEmpty)) H) ∨ rIn K neg x y H Q) := by
  intro W al B sg H h w1 w2 v1 v2 Q hr r1 r2 p
  unfold bIn at p
  split at p
  · cases r1; cases r2
    refine .inl ⟨_, _, rfl, rfl, ?_⟩
    cases neg <;> exact Po.now p hr (.bl _)
  · cases e : items w2 h with
    | none => rw [e] at p; exact p.elim
    | some xs =>
      rw [e] at p
      dsimp only at p
      obtain ⟨a, vs, rfl, q, s⟩ := items_sq hr r2 e
      split at p
      · rename_i c
        refine .inr ⟨a, vs, rfl, q, flat_rep r1 c.1, flats_rep s c.2, ?_⟩
        rw [any_rep r1 c.1 s c.2]
        exact Po.now p hr (.bl _)
      · exact p.elim
theorem op_inZ {X : Cx} : OpR X (compareOp .In) (fun x y H Q => (∃ i j, x = .str i ∧ y = .str j ∧ Q (.bl (if false then !(!(Builtin.Str.occurrences j i 0 j.length 1).isEmpty) else !(Builtin.Str.occurrences j i 0 j.length 1).isEmpty)) H) ∨ rIn X.K false x y H Q) := OpR.or (r := fun x y H Q => ∃ i j, x = .str i ∧ y = .str j ∧ Q (.bl (!(Builtin.Str.occurrences j i 0 j.length 1).isEmpty)) H) op_in_str op_in_seq
theorem op_notInZ {X : Cx} : OpR X (compareOp .NotIn) (fun x y H Q => (∃ i j, x = .str i ∧ y = .str j ∧ Q (.bl (if true then !(!(Builtin.Str.occurrences j i 0 j.length 1).isEmpty) else !(Builtin.Str.occurrences j i 0 j.length 1).isEmpty)) H) ∨ rIn X.K true x y H Q) := OpR.or (r := fun x y H Q => ∃ i j, x = .str i ∧ y = .str j ∧ Q (.bl (!(!(Builtin.Str.occurrences j i 0 j.length 1).isEmpty))) H) op_notIn_str op_notIn_seq
/-! ### a[i] -/
def bIx (w1 w2 : Val) : M Val := fun h => match w1, w2 with
  | .str z, .int i => if z.length ≤ sizeLine then (match atI z.cps.toList i with
    | some c => .ok (.str ⟨#[c]⟩) h
    | none => .bad) else .bad
  | w1, .int i => match items w1 h with
    | some xs => match atI xs i with
      | some w => .ok w h
      | none => .bad
    | none => .bad
  | _, _ => .bad
theorem Reps.atI {K : PySem.W.Frag} {al B : List Addr} {H : Hp} {xs : List Val} {vs : List V} {i : Int} {w : Val} (r : Reps K al B H xs vs) (e : atI xs i = some w) : ∃ v, L2.atI vs i = some v ∧ Rep K al B H w v := by
  unfold L2.atI at e ⊢
  rw [← r.length]
  cases e2 : ixN xs.length i with
  | none => rw [e2] at e; cases e
  | some j =>
    rw [e2] at e
    exact r.get e
theorem lk_ix {K : PySem.W.Frag} : Lk2 K bIx (rIx K) := by
  intro W al B sg H h w1 w2 v1 v2 Q hr r1 r2 p
  unfold bIx at p
  split at p
  · cases r1; cases r2
    split at p
    · rename_i l
      split at p
      · rename_i e
        exact .inr (.inr ⟨_, _, _, rfl, rfl, l, e, Po.now p hr (.str _)⟩)
      · exact p.elim
    · exact p.elim
  · cases r2
    split at p
    · rename_i xs e
      split at p
      · rename_i w e2
        obtain ⟨a, vs, rfl, q, s⟩ := items_sq hr r1 e
        obtain ⟨v, e3, r3⟩ := s.atI e2
        rcases q with q | q
        · exact .inl ⟨_, _, _, _, rfl, rfl, q, e3, Po.now p hr r3⟩
        · exact .inr (.inl ⟨_, _, _, _, rfl, rfl, q, e3, Po.now p hr r3⟩)
      · exact p.elim
    · exact p.elim
  · exact p.elim
/-! ### a[i:j] -/
abbrev SO' := En → M (Option Int)
def tO (K : PySem.W.Frag) (W : WX) (m : SO') : TO := fun sg H Q => ∃ al B ro h, Sim K al B ro h sg H ∧ Po K B (fun _ _ a b => a = b) sg al H (m ro h) W Q
def oNone : SO' := fun _ => ret none
def oSome (m : SE) : SO' := fun ro => bind (m ro) fun w => match w with
  | .int i => ret (some i)
  | _ => fail
section
variable {X : Cx} {W : WX} {e a : Expr} {m : SE} {lo hi : Option Expr} {ml mh : SO'} {pos p2 : Pos}
theorem PO.weak {e : Option Expr} {t t' : TO} (h : PO X e t) (i : ∀ sg H Q, t' sg H Q → t sg H Q) : PO X e t' := ⟨fun pins s sg H Q I q => h.run pins s sg H Q I (i _ _ _ q)⟩
theorem oo_none : PO X none (tO X.K W oNone) := by
  refine PO.weak po_none ?_
  rintro sg H Q ⟨al, B, ro, h, S, p⟩
  exact Po.now p S.hr rfl
theorem oo_some (he : PE X e (tE X.K W m)) : PO X (some e) (tO X.K W (oSome m)) := by
  refine PO.weak (po_some he) ?_
  rintro sg H Q ⟨al, B, ro, h, S, p⟩
  refine ⟨al, B, ro, h, S, Po.mono (Po.bind p) fun v1 H1 ⟨al1, h1, w1, st1, hr1, r1, p1⟩ => ?_⟩
  cases r1 <;> first | exact p1.elim | exact ⟨_, rfl, Po.now p1 hr1 rfl⟩
def cutW {β : Type} (xs : List β) (lo hi : Option Int) : List β := (xs.drop (HT.sIx xs.length 0 lo)).take (HT.sIx xs.length xs.length hi - HT.sIx xs.length 0 lo)
def bSl (w : Val) (lo hi : Option Int) : M Val := fun h => match w with
  | .tup xs => .ok (.tup (cutW xs lo hi)) h
  | .str z => if z.length ≤ sizeLine then .ok (.str (cutS z lo hi)) h else .bad
  | w => match lsts w h with
    | some xs => .ok (.lst (cutW xs lo hi)) h
    | none => .bad
def sSl (m : SE) (ml mh : SO') : SE := fun ro => bind (m ro) fun w => bind (ml ro) fun l => bind (mh ro) fun u => bSl w l u
theorem Reps.cut {K : PySem.W.Frag} {al B : List Addr} {H : Hp} {xs : List Val} {vs : List V} {lo hi : Option Int} (r : Reps K al B H xs vs) : Reps K al B H (cutW xs lo hi) (cutV vs lo hi) := by
  unfold cutW cutV
  rw [← r.length]
  exact (r.drop _).take _
theorem cut_whole {β : Type} {xs : List β} {lo hi : Option Int} (h : HT.sIx xs.length 0 lo = 0 ∧ HT.sIx xs.length xs.length hi = xs.length) : cutW xs lo hi = xs := by
  unfold cutW
  rw [h.1, h.2]
  simp
theorem cutW_len {β : Type} {xs : List β} {lo hi : Option Int} {n : Nat} (h : xs.length ≤ n) : (cutW xs lo hi).length ≤ n := by
  unfold cutW
  rw [List.length_take, List.length_drop]
  omega
theorem oe_sl (ha : PE X a (tE X.K W m)) (hl : PO X lo (tO X.K W ml)) (hu : PO X hi (tO X.K W mh)) : PE X (.Subscript a (.Slice lo hi none p2) pos) (tE X.K W (sSl m ml mh)) := by
  refine PE.weak (pe_slice (SlR.or sl_tupF (SlR.or sl_str sl_list)) ha hl hu) ?_
  rintro sg H Q ⟨al, B, ro, h, S, p⟩
  refine ⟨al, B, ro, h, S, Po.mono (Po.bind p) fun v1 H1 ⟨al1, h1, w1, st1, hr1, r1, p1⟩ => ?_⟩
  refine ⟨al1, B, ro, h1, S.step st1 hr1, Po.mono (Po.bind p1) fun l H2 ⟨al2, h2, w2, st2, hr2, r2, p2⟩ => ?_⟩
  subst r2
  refine ⟨al2, B, ro, h2, (S.step st1 hr1).step st2 hr2, Po.mono (Po.bind p2) fun u H3 ⟨al3, h3, w3, st3, hr3, r3, p3⟩ => ?_⟩
  subst r3
  have r := (r1.step st2).step st3
  unfold bSl at p3
  split at p3
  · cases r with
    | tup a l s =>
      refine .inl ⟨_, _, rfl, sqT_of a, fun z => ?_, fun z q u hq hu => ?_⟩
      · refine Po.now p3 hr3 ?_
        rw [cut_whole (by rw [s.length]; exact z)]
        exact .tup a l s
      · exact p3 _ _ _ (Stp.lay hq) (hr3.lay hq) (.tup (.inl (AtT.lay hr3 hq hu)) (cutW_len l) (s.cut.step (Stp.lay hq)))
  · cases r
    split at p3
    · rename_i l
      exact .inr (.inl ⟨_, rfl, l, Po.now p3 hr3 (.str _)⟩)
    · exact p3.elim
  · split at p3
    · rename_i e
      obtain ⟨a, vs, rfl, q, l, s⟩ := lsts_at hr3 r e
      exact .inr (.inr ⟨a, vs, rfl, SqL.of q, fun q hq => p3 _ _ _ (Stp.lay hq) (hr3.lay hq) (.lst (At1.lay hr3 hq) (cutW_len l) (s.cut.step (Stp.lay hq)))⟩)
    · exact p3.elim
end
/-! ### displays -/
def fTup (ws : List Val) : M Val := fun h => if ws.length ≤ sizeLine then .ok (.tup ws) h else .bad
def fLst (ws : List Val) : M Val := fun h => if ws.length ≤ sizeLine then .ok (.lst ws) h else .bad
def fNew (ws : List Val) : M Val := fun h => if ws.length ≤ sizeLine then .ok (.ref h.length) (h ++ [.lst ws]) else .bad
section
variable {X : Cx} {W : WX} {es : List Expr} {r : En → M (List Val)} {pos : Pos}
theorem oe_tup {x1 : Nat} (ha : PA X es (tA X.K W r)) : PE X (.Tuple es x1 pos) (tE X.K W (sArgs fTup r)) := by
  refine PE.weak (pe_tupF ha) ?_
  rintro sg H Q ⟨al, B, ro, h, S, p⟩
  refine ⟨al, B, ro, h, S, Po.mono (Po.bind p) fun v1 H1 ⟨al1, h1, w1, st1, hr1, r1, p1⟩ => ?_⟩
  unfold fTup at p1
  split at p1
  · rename_i l
    exact ⟨by rw [← r1.length]; exact l, fun z u hz hu => p1 _ _ _ (Stp.lay hz) (hr1.lay hz) (.tup (.inl (AtT.lay hr1 hz hu)) l (r1.step (Stp.lay hz)))⟩
  · exact p1.elim
theorem oe_lst (ha : PA X es (tA X.K W r)) : PE X (.List es pos) (tE X.K W (sArgs fLst r)) := by
  refine PE.weak (pe_lst ha) ?_
  rintro sg H Q ⟨al, B, ro, h, S, p⟩
  refine ⟨al, B, ro, h, S, Po.mono (Po.bind p) fun v1 H1 ⟨al1, h1, w1, st1, hr1, r1, p1⟩ => ?_⟩
  unfold fLst at p1
  split at p1
  · rename_i l
    exact ⟨by rw [← r1.length]; exact l, fun z hz => p1 _ _ _ (Stp.lay hz) (hr1.lay hz) (.lst (At1.lay hr1 hz) l (r1.step (Stp.lay hz)))⟩
  · exact p1.elim
theorem oe_new (ha : PA X es (tA X.K W r)) : PE X (.List es pos) (tE X.K W (sArgs fNew r)) := by
  refine PE.weak (pe_lst ha) ?_
  rintro sg H Q ⟨al, B, ro, h, S, p⟩
  refine ⟨al, B, ro, h, S, Po.mono (Po.bind p) fun v1 H1 ⟨al1, h1, w1, st1, hr1, r1, p1⟩ => ?_⟩
  unfold fNew at p1
  split at p1
  · rename_i l
    refine ⟨by rw [← r1.length]; exact l, fun z hz => p1 _ _ _ (Stp.new hz) (hr1.new hz (.lst upd_same l (r1.step (Stp.new hz)))) ?_⟩
    exact .ref (by rw [← hr1.len, List.getElem?_concat_length])
  · exact p1.elim
end
end Z
/-! ZE: enumerate(t) of a tuple. -/
namespace ZE
open PySem PySem.Spec PyProof.Rows
open AutoSeq1 (wpAny_loadPart')
abbrev tIt (l : Addr) : Obj := { cls := .type "tuple_iterator", data := .fields #[.ref l, .int 0 0] }
abbrev enO (it : Addr) : Obj := { cls := .type "enumerate", data := .fields #[.none, .bool false, .ref it, rawInt 0, .none, .none] }
theorem made (l : Addr) (items : Array Value) (n : Nat) (dd : Option Addr) (sl : Array (Option Value)) :
    Meets (Builtin.«enumerate.__new__» ⟨[.type "enumerate", .ref l], []⟩) (fun _ R s => s.heap.get? l = some { cls := .type "tuple", dict := dd, data := .seq items n, slots := sl } ∧
      R (.ok (.ret (.ref (s.heap.push (tIt l)).objs.size))) { s with heap := (s.heap.push (tIt l)).push (enO s.heap.objs.size) }) :=
  .of_wp fun prog w A R s h => by
    obtain ⟨hp, g, d, tk, os⟩ := s
    obtain ⟨hl, q⟩ := h
    have f := sub_enumerate
    have hT : Heap.IsTuple (Shared.heap ⟨hp, g, d, tk, os⟩) l items := ⟨_, hl, rfl, n, rfl⟩
    wp_walk using wpAny_loadPart' hl
    refine wpAny_stack_any fun st => wpAny_pure ?_
    split
    · rename_i c _ _ _ _ _
      cases (c == Value.type "enumerate") <;>
      · wp_walk using wpAny_loadPart' hl, wpAny_pyIter_tuple hT
        exact ⟨_, rfl, q⟩
    · wp_walk using wpAny_loadPart' hl, wpAny_pyIter_tuple hT
      exact ⟨_, rfl, q⟩
section
variable {prog : Program} {w : World} {A : Around} {E : Value → Shared → Prop} {s : Shared}
theorem call {l : Addr} {items : Array Value} {Q : Value → Shared → Prop} (ht : s.heap.IsTuple l items)
    (h : ∀ h', IsEnum h' (s.heap.objs.size + 1) s.heap.objs.size 0 .none → h'.IsTupleIter s.heap.objs.size l 0 → (∀ b o, s.heap.get? b = some o → h'.get? b = some o) → Q (.ref (s.heap.objs.size + 1)) { s with heap := h' }) :
    wpAny (model prog w) A (PySem.call (.type "enumerate") [.ref l]) Q E s := by
  obtain ⟨⟨c, dd, dt, sl⟩, ho, hc, n, hd⟩ := ht
  simp only at hc hd
  subst hc hd
  refine callType_new F.called_enumerate (by decide) (F.typeCall_enumerate_1 _) (F.newCall_enumerate_1 _) (fun obj => F.args_object_init_2 obj _) F.entry_enumerate_new (made l items n dd sl) ⟨ho, ?_⟩
  have z : (s.heap.push (tIt l)).objs.size = s.heap.objs.size + 1 := Heap.size_push ..
  show _ ∧ _
  rw [z]
  have he : IsEnum ((s.heap.push (tIt l)).push (enO s.heap.objs.size)) (s.heap.objs.size + 1) s.heap.objs.size 0 .none := by
    have q := Heap.get?_push_size (s.heap.push (tIt l)) (o := enO s.heap.objs.size) rfl
    rw [z] at q
    exact q
  exact ⟨⟨_, he, rfl⟩, h _ he ⟨_, Heap.get?_push_of_some _ (Heap.get?_push_size _ rfl), rfl, rfl⟩ fun b o x => Heap.get?_push_of_some _ (Heap.get?_push_of_some _ x)⟩
end
end ZE
namespace Z
open PySem PySem.Spec PyProof.Rows L2
/-- the tuple at a, each item in a new pair -/
def IteT (K : PySem.W.Frag) (a : Addr) : It :=
  ⟨fun i H => ∃ (xs : List V) (x : V), SqT K H a xs ∧ xs[i]? = some x, fun i H v H' => ∃ T u x, v = .ref T ∧ H T = none ∧ H' = upd H T u ∧ FT u [.int (i : Nat), x] ∧ ∀ xs, SqT K H a xs → xs[i]? = some x, fun i H => ∃ xs : List V, SqT K H a xs ∧ xs.length ≤ i⟩
theorem turn_enumT {P : Program} {w : World} {K : PySem.W.Frag} {elts : List Expr} {kk : Nat} {tpos : Pos} (a e it : Addr) (hai : a ≠ it) (hae : a ≠ e) :
    Turn P w K (.Tuple elts kk tpos) (IteT K a) [e, it] e (fun i h => (∃ old, IsEnum h e it ((i : Nat) : Int) old) ∧ h.IsTupleIter it a i ∧ e ≠ it) where
  mem := by simp
  obj := fun i h st b hb => by
    obtain ⟨⟨old, he⟩, ⟨o, ho, hc, hd⟩, _⟩ := st
    rcases List.mem_cons.mp hb with z | hb
    · rw [z]; exact ⟨_, he, fun v q => nomatch q⟩
    · rw [List.mem_singleton.mp hb]; exact ⟨o, ho, fun v q => by rw [hd] at q; cases q⟩
  keep := fun i h h' st k => by
    obtain ⟨⟨old, he⟩, hi, hne⟩ := st
    exact ⟨⟨old, k e (by simp) _ he⟩, hi.at fun o q => k it (by simp) o q, hne⟩
  item := by
    intro X hP hw hK hc i pins s σ H E I hf st hg
    subst hP hw hK
    obtain ⟨⟨old, he⟩, hit, hne⟩ := st
    obtain ⟨xs, x, hq, hx⟩ := hg
    obtain ⟨its, rv, p, hz⟩ := I.tuple hq
    have pt : s.heap.IsTuple a its.toArray := p
    obtain ⟨u, hu, ru⟩ := rv.get hx
    have hel : e < s.heap.objs.size := Heap.lt_size he
    have hil : it < s.heap.objs.size := by obtain ⟨_, q, _⟩ := hit; exact Heap.lt_size q
    have lt : i < its.toArray.size := by
      have := (List.getElem?_eq_some_iff.mp hu).1
      simpa using this
    refine PySem.wpAny_pyNext_enum_itemD (PySem.Draws.tuple (A := X.A.in1) (I.ok.hd hc) it a hai its.toArray) he ⟨hit, pt⟩ lt hne (by simp; exact ⟨hne, fun z => hae z.symm⟩) fun y h' tk hy ho hit' hT hsz hk => ?_
    have ey : y = u := by
      have : its.toArray[i]? = some u := by simpa using hu
      rw [this] at hy
      exact (Option.some.inj hy).symm
    subst ey
    refine ⟨_, rfl, wpAny_letOwnedTupleGo_enum (s := { s with heap := h', toks := tk + 1 }) ho fun h'' he' sb => ?_⟩
    have hT2 : h''.get? s.heap.objs.size = some { cls := .type "tuple", data := .seq #[.int i tk, y] } := (sb.2 _ (Nat.ne_of_gt hel)).trans hT
    have new : ObjOk X.prog X.w (upd H s.heap.objs.size (.frz (newT #[.int i tk, y]) (.tup [.int (i : Nat), x]))) h'' s.heap.objs.size (.frz (newT #[.int i tk, y]) (.tup [.int (i : Nat), x])) :=
      ⟨hT2, by show 2 ≤ sizeLine; decide, [.int i tk, y], .cons ⟨_, rfl⟩ (.cons ru .nil), ⟨_, hT2, rfl, _, rfl⟩⟩
    have I1 : Inv X pins σ (upd H s.heap.objs.size (.frz (newT #[.int i tk, y]) (.tup [.int (i : Nat), x]))) { s with heap := h'', toks := tk + 1 } :=
      I.turnedNew (ch := [e, it]) (fun b ob hb q => (sb.2 b (fun z => hb (by simp [z]))).trans (hk b ob (fun z => hb (by simp [z])) (fun z => hb (by simp [z])) q)) hf (Nat.le_refl _) new
    refine ⟨.ref s.heap.objs.size, _, I1, rfl, ⟨_, _, x, rfl, I.hok.fresh (Nat.le_refl _), rfl, ⟨_, rfl, rfl, rfl⟩, fun ys hy => by rw [I.tuple_inj hy hq]; exact hx⟩, ⟨⟨y, ?_⟩, hit'.1.at fun o q => (sb.2 it (Ne.symm hne)).trans q, hne⟩, fun b hb => ?_⟩
    · have e1 : ((i + 1 : Nat) : Int) = (i : Int) + 1 := by omega
      rw [e1]; exact he'
    · have hb' : b < s.heap.objs.size := by
        rcases List.mem_cons.mp hb with z | hb
        · rw [z]; exact hel
        · rw [List.mem_singleton.mp hb]; exact hil
      rw [upd_ne (Nat.ne_of_lt hb')]
      exact (hf b hb).1
  done := by
    intro X hP hw hK hc i pins s σ H E I hf st hg
    subst hP hw hK
    obtain ⟨⟨old, he⟩, hit, hne⟩ := st
    obtain ⟨xs, hq, hx⟩ := hg
    obtain ⟨its, rv, p, hz⟩ := I.tuple hq
    have pt : s.heap.IsTuple a its.toArray := p
    obtain ⟨f0, f1, f2, f3, f4, f5⟩ := hf it (by simp)
    have hl := rv.length
    have hnone : its.toArray[i]? = none := by simp; omega
    have hT : s.TypeIs (.ref e) "enumerate" := ⟨_, he, rfl⟩
    unfold pyNext
    refine wpAny_bind (wpAny_attempt (wpAny_callSpecial?_slot (name := Str.ofString "__next__") hT F.slot_enumerate_next
      (wpAny_call_entry F.slot_enumerate_next hT F.entry_enumerate_next ?_ (F.args_enumerate_next_1 _))))
    refine wpAny_bind (m := field (.ref e) 2) (wpAny_field he rfl (x := .ref it) rfl ?_)
    refine wpAny_bind (wpAny_nextOf_tuple_end (I.ok.hd hc) hit pt hnone fun h' z he' hx' => ?_)
    obtain ⟨o, ho, hcc⟩ := hx'
    refine wpAny_bind (wpAny_isInstance (T := "StopIteration") (b := true) ⟨o, ho, hcc⟩ isSubtype_stop ?_)
    exact wpAny_pure ⟨rfl, I.turned (t' := s.toks) (fun b o hb q => he' b o hb q) f0 f1 f3 f4 f5⟩
  self := fun A i s Q E st h => by
    obtain ⟨⟨_, he⟩, _⟩ := st
    exact wpAny_pyIter_enum he h
def iEnumT (K : PySem.W.Frag) (ta : TA) : TI := fun σ H R => ta σ H fun vs H1 => ∃ a xs, vs = [.ref a] ∧ SqT K H1 a xs ∧ R (IteT K a) H1
theorem pi_enumT {X : Cx} {e : Expr} {ta : TA} {p pos tpos : Pos} {elts : List Expr} {kk : Nat} (hg : Gl X "enumerate") (hm : X.mg "enumerate" = none) (ha : PA X [e] ta) (hs : starEach [e] X.env = [(false, eval e X.env)] := by rfl) :
    PI X (.Tuple elts kk tpos) (.Call (.Name "enumerate" p) [e] [] pos) (iEnumT X.K ta) := by
  refine ⟨fun pins s σ H R I h => ?_⟩
  refine Call_ (ld_blt I hg hm boot_enumerate (PyProof.Rows.callWith_type1 (thn (ha.run pos pins s σ H _ I h) fun us s1 ⟨vs, H1, I1, r1, q1⟩ => ?_) hs rfl))
  obtain ⟨a, xs, ex, hq, q⟩ := q1
  subst ex
  cases r1 with
  | cons r rr =>
    cases rr
    cases r
    obtain ⟨its, rv, p', hz⟩ := I1.tuple hq
    have pt : s1.heap.IsTuple a its.toArray := p'
    have al : a < s1.heap.objs.size := by obtain ⟨_, q, _⟩ := pt; exact Heap.lt_size q
    refine ZE.call pt fun h' he hit hk => wpAny_pyIter_enum he ?_
    have I2 : Inv X pins σ H1 { s1 with heap := h' } := I1.kept (t' := s1.toks) hk
    refine ⟨s1.heap.objs.size + 1, [s1.heap.objs.size + 1, s1.heap.objs.size], _, _, H1, rfl, I2, turn_enumT a (s1.heap.objs.size + 1) s1.heap.objs.size (Nat.ne_of_lt al) (Nat.ne_of_lt (Nat.lt_succ_of_lt al)), ⟨⟨.none, he⟩, hit, Nat.succ_ne_self _⟩, fun b hb => ?_, q⟩
    have hle : s1.heap.objs.size ≤ b := by
      rcases List.mem_cons.mp hb with z | hb
      · rw [z]; exact Nat.le_add_right _ _
      · rw [List.mem_singleton.mp hb]; exact Nat.le_refl _
    exact I1.fpOk hle (I1.hok.fresh hle)
/-- the list at a, each item in a new pair -/
def IteL (K : PySem.W.Frag) (a : Addr) : It :=
  ⟨fun i H => ∃ (xs : List V) (x : V), SqL K H a xs ∧ xs[i]? = some x, fun i H v H' => ∃ T u x, v = .ref T ∧ H T = none ∧ H' = upd H T u ∧ FT u [.int (i : Nat), x] ∧ ∀ xs, SqL K H a xs → xs[i]? = some x, fun i H => ∃ xs : List V, SqL K H a xs ∧ xs.length ≤ i⟩
theorem turn_enumL {P : Program} {w : World} {K : PySem.W.Frag} {elts : List Expr} {kk : Nat} {tpos : Pos} (a e it : Addr) (hai : a ≠ it) (hae : a ≠ e) :
    Turn P w K (.Tuple elts kk tpos) (IteL K a) [e, it] e (fun i h => (∃ old, IsEnum h e it ((i : Nat) : Int) old) ∧ h.IsListIter it a i ∧ e ≠ it) where
  mem := by simp
  obj := fun i h st b hb => by
    obtain ⟨⟨old, he⟩, ⟨o, ho, hc, hd⟩, _⟩ := st
    rcases List.mem_cons.mp hb with z | hb
    · rw [z]; exact ⟨_, he, fun v q => nomatch q⟩
    · rw [List.mem_singleton.mp hb]; exact ⟨o, ho, fun v q => by rw [hd] at q; cases q⟩
  keep := fun i h h' st k => by
    obtain ⟨⟨old, he⟩, hi, hne⟩ := st
    exact ⟨⟨old, k e (by simp) _ he⟩, hi.at fun o q => k it (by simp) o q, hne⟩
  item := by
    intro X hP hw hK hc i pins s σ H E I hf st hg
    subst hP hw hK
    obtain ⟨⟨old, he⟩, hit, hne⟩ := st
    obtain ⟨xs, x, hq, hx⟩ := hg
    obtain ⟨its, rv, p, hz⟩ := I.list hq
    have pt : s.heap.IsList a its.toArray := p.isList
    obtain ⟨u, hu, ru⟩ := rv.get hx
    have hel : e < s.heap.objs.size := Heap.lt_size he
    have hil : it < s.heap.objs.size := by obtain ⟨_, q, _⟩ := hit; exact Heap.lt_size q
    have lt : i < its.toArray.size := by
      have := (List.getElem?_eq_some_iff.mp hu).1
      simpa using this
    refine PySem.wpAny_pyNext_enum_itemD (PySem.Draws.list (A := X.A.in1) (I.ok.hd hc) it a hai its.toArray) he ⟨hit, pt⟩ lt hne (by simp; exact ⟨hne, fun z => hae z.symm⟩) fun y h' tk hy ho hit' hT hsz hk => ?_
    have ey : y = u := by
      have : its.toArray[i]? = some u := by simpa using hu
      rw [this] at hy
      exact (Option.some.inj hy).symm
    subst ey
    refine ⟨_, rfl, wpAny_letOwnedTupleGo_enum (s := { s with heap := h', toks := tk + 1 }) ho fun h'' he' sb => ?_⟩
    have hT2 : h''.get? s.heap.objs.size = some { cls := .type "tuple", data := .seq #[.int i tk, y] } := (sb.2 _ (Nat.ne_of_gt hel)).trans hT
    have new : ObjOk X.prog X.w (upd H s.heap.objs.size (.frz (newT #[.int i tk, y]) (.tup [.int (i : Nat), x]))) h'' s.heap.objs.size (.frz (newT #[.int i tk, y]) (.tup [.int (i : Nat), x])) :=
      ⟨hT2, by show 2 ≤ sizeLine; decide, [.int i tk, y], .cons ⟨_, rfl⟩ (.cons ru .nil), ⟨_, hT2, rfl, _, rfl⟩⟩
    have I1 : Inv X pins σ (upd H s.heap.objs.size (.frz (newT #[.int i tk, y]) (.tup [.int (i : Nat), x]))) { s with heap := h'', toks := tk + 1 } :=
      I.turnedNew (ch := [e, it]) (fun b ob hb q => (sb.2 b (fun z => hb (by simp [z]))).trans (hk b ob (fun z => hb (by simp [z])) (fun z => hb (by simp [z])) q)) hf (Nat.le_refl _) new
    refine ⟨.ref s.heap.objs.size, _, I1, rfl, ⟨_, _, x, rfl, I.hok.fresh (Nat.le_refl _), rfl, ⟨_, rfl, rfl, rfl⟩, fun ys hy => by rw [I.list_inj hy hq]; exact hx⟩, ⟨⟨y, ?_⟩, hit'.1.at fun o q => (sb.2 it (Ne.symm hne)).trans q, hne⟩, fun b hb => ?_⟩
    · have e1 : ((i + 1 : Nat) : Int) = (i : Int) + 1 := by omega
      rw [e1]; exact he'
    · have hb' : b < s.heap.objs.size := by
        rcases List.mem_cons.mp hb with z | hb
        · rw [z]; exact hel
        · rw [List.mem_singleton.mp hb]; exact hil
      rw [upd_ne (Nat.ne_of_lt hb')]
      exact (hf b hb).1
  done := by
    intro X hP hw hK hc i pins s σ H E I hf st hg
    subst hP hw hK
    obtain ⟨⟨old, he⟩, hit, hne⟩ := st
    obtain ⟨xs, hq, hx⟩ := hg
    obtain ⟨its, rv, p, hz⟩ := I.list hq
    have pt : s.heap.IsList a its.toArray := p.isList
    obtain ⟨f0, f1, f2, f3, f4, f5⟩ := hf it (by simp)
    have hl := rv.length
    have hnone : its.toArray[i]? = none := by simp; omega
    have hT : s.TypeIs (.ref e) "enumerate" := ⟨_, he, rfl⟩
    unfold pyNext
    refine wpAny_bind (wpAny_attempt (wpAny_callSpecial?_slot (name := Str.ofString "__next__") hT F.slot_enumerate_next
      (wpAny_call_entry F.slot_enumerate_next hT F.entry_enumerate_next ?_ (F.args_enumerate_next_1 _))))
    refine wpAny_bind (m := field (.ref e) 2) (wpAny_field he rfl (x := .ref it) rfl ?_)
    refine wpAny_bind (wpAny_nextOf_list_end (I.ok.hd hc) hit pt hnone fun h' z he' hx' => ?_)
    obtain ⟨o, ho, hcc⟩ := hx'
    refine wpAny_bind (wpAny_isInstance (T := "StopIteration") (b := true) ⟨o, ho, hcc⟩ isSubtype_stop ?_)
    exact wpAny_pure ⟨rfl, I.turned (t' := s.toks) (fun b o hb q => he' b o hb q) f0 f1 f3 f4 f5⟩
  self := fun A i s Q E st h => by
    obtain ⟨⟨_, he⟩, _⟩ := st
    exact wpAny_pyIter_enum he h
def iEnumL (K : PySem.W.Frag) (ta : TA) : TI := fun σ H R => ta σ H fun vs H1 => ∃ a xs, vs = [.ref a] ∧ SqL K H1 a xs ∧ R (IteL K a) H1
theorem pi_enumL {X : Cx} {e : Expr} {ta : TA} {p pos tpos : Pos} {elts : List Expr} {kk : Nat} (hg : Gl X "enumerate") (hm : X.mg "enumerate" = none) (ha : PA X [e] ta) (hs : starEach [e] X.env = [(false, eval e X.env)] := by rfl) :
    PI X (.Tuple elts kk tpos) (.Call (.Name "enumerate" p) [e] [] pos) (iEnumL X.K ta) := by
  refine ⟨fun pins s σ H R I h => ?_⟩
  refine Call_ (ld_blt I hg hm boot_enumerate (PyProof.Rows.callWith_type1 (thn (ha.run pos pins s σ H _ I h) fun us s1 ⟨vs, H1, I1, r1, q1⟩ => ?_) hs rfl))
  obtain ⟨a, xs, ex, hq, q⟩ := q1
  subst ex
  cases r1 with
  | cons r rr =>
    cases rr
    cases r
    obtain ⟨its, rv, p', hz⟩ := I1.list hq
    have pt : s1.heap.IsList a its.toArray := p'.isList
    have al : a < s1.heap.objs.size := by obtain ⟨_, q, _⟩ := pt; exact Heap.lt_size q
    refine call_enumerate_list pt fun h' he hit hsz hk => wpAny_pyIter_enum he ?_
    have I2 : Inv X pins σ H1 { s1 with heap := h' } := I1.kept (t' := s1.toks) hk
    refine ⟨s1.heap.objs.size + 1, [s1.heap.objs.size + 1, s1.heap.objs.size], _, _, H1, rfl, I2, turn_enumL a (s1.heap.objs.size + 1) s1.heap.objs.size (Nat.ne_of_lt al) (Nat.ne_of_lt (Nat.lt_succ_of_lt al)), ⟨⟨.none, he⟩, hit, Nat.succ_ne_self _⟩, fun b hb => ?_, q⟩
    have hle : s1.heap.objs.size ≤ b := by
      rcases List.mem_cons.mp hb with z | hb
      · rw [z]; exact Nat.le_add_right _ _
      · rw [List.mem_singleton.mp hb]; exact Nat.le_refl _
    exact I1.fpOk hle (I1.hok.fresh hle)
end Z
/-! Z6: what loops walk. -/
namespace Z
open PySem PySem.Spec PyProof.Rows L2
section
variable {X : Cx} {tg e : Expr}
theorem PI.weak {t t' : TI} (h : PI X tg e t) (i : ∀ sg H R, t' sg H R → t sg H R) : PI X tg e t' := ⟨fun pins s sg H R I q => h.run pins s sg H R I (i _ _ _ q)⟩
theorem PI.or {t t' : TI} (h : PI X tg e t) (h' : PI X tg e t') : PI X tg e (fun sg H R => t sg H R ∨ t' sg H R) := ⟨fun pins s sg H R I q => q.elim (h.run pins s sg H R I) (h'.run pins s sg H R I)⟩
end
def signs (x : Str) : List Val := x.cps.toList.map fun c => .str ⟨#[c]⟩
def itmV (w : Val) : M (Itm × Nat) := fun h => match w with
  | .tup xs => .ok (.st xs, xs.length) h
  | .lst xs => .ok (.st xs, xs.length) h
  | .scr ns => .ok (.st (ns.map Val.int), ns.length) h
  | .str x => if x.length ≤ sizeLine then .ok (.st (signs x), x.length) h else .bad
  | .ref n => match h[n]? with
    | some (.lst xs) => .ok (.dyn n, xs.length) h
    | _ => .bad
  | _ => .bad
def iVal (m : SE) : SI := fun ro => bind (m ro) itmV
section
variable {K : PySem.W.Frag} {al B : List Addr} {H : Hp}
theorem itR_seq {J : It} {xs : List Val} {vs : List V} (r : Reps K al B H xs vs)
    (hJ : ∀ al' H', StpB B al H al' H' → (∀ i, vs.length ≤ i → J.stop i H') ∧ ∀ i v, vs[i]? = some v → J.go i H' ∧ ∀ y H'', J.yld i H' y H'' → H'' = H' ∧ y = v) : ItR K B J (.st xs) al H := by
  intro al' B' H' h' st hB hr i
  obtain ⟨j1, j2⟩ := hJ al' H' st
  refine ⟨fun e => j1 i ?_, fun w e => ?_⟩
  · rw [← r.length]
    have e : some xs[i]? = some none := e
    exact List.getElem?_eq_none_iff.mp (Option.some.inj e)
  · have e : some xs[i]? = some (some w) := e
    obtain ⟨v, e1, rv⟩ := r.get (Option.some.inj e)
    obtain ⟨g1, g2⟩ := j2 i v e1
    refine ⟨g1, fun y H'' yy => ?_⟩
    obtain ⟨rfl, rfl⟩ := g2 y H'' yy
    exact ⟨Stp.refl _ _, hr, rv.stepB st hB⟩
theorem itR_tup {a : Addr} {xs : List Val} {vs : List V} (h : ∀ al' H', StpB B al H al' H' → SqT K H' a vs) (r : Reps K al B H xs vs) : ItR K B (Itt K a) (.st xs) al H := by
  refine itR_seq r fun al' H' st => ?_
  have q := h al' H' st
  exact ⟨fun i l => ⟨vs, q, l⟩, fun i v e => ⟨⟨vs, v, q, e⟩, fun y H'' ⟨e1, e2⟩ => ⟨e1, by have := e2 vs q; rw [e] at this; exact (Option.some.inj this).symm⟩⟩⟩
theorem itR_lst' {a : Addr} {xs : List Val} {vs : List V} (h : ∀ al' H', StpB B al H al' H' → SqL K H' a vs) (r : Reps K al B H xs vs) : ItR K B (Itl K a) (.st xs) al H := by
  refine itR_seq r fun al' H' st => ?_
  have q := h al' H' st
  exact ⟨fun i l => ⟨vs, q, l⟩, fun i v e => ⟨⟨vs, v, q, e⟩, fun y H'' ⟨e1, e2⟩ => ⟨e1, by have := e2 vs q; rw [e] at this; exact (Option.some.inj this).symm⟩⟩⟩
theorem Reps.signs : ∀ cs : List Nat, Reps K al B H (cs.map fun c => Val.str ⟨#[c]⟩) (cs.map fun c => V.str ⟨#[c]⟩)
  | [] => .nil
  | c :: cs => .cons (.str _) (Reps.signs cs)
theorem itR_str {x : Str} : ItR K B (Its x) (.st (signs x)) al H := by
  refine itR_seq (Reps.signs x.cps.toList) fun al' H' st => ⟨fun i l => ?_, fun i v e => ?_⟩
  · show x.cps.size ≤ i
    rw [List.length_map, Array.length_toList] at l
    exact l
  · rw [List.getElem?_map] at e
    obtain ⟨c, hc, rfl⟩ := Option.map_eq_some_iff.mp e
    rw [Array.getElem?_toList] at hc
    refine ⟨?_, fun y H'' ⟨e1, d, hd, e2⟩ => ⟨e1, ?_⟩⟩
    · show i < x.cps.size
      exact (Array.getElem?_eq_some_iff.mp hc).1
    · rw [hc] at hd
      cases hd
      exact e2
theorem itR_dyn {n : Nat} {a : Addr} (e : al[n]? = some a) : ItR K B (Itl K a) (.dyn n) al H := by
  intro al' B' H' h' st hB hr i
  have e' := st.get e
  unfold nxt
  dsimp only
  cases e2 : h'[n]? with
  | none => exact ⟨fun z => by simp at z, fun w z => by simp at z⟩
  | some o =>
    cases o with
    | lst xs =>
      cases hr.ob _ _ _ e' e2 with
      | @lst _ _ vs q _ s =>
      refine ⟨fun z => ⟨vs, SqL.of q, ?_⟩, fun w z => ?_⟩
      · rw [← s.length]
        exact List.getElem?_eq_none_iff.mp (Option.some.inj z)
      · obtain ⟨v, e1, rv⟩ := s.get (Option.some.inj z)
        refine ⟨⟨vs, v, SqL.of q, e1⟩, fun y H'' ⟨z1, z2⟩ => ?_⟩
        subst z1
        have := z2 vs (SqL.of q)
        rw [e1] at this
        cases this
        exact ⟨Stp.refl _ _, hr, rv⟩
    | dic _ => exact ⟨fun z => by simp at z, fun w z => by simp at z⟩
    | ins _ _ => exact ⟨fun z => by simp at z, fun w z => by simp at z⟩
def nums (lo : Int) (n : Nat) : List Val := (List.range n).map fun (k : Nat) => .int (lo + k)
def numsDn (lo : Int) (n : Nat) : List Val := (List.range n).map fun (k : Nat) => .int (lo + (k : Nat) * (-1))
theorem Reps.map {γ : Type} {f : γ → Val} {g : γ → V} (h : ∀ c, Rep K al B H (f c) (g c)) : ∀ cs : List γ, Reps K al B H (cs.map f) (cs.map g)
  | [] => .nil
  | c :: cs => .cons (h c) (Reps.map h cs)
theorem itR_rng {lo : Int} {n : Nat} : ItR K B (Itr lo n) (.st (nums lo n)) al H := by
  refine itR_seq (Reps.map (g := fun (k : Nat) => V.int (lo + k)) (fun c => .int _) (List.range n)) fun al' H' st => ⟨fun i l => ?_, fun i v e => ?_⟩
  · show n ≤ i
    simpa using l
  · rw [List.getElem?_map] at e
    obtain ⟨c, hc, rfl⟩ := Option.map_eq_some_iff.mp e
    obtain ⟨l, rfl⟩ := List.getElem?_eq_some_iff.mp hc
    simp at l
    refine ⟨l, fun y H'' ⟨e1, e2⟩ => ⟨e1, ?_⟩⟩
    rw [e2]; simp
end
section
variable {X : Cx} {W : WX} {tg e : Expr} {m : SE}
theorem oi_val (he : PE X e (tE X.K W m)) : PI X tg e (tI X.K W (iVal m)) := by
  refine PI.weak (PI.or (pi_list he) (PI.or (pi_tup he) (pi_str he))) ?_
  rintro sg H R ⟨al, B, ro, h, S, p⟩
  unfold iVal at p
  change Po _ _ _ _ _ _ (obind (m ro h) itmV) _ _ at p
  cases e1 : m ro h with
  | bad => rw [e1] at p; exact p.elim
  | ex ee h1 => rw [e1] at p; exact .inl ⟨al, B, ro, h, S, by rw [e1]; exact p⟩
  | ok w h1 =>
    rw [e1, obind_ok] at p
    cases w with
    | tup xs =>
      refine .inr (.inl ⟨al, B, ro, h, S, ?_⟩)
      rw [e1]
      intro al' H' v st hr r
      cases r with
      | @tup a _ vs at' l s => exact ⟨a, rfl, ⟨vs, sqT_of at'⟩, p al' H' _ st hr ⟨itR_tup (fun al2 H2 st2 => sqT_of (B := B) (at'.imp (AtT.stepB st2 fun _ hb => .inl hb) id)) s, l⟩⟩
    | lst xs =>
      refine .inl ⟨al, B, ro, h, S, ?_⟩
      rw [e1]
      intro al' H' v st hr r
      cases r with
      | @lst a _ vs at' l s => exact ⟨a, rfl, ⟨vs, SqL.of at'.1⟩, p al' H' _ st hr ⟨itR_lst' (fun al2 H2 st2 => SqL.of (at'.stepW st2).1) s, l⟩⟩
    | exn => exact p.elim
    | scr ns =>
      refine .inl ⟨al, B, ro, h, S, ?_⟩
      rw [e1]
      intro al' H' v st hr r
      cases r with
      | @scr a _ at' l => exact ⟨a, rfl, ⟨_, sqL_of at'⟩, p al' H' _ st hr ⟨itR_lst' (fun al2 H2 st2 => sqL_of (B := B) (at'.imp (At.stepB st2 fun _ hb => .inl hb) id)) (Reps.ints ns), l⟩⟩
    | str x =>
      refine .inr (.inr ⟨al, B, ro, h, S, ?_⟩)
      rw [e1]
      intro al' H' v st hr r
      cases r
      unfold itmV at p
      dsimp only at p
      split at p
      · rename_i l
        exact ⟨x, rfl, p al' H' _ st hr ⟨itR_str, l⟩⟩
      · exact p.elim
    | ref n =>
      refine .inl ⟨al, B, ro, h, S, ?_⟩
      rw [e1]
      intro al' H' v st hr r
      cases r with
      | @ref _ a q =>
        unfold itmV at p
        dsimp only at p
        split at p
        · rename_i xs e2
          cases hr.ob _ _ _ q e2 with
          | lst q2 l s => exact ⟨a, rfl, ⟨_, SqL.of q2⟩, p al' H' _ st hr ⟨itR_dyn q, l⟩⟩
        · exact p.elim
    | non => exact p.elim
    | bl => exact p.elim
    | int => exact p.elim
    | glo => exact p.elim
    | ty => exact p.elim
/-! ### range -/
def okR (i : Int) : Bool := decide (-(2 ^ 62) ≤ i ∧ i < 2 ^ 62)
def fRg (ws : List Val) : M (Itm × Nat) := fun h => match ws with
  | [.int j] => if okR j = true ∧ j.toNat ≤ sizeLine then .ok (.st (nums 0 j.toNat), j.toNat) h else .bad
  | [.int i, .int j] => if okR i = true ∧ okR j = true ∧ (j - i).toNat ≤ sizeLine then .ok (.st (nums i (j - i).toNat), (j - i).toNat) h else .bad
  | [.int i, .int j, .int c] => if okR i = true ∧ okR j = true ∧ c = -1 ∧ (i - j).toNat ≤ sizeLine then .ok (.st (numsDn i (i - j).toNat), (i - j).toNat) h else .bad
  | _ => .bad
theorem Reps.one {K : PySem.W.Frag} {al B : List Addr} {H : Hp} {w : Val} {vs : List V} (r : Reps K al B H [w] vs) : ∃ v, vs = [v] ∧ Rep K al B H w v := by
  cases r with
  | cons a r => cases r; exact ⟨_, rfl, a⟩
theorem Reps.two {K : PySem.W.Frag} {al B : List Addr} {H : Hp} {w w2 : Val} {vs : List V} (r : Reps K al B H [w, w2] vs) : ∃ v v2, vs = [v, v2] ∧ Rep K al B H w v ∧ Rep K al B H w2 v2 := by
  cases r with
  | cons a r => obtain ⟨v, rfl, q⟩ := r.one; exact ⟨_, _, rfl, a, q⟩
theorem okR_of {i : Int} (h : okR i = true) : -(2 ^ 62) ≤ i ∧ i < 2 ^ 62 := by
  unfold okR at h
  exact of_decide_eq_true h
/-- one value of what is walked, told from the arguments -/
theorem tI_args {sg : L2.St} {H : Hp} {R : It → Hp → Prop} {r : En → M (List Val)} {f : List Val → M (Itm × Nat)} {t : List V → Hp → (It → Hp → Prop) → Prop} (p : tI X.K W (fun ro => bind (r ro) f) sg H R)
    (lk : ∀ al B H h ws vs, HR X.K al B H h → Reps X.K al B H ws vs → Po X.K B (fun al H (x : Itm × Nat) J => ItR X.K B J x.1 al H ∧ x.2 ≤ sizeLine) sg al H (f ws h) W R → t vs H R) : tA X.K W r sg H (fun vs H1 => t vs H1 R) := by
  obtain ⟨al, B, ro, h, S, p⟩ := p
  exact ⟨al, B, ro, h, S, Po.mono (Po.bind p) fun v1 H1 ⟨al1, h1, w1, st1, hr1, r1, p1⟩ => lk al1 B H1 h1 w1 v1 hr1 r1 p1⟩
theorem lk_rg1 {sg : L2.St} {R : It → Hp → Prop} : ∀ al B H h ws vs, HR X.K al B H h → Reps X.K al B H ws vs → ws.length = 1 → Po X.K B (fun al H (x : Itm × Nat) J => ItR X.K B J x.1 al H ∧ x.2 ≤ sizeLine) sg al H (fRg ws h) W R →
    ∃ j : Int, vs = [.int j] ∧ -(2 ^ 62) ≤ j ∧ j < 2 ^ 62 ∧ R (Itr 0 j.toNat) H := by
  intro al B H h ws vs hr r l p
  unfold fRg at p
  split at p
  · obtain ⟨v, rfl, q⟩ := r.one
    cases q
    split at p
    · rename_i c
      exact ⟨_, rfl, (okR_of c.1).1, (okR_of c.1).2, Po.now p hr ⟨itR_rng, c.2⟩⟩
    · exact p.elim
  · simp at l
  · simp at l
  · exact p.elim
def iRgN (n : Nat) (r : En → M (List Val)) : SI := fun ro => bind (r ro) fun ws => if ws.length = n then fRg ws else fail
theorem oi_rg1 {a : Expr} {r : En → M (List Val)} {p pos : Pos} (hg : Gl X "range") (hm : X.mg "range" = none) (ha : PA X [a] (tA X.K W r)) (hs : starEach [a] X.env = [(false, eval a X.env)] := by rfl) : PI X tg (.Call (.Name "range" p) [a] [] pos) (tI X.K W (iRgN 1 r)) := by
  refine PI.weak (pi_range1 hg hm ha hs) fun sg H R p => ?_
  refine tI_args (t := fun vs H1 R => ∃ j : Int, vs = [.int j] ∧ -(2 ^ 62) ≤ j ∧ j < 2 ^ 62 ∧ R (Itr 0 j.toNat) H1) p fun al B H h ws vs hr rr p => ?_
  by_cases c : ws.length = 1
  · rw [if_pos c] at p; exact lk_rg1 al B H h ws vs hr rr c p
  · rw [if_neg c] at p; exact p.elim
end
/-! ### enumerate -/
def prs : Nat → List Val → List Val
  | _, [] => []
  | i, x :: xs => .tup [.int (i : Nat), x] :: prs (i + 1) xs
theorem prs_get : ∀ (xs : List Val) (k i : Nat), (prs k xs)[i]? = (xs[i]?).map fun x => .tup [.int ((k + i : Nat) : Int), x]
  | [], k, i => by simp [prs]
  | x :: xs, k, 0 => by simp [prs]
  | x :: xs, k, i + 1 => by
    unfold prs
    rw [List.getElem?_cons_succ, List.getElem?_cons_succ, prs_get xs (k + 1) i]
    have : k + 1 + i = k + (i + 1) := by omega
    rw [this]
def fEn (ws : List Val) : M (Itm × Nat) := fun h => match ws with
  | [.tup xs] => .ok (.st (prs 0 xs), xs.length) h
  | [.lst xs] => .ok (.st (prs 0 xs), xs.length) h
  | [.scr ns] => .ok (.st (prs 0 (ns.map Val.int)), ns.length) h
  | [.ref n] => match h[n]? with
    | some (.lst xs) => .ok (.den n, xs.length) h
    | _ => .bad
  | _ => .bad
section
variable {K : PySem.W.Frag} {al B : List Addr} {H : Hp}
theorem two_le : (2 : Nat) ≤ sizeLine := by rw [sizeLine_eq]; omega
theorem itR_en {J : It} {xs : List Val} {vs : List V} (r : Reps K al B H xs vs)
    (hJ : ∀ al' H', StpB B al H al' H' → (∀ i, vs.length ≤ i → J.stop i H') ∧ ∀ i v, vs[i]? = some v → J.go i H' ∧ ∀ y H'', J.yld i H' y H'' → ∃ T u, y = .ref T ∧ H' T = none ∧ H'' = upd H' T u ∧ FT u [.int (i : Nat), v]) : ItR K B J (.st (prs 0 xs)) al H := by
  intro al' B' H' h' st hB hr i
  obtain ⟨j1, j2⟩ := hJ al' H' st
  refine ⟨fun e => j1 i ?_, fun w e => ?_⟩
  · rw [← r.length]
    have e : some (prs 0 xs)[i]? = some none := e
    rw [prs_get] at e
    exact List.getElem?_eq_none_iff.mp (Option.map_eq_none_iff.mp (Option.some.inj e))
  · have e : some (prs 0 xs)[i]? = some (some w) := e
    rw [prs_get] at e
    obtain ⟨x, ex, rfl⟩ := Option.map_eq_some_iff.mp (Option.some.inj e)
    obtain ⟨v, e1, rv⟩ := r.get ex
    obtain ⟨g1, g2⟩ := j2 i v e1
    refine ⟨g1, fun y H'' yy => ?_⟩
    obtain ⟨T, u, rfl, hT, rfl, hu⟩ := g2 y H'' yy
    rw [Nat.zero_add]
    exact ⟨Stp.lay hT, hr.lay hT, .tup (.inl (AtT.lay hr hT hu)) two_le (.cons (.int _) (.cons ((rv.stepB st hB).step (Stp.lay hT)) .nil))⟩
theorem itR_enL {a : Addr} {xs : List Val} {vs : List V} (h : ∀ al' H', StpB B al H al' H' → SqL K H' a vs) (r : Reps K al B H xs vs) : ItR K B (IteL K a) (.st (prs 0 xs)) al H := by
  refine itR_en r fun al' H' st => ?_
  have q := h al' H' st
  exact ⟨fun i l => ⟨vs, q, l⟩, fun i v e => ⟨⟨vs, v, q, e⟩, fun y H'' ⟨T, u, x, e1, e2, e3, e5, e4⟩ => ⟨T, u, e1, e2, e3, by have := e4 vs q; rw [e] at this; cases this; exact e5⟩⟩⟩
theorem itR_enT {a : Addr} {xs : List Val} {vs : List V} (h : ∀ al' H', StpB B al H al' H' → SqT K H' a vs) (r : Reps K al B H xs vs) : ItR K B (IteT K a) (.st (prs 0 xs)) al H := by
  refine itR_en r fun al' H' st => ?_
  have q := h al' H' st
  exact ⟨fun i l => ⟨vs, q, l⟩, fun i v e => ⟨⟨vs, v, q, e⟩, fun y H'' ⟨T, u, x, e1, e2, e3, e5, e4⟩ => ⟨T, u, e1, e2, e3, by have := e4 vs q; rw [e] at this; cases this; exact e5⟩⟩⟩
theorem itR_den {n : Nat} {a : Addr} (e : al[n]? = some a) : ItR K B (IteL K a) (.den n) al H := by
  intro al' B' H' h' st hB hr i
  have e' := st.get e
  unfold nxt
  dsimp only
  cases e2 : h'[n]? with
  | none => exact ⟨fun z => by simp at z, fun w z => by simp at z⟩
  | some o =>
    cases o with
    | lst xs =>
      cases hr.ob _ _ _ e' e2 with
      | @lst _ _ vs q _ s =>
      refine ⟨fun z => ⟨vs, SqL.of q, ?_⟩, fun w z => ?_⟩
      · rw [← s.length]
        exact List.getElem?_eq_none_iff.mp (Option.map_eq_none_iff.mp (Option.some.inj z))
      · obtain ⟨x, ex, rfl⟩ := Option.map_eq_some_iff.mp (Option.some.inj z)
        obtain ⟨v, e1, rv⟩ := s.get ex
        refine ⟨⟨vs, v, SqL.of q, e1⟩, fun y H'' ⟨T, u, x2, z0, z1, z2, hu, z3⟩ => ?_⟩
        subst z0 z2
        have := z3 vs (SqL.of q)
        rw [e1] at this
        cases this
        exact ⟨Stp.lay z1, hr.lay z1, .tup (.inl (AtT.lay hr z1 hu)) two_le (.cons (.int _) (.cons (rv.step (Stp.lay z1)) .nil))⟩
    | dic _ => exact ⟨fun z => by simp at z, fun w z => by simp at z⟩
    | ins _ _ => exact ⟨fun z => by simp at z, fun w z => by simp at z⟩
end
def iEn (r : En → M (List Val)) : SI := fun ro => bind (r ro) fEn
theorem oi_en {X : Cx} {W : WX} {e : Expr} {r : En → M (List Val)} {p pos tpos : Pos} {elts : List Expr} {kk : Nat} (hg : Gl X "enumerate") (hm : X.mg "enumerate" = none) (ha : PA X [e] (tA X.K W r)) (hs : starEach [e] X.env = [(false, eval e X.env)] := by rfl) :
    PI X (.Tuple elts kk tpos) (.Call (.Name "enumerate" p) [e] [] pos) (tI X.K W (iEn r)) := by
  refine PI.weak (PI.or (pi_enumL hg hm ha hs) (pi_enumT hg hm ha hs)) ?_
  rintro sg H R ⟨al, B, ro, h, S, p⟩
  unfold iEn at p
  change Po _ _ _ _ _ _ (obind (r ro h) fEn) _ _ at p
  cases e1 : r ro h with
  | bad => rw [e1] at p; exact p.elim
  | ex ee h1 => rw [e1] at p; exact .inl ⟨al, B, ro, h, S, by rw [e1]; exact p⟩
  | ok ws h1 =>
    rw [e1, obind_ok] at p
    unfold fEn at p
    split at p
    · refine .inr ⟨al, B, ro, h, S, ?_⟩
      rw [e1]
      intro al' H' vs st hr rr
      obtain ⟨v, rfl, q⟩ := rr.one
      cases q with
      | @tup a _ us at' l s => exact ⟨a, us, rfl, sqT_of at', p al' H' _ st hr ⟨itR_enT (fun al2 H2 st2 => sqT_of (B := B) (at'.imp (AtT.stepB st2 fun _ hb => .inl hb) id)) s, l⟩⟩
    · refine .inl ⟨al, B, ro, h, S, ?_⟩
      rw [e1]
      intro al' H' vs st hr rr
      obtain ⟨v, rfl, q⟩ := rr.one
      cases q with
      | @lst a _ us at' l s => exact ⟨a, us, rfl, SqL.of at'.1, p al' H' _ st hr ⟨itR_enL (fun al2 H2 st2 => SqL.of (at'.stepW st2).1) s, l⟩⟩
    · refine .inl ⟨al, B, ro, h, S, ?_⟩
      rw [e1]
      intro al' H' vs st hr rr
      obtain ⟨v, rfl, q⟩ := rr.one
      cases q with
      | @scr a _ at' l => exact ⟨a, _, rfl, sqL_of at', p al' H' _ st hr ⟨itR_enL (fun al2 H2 st2 => sqL_of (B := B) (at'.imp (At.stepB st2 fun _ hb => .inl hb) id)) (Reps.ints _), l⟩⟩
    · refine .inl ⟨al, B, ro, h, S, ?_⟩
      rw [e1]
      intro al' H' vs st hr rr
      obtain ⟨v, rfl, q⟩ := rr.one
      cases q with
      | @ref _ a q =>
        split at p
        · rename_i xs e2
          cases hr.ob _ _ _ q e2 with
          | lst q2 l s => exact ⟨a, _, rfl, SqL.of q2, p al' H' _ st hr ⟨itR_den q, l⟩⟩
        · exact p.elim
    · exact p.elim
end Z
/-! ZS: len(set(t)) of a tuple of any number of texts. -/
namespace ZS
open PySem PySem.Spec PyProof.Rows
/-- how many different ones -/
def dcR : List Str → Nat
  | [] => 0
  | x :: r => if x ∈ r then dcR r else dcR r + 1
theorem dcR_le : ∀ r : List Str, dcR r ≤ r.length
  | [] => Nat.le_refl _
  | x :: r => by
    unfold dcR
    have := dcR_le r
    rw [List.length_cons]
    split <;> omega
theorem dcR_eq : ∀ r : List Str, dcR r = r.length ↔ r.Nodup
  | [] => by simp [dcR]
  | x :: r => by
    unfold dcR
    have := dcR_le r
    rw [List.length_cons, List.nodup_cons]
    split
    · rename_i h
      constructor
      · intro e; omega
      · intro e; exact absurd h e.1
    · rename_i h
      rw [← dcR_eq r]
      constructor
      · intro e; exact ⟨h, by omega⟩
      · intro e; omega
def dcnt (xs : List Str) : Nat := dcR xs.reverse
theorem dcnt_eq (xs : List Str) : dcnt xs = xs.length ↔ xs.Nodup := by
  unfold dcnt
  have h := dcR_eq xs.reverse
  rw [List.length_reverse] at h
  rw [h]
  exact ⟨fun h => (List.pairwise_reverse.mp h).imp fun h => Ne.symm h, fun h => List.pairwise_reverse.mpr (h.imp fun h => Ne.symm h)⟩
theorem dcnt_le (xs : List Str) : dcnt xs ≤ xs.length := by
  have h := dcR_le xs.reverse
  rw [List.length_reverse] at h
  exact h
section
variable {P : Program} {w : World} {A : Around} {R : Result → Shared → Prop} {I : Addr} {fp wr : List Addr} {G : Array GenState → Array GenState → Prop} {n : Nat} {Pv : Nat → Value → Prop} {St : Nat → Shared → Prop}
theorem many (W : WalksS P w A.in1 I fp wr G n Pv St) (S : Addr) (hSf : S ∉ fp) (xs : List Str) (hn : n = xs.length) (hb : xs.length + 1 < scanBound) (hval : ∀ i v, Pv i v → ∃ x t, xs[i]? = some x ∧ v = .str x t) :
    ∀ (k i : Nat) (s : Shared), n - i = k → i ≤ n → St i s → s.heap.SetOf (strKind P w) S (fun j => decide (j ∈ xs.take i)) (dcnt (xs.take i)) →
      (∀ s', Moved (S :: wr) G s s' → s'.heap.SetOf (strKind P w) S (fun j => decide (j ∈ xs)) (dcnt xs) → R (.ok (.ret .none)) s') →
      codeAny (model P w) A (.builtin "set.update.loop" ⟨[.ref S, .ref I], []⟩) R s := by
  have out : S ∉ wr := fun h => hSf (W.sub _ h)
  have up : ∀ b ∈ wr, b ∈ S :: wr := fun b hb => List.mem_cons_of_mem _ hb
  intro k
  induction k with
  | zero =>
    intro i s _ hi st hS hR
    obtain rfl : i = n := by omega
    refine codeAny_builtin PyProof.Rows.F.entry_set_update_loop ?_
    rw [Around.under_plainId PyProof.Rows.F.plain_set_update_loop _]
    refine wpAny_bind (m := pyNext (.ref I)) (W.done s _ _ st fun s' hm => ?_)
    have e : xs.take i = xs := List.take_of_length_le (by omega)
    rw [e] at hS
    refine wpAny_pure (a := PySem.Fin.done (.ret Value.none)) (hR s' (hm.mono up) ?_)
    obtain ⟨o, es, ep, t, ho, rest⟩ := hS
    exact ⟨o, es, ep, t, hm.heap S _ out ho, rest⟩
  | succ k ih =>
    intro i s hk hi st hS hR
    have lt : i < n := by omega
    refine codeAny_builtin PyProof.Rows.F.entry_set_update_loop ?_
    rw [Around.under_plainId PyProof.Rows.F.plain_set_update_loop _]
    refine wpAny_bind (m := pyNext (.ref I)) (W.item i s _ _ lt st fun v s1 hP st1 hm => ?_)
    obtain ⟨x, t, hx, rfl⟩ := hval i v hP
    have hS1 : s1.heap.SetOf (strKind P w) S (fun j => decide (j ∈ xs.take i)) (dcnt (xs.take i)) := by
      obtain ⟨o, es, ep, tb, ho, rest⟩ := hS
      exact ⟨o, es, ep, tb, hm.heap S _ out ho, rest⟩
    have room : dcnt (xs.take i) + 1 < scanBound := by
      have := dcnt_le (xs.take i)
      have : (xs.take i).length ≤ xs.length := by rw [List.length_take]; omega
      omega
    refine wpAny_bind (m := holding [Value.str x t] (setAdd S (.str x t))) (wpAny_holding ?_)
    unfold setAdd
    refine wpAny_holding (wpAny_bind ((strKind P w).pyHash (k := x) (strKind_is _ _ _ _) ?_))
    refine wpAny_setAddHashed_of (knd := strKind P w) (s := { s1 with toks := s1.toks + 1 }) (strKind_is _ _ _ _) rfl hS1 room fun h2 sb hS2 => ?_
    have hS3 : h2.SetOf (strKind P w) S (fun j => decide (j ∈ xs.take (i + 1))) (dcnt (xs.take (i + 1))) := by
      refine SetOf_congr hS2 (fun j => ?_) ?_
      · rw [List.take_add_one, hx]; simp [List.mem_append]
      · rw [List.take_add_one, hx]
        show _ = dcR ((xs.take i) ++ [x]).reverse
        rw [List.reverse_append]
        show _ = dcR (x :: (xs.take i).reverse)
        unfold dcR
        simp only [List.mem_reverse, decide_eq_true_eq]
        rfl
    refine wpAny_pure ⟨plainId_quiet PyProof.Rows.F.plain_set_update_loop _, ih (i + 1) _ (by omega) lt (W.frame _ s1 _ _ st1 (Nat.le_succ _) fun b hb o e => ?_) hS3 fun s3 hm3 hS4 => ?_⟩
    · rw [sb.2 b (fun h : b = S => hSf (by rw [← h]; exact hb))]; exact e
    · refine hR s3 (Moved.trans W.gtrans ((hm.mono up).then_heap (Nat.le_succ _) fun b o hb e => ?_) hm3) hS4
      rw [sb.2 b (fun h : b = S => hb (by rw [h]; exact List.mem_cons_self))]; exact e
end
section
variable {P : Program} {w : World} {A : Around} {E : Value → Shared → Prop} {s : Shared}
set_option maxHeartbeats 3200000 in
theorem set_tup {l : Addr} {items : Array Value} {xs : List Str} {Q : Value → Shared → Prop} (hh : A.handled = none) (hl : s.heap.IsTuple l items) (hi : StrsAre items.toList xs) (hb : xs.length + 1 < scanBound)
    (h : ∀ (h' : Heap) (tk : Nat), h'.SetOf (strKind P w) s.heap.objs.size (fun j => decide (j ∈ xs)) (dcnt xs) → (∀ b o, b < s.heap.objs.size → s.heap.get? b = some o → h'.get? b = some o) → Q (.ref s.heap.objs.size) { s with heap := h', toks := tk }) :
    wpAny (model P w) A (call (.type "set") [.ref l]) Q E s := by
  obtain ⟨c, tl, hmro⟩ := PySem.F.called_set.mro
  have f1 := PySem.F.called_set.made
  have f2 := PySem.F.called_set.sub
  have f3 := PySem.F.called_set.notType
  have f4 := PySem.F.called_set.canCreate
  have f5 := PySem.F.typeCall_set_1 (.ref l)
  have hsz : items.size = xs.length := by rw [← StrsAre.len_eq hi, Array.length_toList]
  have hval : ∀ (i : Nat) (v : Value), items[i]? = some v → ∃ x t, xs[i]? = some x ∧ v = .str x t := fun i v hv => by
    obtain ⟨t, e⟩ := SS.strs_at hi i v (by rw [Array.getElem?_toList]; exact hv)
    have lt : i < xs.length := by rw [← hsz]; exact (Array.getElem?_eq_some_iff.mp hv).1
    refine ⟨xs[i], t, List.getElem?_eq_getElem lt, ?_⟩
    rw [e, List.getD_eq_getElem?_getD, List.getElem?_eq_getElem lt] <;> rfl
  refine wpAny_call (codeAny_of_tree ?_)
  refine wpAny_pure (a := _) ⟨Code.quiet_builtin _ (by decide +kernel), codeAny_builtin PySem.F.entry_type_call ?_⟩
  rw [Around.under_plain (weight_type_call_type "set" [.ref l] []) rfl]
  repeat (any_goals (first | assumption | wp_step))
  refine codeAny_mono (code_set_new_1 (.ref l) (E := E) (Q₁ := fun v s₁ => ∃ led : Bool, v = .ref s.heap.objs.size ∧ s₁ = { s with heap := s.heap.push { cls := .type "set", dict := none, data := .set #[] 0 (.fresh 0 0 led) } }) fun led => ⟨led, rfl, rfl⟩) fun r s₁ hr => ?_
  match r, hr with
  | .error e, hr => exact hr
  | .ok .next, hr => exact hr.elim
  | .ok .brk, hr => exact hr.elim
  | .ok .cont, hr => exact hr.elim
  | .ok (.ret v), hr =>
  obtain ⟨led, rfl, rfl⟩ := hr
  have hS : (s.heap.push { cls := .type "set", dict := none, data := .set #[] 0 (.fresh 0 0 led) }).get? s.heap.objs.size = some { cls := .type "set", dict := none, data := .set #[] 0 (.fresh 0 0 led) } := Heap.get?_push_size _ rfl
  have hT : Shared.TypeIs { s with heap := s.heap.push { cls := .type "set", dict := none, data := .set #[] 0 (.fresh 0 0 led) } } (.ref s.heap.objs.size) "set" := ⟨_, hS, rfl⟩
  have f6 := PySem.F.called_set.init.lookup
  have f7 := PySem.F.called_set.init.bind (.ref s.heap.objs.size)
  repeat (any_goals (first | assumption | wp_step))
  refine codeAny_mono (codeAny_call_builtin (R := wants (fun r s₂ => r = .none ∧ ∃ h' tk, s₂ = { s with heap := h', toks := tk } ∧ h'.SetOf (strKind P w) s.heap.objs.size (fun j => decide (j ∈ xs)) (dcnt xs) ∧
    (∀ b o, b < s.heap.objs.size → s.heap.get? b = some o → h'.get? b = some o)) E) PySem.F.called_set.init.plain PySem.F.entry_set_init (check_set_init_1 hT ?_)) fun r₂ s₂ hr₂ => ?_
  · have hl1 : (s.heap.push { cls := .type "set", dict := none, data := .set #[] 0 (.fresh 0 0 led) }).IsTuple l items := hl.push _
    obtain ⟨⟨oc, od, dt, sl⟩, ho, h1, nl, h2⟩ := id hl1
    have hlS : l < s.heap.objs.size := by obtain ⟨_, e, _⟩ := hl; exact Heap.lt_size e
    simp only at h1 h2
    subst h1; subst h2
    have g1 := PySem.F.sub_tuple_set
    have g2 := PySem.F.sub_tuple_frozenset
    have g3 : (Value.type "tuple" == Value.type "dict") = false := by decide
    unfold Builtin.«set.__init__» noKeywords Builtin.Frozenset.updateFrom
    generalize hPI : pyIter = PI
    wp_walk
    subst hPI
    refine wpAny_pyIter_tuple (s := { s with heap := s.heap.push { cls := .type "set", dict := none, data := .set #[] 0 (.fresh 0 0 led) } }) hl1 ?_
    refine wpAny_bind (wpAny_runValue ?_)
    have z1 : (s.heap.push { cls := .type "set", dict := none, data := .set #[] 0 (.fresh 0 0 led) }).objs.size = s.heap.objs.size + 1 := Heap.size_push ..
    have ne1 : l ≠ (s.heap.push { cls := .type "set", dict := none, data := .set #[] 0 (.fresh 0 0 led) }).objs.size := by rw [z1]; exact Nat.ne_of_lt (Nat.lt_succ_of_lt hlS)
    have ne2 : s.heap.objs.size ∉ [(s.heap.push { cls := .type "set", dict := none, data := .set #[] 0 (.fresh 0 0 led) }).objs.size, l] := by
      rw [z1]
      simp only [List.mem_cons, List.not_mem_nil, or_false, not_or]
      exact ⟨Nat.ne_of_lt (Nat.lt_succ_self _), Nat.ne_of_gt hlS⟩
    have hh3 : A.in1.in1.in1.handled = none := by simp [hh]
    refine many ((Walks.tuple hh3 _ l ne1 items).toS) s.heap.objs.size ne2 xs hsz hb hval (items.size - 0) 0 _ (by omega) (Nat.zero_le _) ⟨⟨_, Heap.get?_push_size _ rfl, rfl, rfl⟩, hl1.push _⟩ ?_ ?_
    · have hget : ((s.heap.push { cls := .type "set", dict := none, data := .set #[] 0 (.fresh 0 0 led) }).push { cls := .type "tuple_iterator", data := .fields #[.ref l, .int 0 0] }).get? s.heap.objs.size = some { cls := .type "set", dict := none, data := .set #[] 0 (.fresh 0 0 led) } := Heap.get?_push_of_some _ hS
      exact SetOf_congr ((setObjOf_fresh (knd := strKind P w) led).setOf hget (by decide)) (fun _ => by simp) rfl
    · rintro ⟨h', g', d', tk', os'⟩ hm hS'
      obtain rfl : g' = s.gens := hm.gens
      obtain rfl : d' = s.drawn := hm.drawn
      obtain rfl : os' = s.os := hm.os
      refine wpAny_pure ?_
      refine wpAny_pure ⟨rfl, h', tk', rfl, hS', fun b o hb e => ?_⟩
      refine hm.heap b o ?_ (Heap.get?_push_of_some _ (Heap.get?_push_of_some _ e))
      rw [z1]
      simp only [List.mem_cons, List.not_mem_nil, or_false, not_or]
      exact ⟨Nat.ne_of_lt hb, Nat.ne_of_lt (Nat.lt_succ_of_lt hb)⟩
  · match r₂, hr₂ with
    | .error e, hr => exact hr
    | .ok .next, hr => exact hr.elim
    | .ok .brk, hr => exact hr.elim
    | .ok .cont, hr => exact hr.elim
    | .ok (.ret v), hr =>
      obtain ⟨rfl, h', tk, rfl, hS', hk'⟩ := hr
      repeat (any_goals (first | assumption | wp_step))
      exact h _ _ hS' hk'
end
end ZS
namespace Z
open PySem PySem.Spec PyProof.Rows L2
/-- len(set(t)), t a tuple of texts -/
def tLenSets (K : PySem.W.Frag) (ta : TE) : TE := fun σ H Q => ta σ H fun x H1 => ∃ l, ∃ xs : List Str, x = .ref l ∧ SqT K H1 l (xs.map V.str) ∧ xs.length + 1 < scanBound ∧ Q (.int (ZS.dcnt xs : Nat)) H1
theorem pe_lenSets {X : Cx} {a : Expr} {ta : TE} {p p2 q pos : Pos} (hc : X.calm = true) (hg : Gl X "len") (hm : X.mg "len" = none) (hg2 : Gl X "set") (hm2 : X.mg "set" = none) (ha : PE X a ta)
    (na : starEach [a] X.env = (false, eval a X.env) :: starEach [] X.env := by rfl) : PE X (.Call (.Name "len" p) [.Call (.Name "set" p2) [a] [] q] [] pos) (tLenSets X.K ta) := by
  refine ⟨fun pins s σ H Q I h => ?_⟩
  refine Call_ (ld_blt I hg hm boot_len ?_)
  refine PyProof.Rows.callWith_builtin1 (PyProof.Rows.args_cons ?_ rfl) rfl rfl
  refine Call_ (ld_blt I hg2 hm2 boot_set ?_)
  refine PyProof.Rows.callWith_type1 (PyProof.Rows.args_cons (thn (ha.run pins s σ H _ I h) fun v s1 ⟨x, H1, I1, r1, q1⟩ => PyProof.Rows.args_nil ?_) na) na rfl
  obtain ⟨l, xs, rfl, hq, hb, q1⟩ := q1
  cases r1
  obtain ⟨its, r, pl, hz⟩ := I1.tuple hq
  refine ZS.set_tup (I1.ok.hd hc) pl (by simpa using strsAre_of r) hb fun h' tk hS hk => ?_
  refine PyProof.Rows.args_nil ?_
  obtain ⟨o, es, ep, t, ho, hex, hd, _, _, _, hf, hn⟩ := hS
  have I2 : Inv X pins σ H1 { s1 with heap := h', toks := tk } := I1.kept fun b o e => hk b o (Heap.lt_size e) e
  have hle := ZS.dcnt_le xs
  unfold scanBound at hb
  refine call_len_set ho hex hd hf (by rw [hn]; omega) ⟨.int (ZS.dcnt xs : Nat), H1, I2.tok _, ⟨_, by rw [hn]⟩, q1⟩
end Z
/-! Z7: built-ins, methods, stores to a[i], chains of comparisons. -/
namespace Z
open PySem PySem.Spec PyProof.Rows L2
section
variable {K : PySem.W.Frag}
/-! ### operators' rules, as they are asked for -/
def rAddZ (K : PySem.W.Frag) : R2 := fun x y H Q => rI0 (fun i j => .int (i + j)) x y H Q ∨ (∃ i j, x = .str i ∧ y = .str j ∧ i.length + j.length ≤ sizeLine ∧ Q (.str (i ++ j)) H) ∨ rCatF K x y H Q ∨ rCat x y H Q
theorem op_addZ {X : Cx} : OpR X (binaryOp .Add) (rAddZ X.K) := OpR.or4 op_add op_add_str op_catF op_cat
theorem op_mulZ {X : Cx} : OpR X (binaryOp .Mult) (fun x y H Q => rI CMul (fun i j => .int (i * j)) x y H Q ∨ rI CMulW (fun i j => .int (i * j)) x y H Q) := op_mul.or op_mulW
theorem op_divZ {X : Cx} : OpR X (binaryOp .FloorDiv) (fun x y H Q => rI CDivW (fun i j => .int (i / j)) x y H Q ∨ rI CDivN (fun i j => .int (i.fdiv j)) x y H Q) := op_fdivW.or op_fdivN
theorem op_modZ {X : Cx} : OpR X (binaryOp .Mod) (fun x y H Q => rI (fun _ j => 0 < j) (fun i j => .int (i % j)) x y H Q ∨ rI (fun _ j => j ≠ 0) (fun i j => .int (i.fmod j)) x y H Q) := op_mod.or op_modN
theorem op_eqZ {X : Cx} (hu : X.A.units + 64 < cLine) : OpR X (compareOp .Eq) (fun x y H Q => rEq x y H Q ∨ rEqM X.K false x y H Q) := op_eq.or (op_eqM hu)
theorem op_neZ {X : Cx} (hu : X.A.units + 64 < cLine) : OpR X (compareOp .NotEq) (fun x y H Q => rNe x y H Q ∨ rEqM X.K true x y H Q) := op_ne.or (op_neM hu)
/-! ### isinstance -/
def tyOf (w : Val) (h : HH) : Option String := match w with
  | .non => some "NoneType"
  | .bl _ => some "bool"
  | .int _ => some "int"
  | .str _ => some "str"
  | .tup _ => some "tuple"
  | .lst _ => some "list"
  | .scr _ => some "list"
  | .ref n => match h[n]? with
    | some (.lst _) => some "list"
    | some (.dic _) => some "dict"
    | _ => none
  | _ => none
theorem ty_rep {al B : List Addr} {H : Hp} {h : HH} {w : Val} {v : V} {T : String} (hr : HR K al B H h) (r : Rep K al B H w v) (e : tyOf w h = some T) : TyX K H v (.type T) := by
  cases r with
  | non => cases e; exact .base .non
  | bl b => cases e; exact .base (.bl b)
  | int i => cases e; exact .base (.int i)
  | str x => cases e; exact .base (.str x)
  | tup a l s =>
    cases e
    rcases a with ⟨u, ⟨q, _⟩, o, rfl, _⟩ | ⟨o, its, n, e, c, _⟩
    · exact .fTuple q
    · exact .kTuple e c
  | lst a l s => cases e; exact .base (.lst a.1)
  | scr a l =>
    cases e
    rcases a with ⟨q | ⟨o, q⟩, _⟩ | ⟨o, its, n, e, c, _⟩
    · exact .base (.lst q)
    · exact .base (.frz q)
    · exact .kList e c
  | exn => cases e
  | ref q =>
    unfold tyOf at e
    dsimp only at e
    split at e
    · rename_i e2
      cases e
      cases hr.ob _ _ _ q e2 with
      | lst q _ s => exact .base (.lst q)
    · rename_i e2
      cases e
      cases hr.ob _ _ _ q e2 with
      | dic q _ s => exact .base (.dK q)
    · cases e
  | glo => cases e
  | ty => cases e
def isA (a b : String) : Option Bool := if ["NoneType", "bool", "int", "str", "tuple", "list", "dict"].contains a = true ∧ ["bool", "int", "str", "tuple", "list", "dict"].contains b = true then some (a == b || (a == "bool" && b == "int")) else none
theorem isA_kit {a b : String} {r : Bool} (h : isA a b = some r) : kitB a b = some r := by
  unfold isA at h
  split at h
  · rename_i c
    obtain ⟨c1, c2⟩ := c
    simp only [List.contains_eq_mem, List.mem_cons, List.not_mem_nil, or_false, decide_eq_true_eq] at c1 c2
    cases h
    rcases c1 with rfl | rfl | rfl | rfl | rfl | rfl | rfl <;> rcases c2 with rfl | rfl | rfl | rfl | rfl | rfl <;> decide +kernel
  · cases h
def fIsi (ws : List Val) : M Val := fun h => match ws with
  | [w, .ty T] => match tyOf w h with
    | some S => match isA S T with
      | some b => .ok (.bl b) h
      | none => .bad
    | none => .bad
  | _ => .bad
theorem lk_isi : Lks K fIsi (rIsi K) := by
  intro W al B sg H h ws vs Q hr r p
  unfold fIsi at p
  split at p
  · obtain ⟨v, v2, rfl, r1, r2⟩ := r.two
    cases r2
    split at p
    · rename_i e
      split at p
      · rename_i e2
        exact ⟨_, _, _, _, _, rfl, .ty _, ty_rep hr r1 e, kit_ty (isA_kit e2), Po.now p hr (.bl _)⟩
      · exact p.elim
    · exact p.elim
  · exact p.elim
/-! ### len, abs, int, bool, max, min -/
def fLen (ws : List Val) : M Val := fun h => match ws with
  | [.str x] => if x.length ≤ sizeLine then .ok (.int (x.length : Nat)) h else .bad
  | [w] => match items w h with
    | some xs => .ok (.int (xs.length : Nat)) h
    | none => .bad
  | _ => .bad
theorem lk_len : Lks K fLen (fun xs H Q => ∃ x n, xs = [x] ∧ LenV K x H n ∧ Q (.int n) H) := by
  intro W al B sg H h ws vs Q hr r p
  unfold fLen at p
  split at p
  · obtain ⟨v, rfl, r1⟩ := r.one
    cases r1
    split at p
    · rename_i l
      exact ⟨_, _, rfl, ⟨l, rfl⟩, Po.now p hr (.int _)⟩
    · exact p.elim
  · obtain ⟨v, rfl, r1⟩ := r.one
    split at p
    · rename_i xs e
      obtain ⟨a, us, rfl, q, s⟩ := items_sq hr r1 e
      refine ⟨_, _, rfl, ?_, Po.now p hr (.int _)⟩
      rw [s.length]
      rcases q with q | q
      · exact .inl ⟨us, q, rfl⟩
      · exact .inr ⟨us, q, rfl⟩
    · exact p.elim
  · exact p.elim
def fAbs (ws : List Val) : M Val := fun h => match ws with
  | [.int i] => .ok (.int (if i < 0 then -i else i)) h
  | _ => .bad
theorem lk_abs : Lks K fAbs (fun xs H Q => ∃ i, xs = [.int i] ∧ Q (.int (if i < 0 then -i else i)) H) := by
  intro W al B sg H h ws vs Q hr r p
  unfold fAbs at p
  split at p
  · obtain ⟨v, rfl, r1⟩ := r.one
    cases r1
    exact ⟨_, rfl, Po.now p hr (.int _)⟩
  · exact p.elim
def fMax (ws : List Val) : M Val := fun h => match ws with
  | [.int i, .int j] => .ok (.int (if j > i then j else i)) h
  | _ => .bad
theorem lk_max : Lks K fMax (fun xs H Q => ∃ i j, xs = [.int i, .int j] ∧ Q (.int (if j > i then j else i)) H) := by
  intro W al B sg H h ws vs Q hr r p
  unfold fMax at p
  split at p
  · obtain ⟨v, v2, rfl, r1, r2⟩ := r.two
    cases r1; cases r2
    exact ⟨_, _, rfl, Po.now p hr (.int _)⟩
  · exact p.elim
def fMin (ws : List Val) : M Val := fun h => match ws with
  | [.int i, .int j] => .ok (.int (if j < i then j else i)) h
  | _ => .bad
theorem lk_min : Lks K fMin (fun xs H Q => ∃ i j, xs = [.int i, .int j] ∧ Q (.int (if j < i then j else i)) H) := by
  intro W al B sg H h ws vs Q hr r p
  unfold fMin at p
  split at p
  · obtain ⟨v, v2, rfl, r1, r2⟩ := r.two
    cases r1; cases r2
    exact ⟨_, _, rfl, Po.now p hr (.int _)⟩
  · exact p.elim
def fInt (ws : List Val) : M Val := fun h => match ws with
  | [.int i] => .ok (.int i) h
  | [.bl b] => .ok (.int (if b then 1 else 0)) h
  | _ => .bad
theorem lk_int : Lks K fInt (fun xs H Q => (∃ i, xs = [.int i] ∧ Q (.int i) H) ∨ ∃ k, xs = [.bl k] ∧ Q (.int (if k then 1 else 0)) H) := by
  intro W al B sg H h ws vs Q hr r p
  unfold fInt at p
  split at p
  · obtain ⟨v, rfl, r1⟩ := r.one
    cases r1
    exact .inl ⟨_, rfl, Po.now p hr (.int _)⟩
  · obtain ⟨v, rfl, r1⟩ := r.one
    cases r1
    exact .inr ⟨_, rfl, Po.now p hr (.int _)⟩
  · exact p.elim
/-! ### all, any of a list of truths -/
def bls : List Val → Option (List Bool)
  | [] => some []
  | .bl b :: xs => (bls xs).map (b :: ·)
  | _ :: _ => none
theorem bls_rep {al B : List Addr} {H : Hp} : ∀ {xs : List Val} {vs : List V} {bs : List Bool}, Reps K al B H xs vs → bls xs = some bs → vs = bs.map V.bl
  | _, _, _, .nil, e => by cases e; rfl
  | _, _, _, .cons a r, e => by
    cases a with
    | bl b =>
      unfold bls at e
      obtain ⟨cs, e2, rfl⟩ := Option.map_eq_some_iff.mp e
      rw [bls_rep r e2]
      rfl
    | _ => cases e
def fAll (ws : List Val) : M Val := fun h => match ws with
  | [w] => match lsts w h with
    | some xs => match bls xs with
      | some bs => .ok (.bl (bs.all id)) h
      | none => .bad
    | none => .bad
  | _ => .bad
theorem lk_all : Lks K fAll (rAll K) := by
  intro W al B sg H h ws vs Q hr r p
  unfold fAll at p
  split at p
  · obtain ⟨v, rfl, r1⟩ := r.one
    split at p
    · rename_i xs e
      obtain ⟨a, us, rfl, q, _, s⟩ := lsts_at hr r1 e
      split at p
      · rename_i bs e2
        have := bls_rep s e2
        subst this
        exact ⟨a, bs, rfl, SqL.of q, Po.now p hr (.bl _)⟩
      · exact p.elim
    · exact p.elim
  · exact p.elim
/-! ### tuple(x), list(x) -/
def fTpl (ws : List Val) : M Val := fun h => match ws with
  | [.tup xs] => .ok (.tup xs) h
  | [.lst xs] => .ok (.tup xs) h
  | [.scr ns] => .ok (.tup (ns.map Val.int)) h
  | [.ref n] => match h[n]? with
    | some (.lst xs) => .ok (.tup xs) h
    | _ => .bad
  | _ => .bad
theorem lk_tpl : Lks K fTpl (fun xs H Q => ∃ p ys, xs = [.ref p] ∧ ((SqL K H p ys ∧ ∀ l u, H l = none → FT u ys → Q (.ref l) (upd H l u)) ∨ (SqT K H p ys ∧ Q (.ref p) H))) := by
  intro W al B sg H h ws vs Q hr r p
  unfold fTpl at p
  split at p
  · obtain ⟨v, rfl, r1⟩ := r.one
    cases r1 with
    | tup a l s => exact ⟨_, _, rfl, .inr ⟨sqT_of a, Po.now p hr (.tup a l s)⟩⟩
  · obtain ⟨v, rfl, r1⟩ := r.one
    cases r1 with
    | lst a l s => exact ⟨_, _, rfl, .inl ⟨SqL.of a.1, fun q u hq hu => p _ _ _ (Stp.lay hq) (hr.lay hq) (.tup (.inl (AtT.lay hr hq hu)) l (s.step (Stp.lay hq)))⟩⟩
  · obtain ⟨v, rfl, r1⟩ := r.one
    cases r1 with
    | scr a l => exact ⟨_, _, rfl, .inl ⟨sqL_of a, fun q u hq hu => p _ _ _ (Stp.lay hq) (hr.lay hq) (.tup (.inl (AtT.lay hr hq hu)) (by rw [List.length_map]; exact l) (Reps.ints _))⟩⟩
  · obtain ⟨v, rfl, r1⟩ := r.one
    cases r1 with
    | ref q =>
      split at p
      · rename_i e2
        cases hr.ob _ _ _ q e2 with
        | lst q l s => exact ⟨_, _, rfl, .inl ⟨SqL.of q, fun q u hq hu => p _ _ _ (Stp.lay hq) (hr.lay hq) (.tup (.inl (AtT.lay hr hq hu)) l (s.step (Stp.lay hq)))⟩⟩
      · exact p.elim
  · exact p.elim
end
/-! ### methods of lists -/
section
variable {X : Cx} {W : WX} {o e : Expr} {es : List Expr} {mo m : SE} {ra : En → M (List Val)} {name : Str} {T id : String} {apos cpos pos : Pos}
def sMtL (f : Val → List Val → M Val) (mo : SE) (ra : En → M (List Val)) : SE := fun ro => bind (mo ro) fun w h => match w with
  | .ref n => match h[n]? with
    | some (.lst _) => bind (ra ro) (fun ws => f (.ref n) ws) h
    | _ => .bad
  | _ => .bad
theorem tyV_own {K : PySem.W.Frag} {al B : List Addr} {H : Hp} {h : HH} {n : Nat} {xs : List Val} {v : V} (hr : HR K al B H h) (r : Rep K al B H (.ref n) v) (e : h[n]? = some (.lst xs)) : tyV K "list" v H := by
  cases r with
  | ref q =>
    cases hr.ob _ _ _ q e with
    | lst q _ s => exact .inl ⟨rfl, _, SqL.of q⟩
theorem oe_mtL {r : V → List V → Hp → VK → Prop} {f : Val → List Val → M Val} (slot : Slot "list" name id) (hty : typeOf (.builtin id) = pure (.type "method_descriptor")) (hm : MtR X id r)
    (lk : ∀ (W : WX) al B sg H h w v ws vs (Q : VK), HR X.K al B H h → Rep X.K al B H w v → Reps X.K al B H ws vs → Po X.K B (fun al H => Rep X.K al B H) sg al H (f w ws h) W Q → r v vs H Q)
    (ho : PE X o (tE X.K W mo)) (ha : PA X (e :: es) (tA X.K W ra))
    (hbase : attributeBase o name X.env (eval o X.env) = eval o X.env := by rfl)
    (hfew : ((backTo cpos (starEach (e :: es) X.env)).all (fun x => !x.1) && (backToKw cpos (keywordEach [] X.env)).all (fun x => x.1.isSome)
      && decide ((e :: es).length + ([] : List Keyword).length + (if ([] : List Keyword).isEmpty then 0 else 1) < 30)) = true := by rfl)
    (hline : (apos.endLine == cpos.line) = true := by rfl) (hs : starEach (e :: es) X.env = (false, eval e X.env) :: starEach es X.env := by rfl) (hplain : (backTo cpos (starEach es X.env)).any (·.1) = false := by rfl) :
    PE X (.Call (.Attribute o name apos) (e :: es) [] cpos) (tE X.K W (sMtL f mo ra)) := by
  refine PE.weak (pe_bm PySem.F.plainAttrs_list slot hty hm ho ha hbase hfew hline hs hplain) ?_
  rintro sg H Q ⟨al, B, ro, h, S, p⟩
  refine ⟨al, B, ro, h, S, Po.mono (Po.bind p) fun v H1 ⟨al1, h1, w, st, hr, r1, q⟩ => ?_⟩
  split at q
  · rename_i n
    split at q
    · rename_i xs e2
      refine ⟨tyV_own hr r1 e2, al1, B, ro, h1, S.step st hr, Po.mono (Po.bind q) fun vs H2 ⟨al2, h2, ws, st2, hr2, rs, q2⟩ => ?_⟩
      exact lk W al2 B sg H2 h2 _ v ws vs Q hr2 (r1.step st2) rs q2
    · exact q.elim
  · exact q.elim
/-- the own list at n becomes xs -/
def putL (n : Nat) (xs : List Val) (w : Val) : M Val := fun h => if xs.length ≤ sizeLine then .ok w (h.set n (.lst xs)) else .bad
theorem put_own {K : PySem.W.Frag} {al B : List Addr} {H : Hp} {h : HH} {n : Nat} {a : Addr} {xs : List Val} {vs : List V} {W : WX} {sg : L2.St} {Q : VK} {w : Val} {v : V} (hr : HR K al B H h) (e : al[n]? = some a) (r : Reps K al B H xs vs) (rw' : Rep K al B H w v)
    (p : Po K B (fun al H => Rep K al B H) sg al H (putL n xs w h) W Q) : Q v (upd H a (.lst vs)) := by
  unfold putL at p
  split at p
  · rename_i l
    have s : Stp al H al (upd H a (.lst vs)) := Stp.put (List.mem_of_getElem? e)
    exact p _ _ _ s (hr.put e (.lst upd_same l (r.step s))) (rw'.step s)
  · exact p.elim
def mApp (w : Val) (ws : List Val) : M Val := fun h => match w, ws with
  | .ref n, [y] => match h[n]? with
    | some (.lst xs) => putL n (xs ++ [y]) .non h
    | _ => .bad
  | _, _ => .bad
theorem lk_app {K : PySem.W.Frag} : ∀ (W : WX) al B sg H h w v ws vs (Q : VK), HR K al B H h → Rep K al B H w v → Reps K al B H ws vs → Po K B (fun al H => Rep K al B H) sg al H (mApp w ws h) W Q → rAppend v vs H Q := by
  intro W al B sg H h w v ws vs Q hr r rs p
  unfold mApp at p
  split at p
  · split at p
    · rename_i e
      obtain ⟨y, rfl, ry⟩ := rs.one
      cases r with
      | ref q =>
        cases hr.ob _ _ _ q e with
        | lst q2 l s =>
          refine ⟨_, _, _, rfl, rfl, q2, ?_, put_own hr q (s.append (.cons ry .nil)) .non p⟩
          unfold putL at p
          split at p
          · rename_i l2
            rw [List.length_append, List.length_singleton] at l2
            rw [← s.length]
            omega
          · exact p.elim
    · exact p.elim
  · exact p.elim
/-! ### t.count(x) -/
def sMtT (f : Val → List Val → M Val) (mo : SE) (ra : En → M (List Val)) : SE := fun ro => bind (mo ro) fun w h => match w with
  | .tup xs => bind (ra ro) (fun ws => f (.tup xs) ws) h
  | _ => .bad
/-! ### len(set(t)) -/
def txts : List Val → Option (List Str)
  | [] => some []
  | .str x :: xs => (txts xs).map (x :: ·)
  | _ :: _ => none
theorem txts_rep {K : PySem.W.Frag} {al B : List Addr} {H : Hp} : ∀ {xs : List Val} {vs : List V} {ys : List Str}, Reps K al B H xs vs → txts xs = some ys → vs = ys.map V.str
  | _, _, _, .nil, e => by cases e; rfl
  | _, _, _, .cons a r, e => by
    cases a with
    | str b =>
      unfold txts at e
      obtain ⟨cs, e2, rfl⟩ := Option.map_eq_some_iff.mp e
      rw [txts_rep r e2]
      rfl
    | _ => cases e
theorem txts_len : ∀ {xs : List Val} {ys : List Str}, txts xs = some ys → xs.length = ys.length
  | [], _, e => by cases e; rfl
  | .str x :: xs, _, e => by
    unfold txts at e
    obtain ⟨cs, e2, rfl⟩ := Option.map_eq_some_iff.mp e
    rw [List.length_cons, List.length_cons, txts_len e2]
  | .non :: _, _, e => by cases e
  | .bl _ :: _, _, e => by cases e
  | .int _ :: _, _, e => by cases e
  | .tup _ :: _, _, e => by cases e
  | .lst _ :: _, _, e => by cases e
  | .ref _ :: _, _, e => by cases e
  | .glo _ :: _, _, e => by cases e
  | .ty _ :: _, _, e => by cases e
  | .scr _ :: _, _, e => by cases e
  | .exn _ _ _ _ :: _, _, e => by cases e
def uLset (w : Val) : M Val := fun h => match w with
  | .tup xs => match txts xs with
    | some ys => if ys.length + 1 < scanBound then .ok (.int (ZS.dcnt ys : Nat)) h else .bad
    | none => .bad
  | _ => .bad
theorem oe_lset {a : Expr} {p p2 q : Pos} (hc : X.calm = true) (hg : Gl X "len") (hm : X.mg "len" = none) (hg2 : Gl X "set") (hm2 : X.mg "set" = none) (ha : PE X a (tE X.K W m))
    (na : starEach [a] X.env = (false, eval a X.env) :: starEach [] X.env := by rfl) : PE X (.Call (.Name "len" p) [.Call (.Name "set" p2) [a] [] q] [] pos) (tE X.K W (sUn uLset m)) := by
  refine PE.weak (pe_lenSets hc hg hm hg2 hm2 ha na) ?_
  rintro sg H Q ⟨al, B, ro, h, S, p⟩
  refine ⟨al, B, ro, h, S, Po.mono (Po.bind p) fun v H1 ⟨al1, h1, w, st, hr, r1, q⟩ => ?_⟩
  unfold uLset at q
  split at q
  · cases r1 with
    | tup a l s =>
      split at q
      · rename_i e
        split at q
        · rename_i c
          have := txts_rep s e
          subst this
          exact ⟨_, _, rfl, sqT_of a, c, Po.now q hr (.int _)⟩
        · exact q.elim
      · exact q.elim
  · exact q.elim
/-! ### o[i] = v, o an own list -/
def gSb (mo mi : SE) : GM := fun w ro h => match mo ro h with
  | .ok (.ref n) h1 => match mi ro h1 with
    | .ok (.int i) h2 => match h2[n]? with
      | some (.lst xs) => match ixN xs.length i with
        | some j => .go .nx ro (h2.set n (.lst (xs.set j w)))
        | none => .bad
      | _ => .bad
    | _ => .bad
  | _ => .bad
theorem og_sub {i : Expr} {mi : SE} (ho : PE X o (tE X.K W0 mo)) (hi : PE X i (tE X.K W0 mi))
    (ha : ∀ v, assign (.Subscript o i pos) X.env v = (do
      let ov ← holding [v] (eval o X.env)
      let iv ← holding [v, ov] (eval i X.env)
      standAt pos
      holding [v, ov, iv] (setItem ov iv v)
      release [v, ov, iv] []) := by intro _; rfl) : PG X (.Subscript o i pos) (tG X.K [] (gSb mo mi)) := by
  refine PG.weak (pg_sub ho hi set_list ha) ?_
  rintro v sg H Q ⟨al, B, ro, h, w, S, r, p⟩
  unfold gSb at p
  refine ⟨al, B, ro, h, S, ?_⟩
  cases e1 : mo ro h with
  | bad => rw [e1] at p; exact p.elim
  | ex _ _ => rw [e1] at p; exact p.elim
  | ok w1 h1 =>
    rw [e1] at p
    split at p
    · rename_i n _ e2
      cases e2
      intro al1 H1 v1 st1 hr1 r1
      refine ⟨al1, B, ro, h1, S.step st1 hr1, ?_⟩
      cases e3 : mi ro h1 with
      | bad => rw [e3] at p; exact p.elim
      | ex _ _ => rw [e3] at p; exact p.elim
      | ok w2 h2 =>
        rw [e3] at p
        split at p
        · rename_i i _ e4
          cases e4
          intro al2 H2 v2 st2 hr2 r2
          split at p
          · rename_i xs e5
            split at p
            · rename_i j e6
              cases r2
              have r1' := r1.step st2
              cases r1' with
              | @ref _ a q =>
                cases hr2.ob _ _ _ q e5 with
                | @lst _ _ vs q2 l s =>
                  have sp : Stp al2 H2 al2 (upd H2 a (.lst (vs.set j v))) := Stp.put (List.mem_of_getElem? q)
                  have rv := (r.step st1).step st2
                  refine ⟨a, vs, _, j, rfl, rfl, q2, by rw [← s.length]; exact e6, ?_⟩
                  have hr3 : HR X.K al2 B (upd H2 a (.lst (vs.set j v))) (h2.set n (.lst (xs.set j w))) := hr2.put q (.lst upd_same (by rw [List.length_set]; exact l) ((s.set rv j).step sp))
                  have st3 := (st1.trans st2).trans sp
                  exact p al2 sg _ st3 (S.step st3 hr3) ⟨rfl, fun _ _ => rfl⟩
            · exact p.elim
          · exact p.elim
        · exact p.elim
    · exact p.elim
/-! ### a op1 b op2 c -/
def asT (m : SE) : En → M Bool := fun ro => bind (m ro) fun w => match w with
  | .bl b => ret b
  | _ => fail
theorem tT_as {K : PySem.W.Frag} {t : TE} {m : SE} (h : ∀ sg H Q, tE K W m sg H Q → t sg H Q) (sg : L2.St) (H : Hp) (Q : Bool → Hp → Prop) (p : tT K W (asT m) sg H Q) : tTest t sg H Q := by
  obtain ⟨al, B, ro, h', S, p⟩ := p
  refine h sg H _ ⟨al, B, ro, h', S, Po.mono (Po.bind p) fun v1 H1 ⟨al1, h1, w1, st1, hr1, r1, p1⟩ => ?_⟩
  cases r1 <;> first | exact p1.elim | exact ⟨_, rfl, Po.now p1 hr1 rfl⟩
end
end Z
/-! Z8: raise, try, comprehensions with two sources, own defs. -/
namespace Z
open PySem PySem.Spec PyProof.Rows L2
/-! ### raise, try -/
def nRaise (e : Ex) : SS := fun ro h => .go (.ex e) ro h
section
variable {X : Cx} {W : WX} {pos : Pos}
theorem os_raise {ex : Expr} {C : Addr} (hc : X.calm = true) (tk : L3.Takes X W) (mk : L2N.PMk X ex (fun _ H Q => Q (.ref C) none H)) : PS X (.Raise (some ex) none pos) (tS X.K W (nRaise ⟨.ref C, []⟩)) := by
  refine PS.weak (L2N.ps_raise hc tk.toN mk) ?_
  rintro D sg H ⟨al, B, ro, h, S, p⟩
  exact p al sg H (Stp.refl _ _) S _ _ ⟨rfl, fun _ => rfl, fun z => absurd rfl z⟩
end
/-! ### [e for a in s if t for b in s2 if t2] -/
def lc2 (g : GM) (t : En → M Bool) (mi : SI) (g1 : GM) (t1 : En → M Bool) (m : SE) (vs1 : List Nat) (ro : En) (x : Itm) : Nat → Nat → List Val → M (List Val)
  | 0, i, acc, h => match nxt x i h with
    | some none => .ok acc h
    | _ => .bad
  | k + 1, i, acc, h => match nxt x i h with
    | none => .bad
    | some none => .ok acc h
    | some (some w) => match g w ro h with
      | .go .nx ro1 h1 => match t ro1 h1 with
        | .ok b h2 => if b = true then match mi ro1 h2 with
            | .ok p h3 => if acc.length + p.2 ≤ sizeLine then match lcTurns g1 t1 m (wipeN ro1 vs1) p.1 p.2 0 acc h3 with
                | .ok acc' h4 => lc2 g t mi g1 t1 m vs1 ro x k (i + 1) acc' h4
                | _ => .bad
              else .bad
            | _ => .bad
          else lc2 g t mi g1 t1 m vs1 ro x k (i + 1) acc h2
        | _ => .bad
      | _ => .bad
def sLc2 (mi : SI) (g : GM) (t : En → M Bool) (mi1 : SI) (g1 : GM) (t1 : En → M Bool) (m : SE) (own vs1 : List Nat) : SE := fun ro => bind (mi ro) fun x => bind (lc2 g t mi1 g1 t1 m vs1 (wipeN ro own) x.1 x.2 0 []) fun ys => ret (.lst ys)
theorem tE_lc2 {K : PySem.W.Frag} {W : WX} {mi mi1 : SI} {g g1 : GM} {sl sl1 : List Nat} {t t1 : En → M Bool} {m : SE} {own vs1 : List Nat} (hsl : ∀ i ∈ sl, i ∈ own) (hsl1 : ∀ i ∈ sl1, i ∈ vs1) (sg : L2.St) (H : Hp) (Q : VK) (p : tE K W (sLc2 mi g t mi1 g1 t1 m own vs1) sg H Q) :
    tLc2 (tI K W mi) (tG K sl g) (tT K W0 t) (tI K W0 mi1) (tG K sl1 g1) (tT K W0 t1) (tE K W0 m) own vs1 sg H Q := by
  obtain ⟨al, B, ro, h, S, p⟩ := p
  refine ⟨al, B, ro, h, S, Po.mono (Po.bind p) fun J H1 ⟨al1, h1, ⟨x, n⟩, st, hr, ⟨it, hlen⟩, q⟩ => ?_⟩
  dsimp only at it q hlen
  intro D hD
  have S1 := (S.step st hr).wiped own
  have hDB : ∀ b ∈ D :: B, b ∈ B ∨ H1 b = none := fun b hb => by
    rcases List.mem_cons.mp hb with e | e
    · exact .inr (e ▸ hD)
    · exact .inl e
  have key : ∀ acc accV al2 H2 h2, Po K B (fun al H => Rep K al B H) sg al1 H1 (obind (.ok acc h2) fun ys => ret (.lst ys)) W Q → acc.length ≤ sizeLine → Stp al1 H1 al2 H2 → HR K al2 (D :: B) H2 h2 → H2 D = some (.lst accV) → Reps K al2 (D :: B) H2 acc accV → Q (.ref D) H2 := by
    intro acc accV al2 H2 h2 q l s2 hr2 d2 r2
    refine q al2 H2 (.ref D) s2 hr2.less (.lst ⟨d2, fun z => hr2.apart D (List.mem_cons_self) z, fun z => ?_⟩ l r2.less)
    exact (hr.fresh hD).2 z
  refine ⟨fun i k H2 => ∃ al2 h2 acc accV, Stp al1 H1 al2 H2 ∧ HR K al2 (D :: B) H2 h2 ∧ H2 D = some (.lst accV) ∧ Reps K al2 (D :: B) H2 acc accV ∧ acc.length ≤ sizeLine ∧
    Po K B (fun al H => Rep K al B H) sg al1 H1 (obind (lc2 g t mi1 g1 t1 m vs1 (wipeN ro own) x k i acc h2) fun ys => ret (.lst ys)) W Q, ⟨n, al1, h1, [], [], Stp.lay hD, hr.grow hD, upd_same, .nil, Nat.zero_le _, q⟩, ?_⟩
  rintro i k H2 ⟨al2, h2, acc, accV, st2, hr2, d2, r2, hl, q2⟩
  obtain ⟨i1, i2⟩ := it al2 (D :: B) H2 h2 st2.toB hDB hr2 i
  cases e0 : nxt x i h2 with
  | none => cases k <;> (unfold lc2 at q2; rw [e0] at q2; exact q2.elim)
  | some o =>
  cases o with
  | none =>
    refine .inl ⟨i1 e0, ?_⟩
    cases k with
    | zero => unfold lc2 at q2; rw [e0] at q2; exact key acc accV al2 H2 h2 q2 hl st2 hr2 d2 r2
    | succ k => unfold lc2 at q2; rw [e0] at q2; exact key acc accV al2 H2 h2 q2 hl st2 hr2 d2 r2
  | some w =>
    obtain ⟨g1', g2⟩ := i2 w e0
    cases k with
    | zero => unfold lc2 at q2; rw [e0] at q2; exact q2.elim
    | succ k =>
    unfold lc2 at q2
    rw [e0] at q2
    refine .inr ⟨g1', fun H3 => ∃ al3 h3 acc accV, Stp al1 H1 al3 H3 ∧ HR K al3 (D :: B) H3 h3 ∧ H3 D = some (.lst accV) ∧ Reps K al3 (D :: B) H3 acc accV ∧ acc.length ≤ sizeLine ∧
      Po K B (fun al H => Rep K al B H) sg al1 H1 (obind (lc2 g t mi1 g1 t1 m vs1 (wipeN ro own) x k (i + 1) acc h3) fun ys => ret (.lst ys)) W Q, fun H3 ⟨al3, h3, acc, accV, a, b, c, d, e, f⟩ => ⟨k, by omega, al3, h3, acc, accV, a, b, c, d, e, f⟩, fun y H3 yy => ?_⟩
    obtain ⟨s3, hr3, r3⟩ := g2 y H3 yy
    have st3 := st2.trans s3
    have d3 : H3 D = some (.lst accV) := s3.keep _ _ d2 (hr2.apart D List.mem_cons_self)
    refine ⟨al2, D :: B, wipeN ro own, h2, w, S1.stepB st3.toB hDB hr3, r3, ?_⟩
    dsimp only at q2
    cases e : g w (wipeN ro own) h2 with
    | bad => rw [e] at q2; exact q2.elim
    | go f ro4 h4 =>
      rw [e] at q2
      cases f with
      | nx =>
        intro al4 sg4 H4 st4 S4 ⟨hl4, f4⟩
        have d4 : H4 D = some (.lst accV) := st4.keep _ _ d3 (hr3.apart D List.mem_cons_self)
        refine ⟨(wipe_same hl4 fun i hi => f4 i fun z => hi (hsl i z)).trans wipe_wipe, ?_⟩
        refine ⟨al4, D :: B, ro4, h4, S4, ?_⟩
        dsimp only at q2
        cases e2 : t ro4 h4 with
        | bad => rw [e2] at q2; exact q2.elim
        | ex _ _ => rw [e2] at q2; exact q2.elim
        | ok b h5 =>
          rw [e2] at q2
          intro al5 H5 v5 st5 hr5 eb
          subst eb
          have d5 : H5 D = some (.lst accV) := st5.keep _ _ d4 (S4.hr.apart D List.mem_cons_self)
          have st15 := (st3.trans st4).trans st5
          have r5 := r2.step ((s3.trans st4).trans st5)
          cases b with
          | false => exact ⟨al5, h5, acc, accV, st15, hr5, d5, r5, hl, q2⟩
          | true =>
            rw [if_pos rfl]
            have S5 := S4.step st5 hr5
            refine ⟨al5, D :: B, ro4, h5, S5, ?_⟩
            dsimp only at q2
            rw [if_pos rfl] at q2
            cases e3 : mi1 ro4 h5 with
            | bad => rw [e3] at q2; exact q2.elim
            | ex _ _ => rw [e3] at q2; exact q2.elim
            | ok pr h6 =>
            obtain ⟨x1, n1⟩ := pr
            rw [e3] at q2
            intro al6 H6 J1 st6 hr6 ⟨it1, hlen1⟩
            dsimp only at it1 hlen1 q2
            split at q2
            case isFalse => exact q2.elim
            rename_i hl6
            have d6 : H6 D = some (.lst accV) := st6.keep _ _ d5 (hr5.apart D List.mem_cons_self)
            have st16 := st15.trans st6
            have r6 := r5.step st6
            have S6 := (S5.step st6 hr6).wiped vs1
            -- the inner loop
            refine ⟨fun j k1 H7 => ∃ al7 h7 acc7 accV7, Stp al1 H1 al7 H7 ∧ StpB (D :: B) al6 H6 al7 H7 ∧ HR K al7 (D :: B) H7 h7 ∧ H7 D = some (.lst accV7) ∧ Reps K al7 (D :: B) H7 acc7 accV7 ∧ acc7.length + k1 ≤ sizeLine ∧
              Po K B (fun al H => Rep K al B H) sg al1 H1 (obind (match lcTurns g1 t1 m (wipeN ro4 vs1) x1 k1 j acc7 h7 with
                | .ok acc' h4 => lc2 g t mi1 g1 t1 m vs1 (wipeN ro own) x k (i + 1) acc' h4
                | _ => .bad) fun ys => ret (.lst ys)) W Q, ⟨n1, al6, h6, acc, accV, st16, (Stp.refl _ _).toB, hr6, d6, r6, hl6, q2⟩, ?_⟩
            rintro j k1 H7 ⟨al7, h7, acc7, accV7, st7, sb7, hr7, d7, r7, hl7, q7⟩
            obtain ⟨j1, j2⟩ := it1 al7 (D :: B) H7 h7 sb7 (fun b hb => .inl hb) hr7 j
            cases e7 : nxt x1 j h7 with
            | none => cases k1 <;> (unfold lcTurns at q7; rw [e7] at q7; exact q7.elim)
            | some o7 =>
            cases o7 with
            | none =>
              refine .inl ⟨j1 e7, al7, h7, acc7, accV7, st7, hr7, d7, r7, by omega, ?_⟩
              cases k1 <;> (unfold lcTurns at q7; rw [e7] at q7; exact q7)
            | some w7 =>
              obtain ⟨go7, y7⟩ := j2 w7 e7
              cases k1 with
              | zero => unfold lcTurns at q7; rw [e7] at q7; exact q7.elim
              | succ k1 =>
              unfold lcTurns at q7
              rw [e7] at q7
              refine .inr ⟨go7, fun H8 => ∃ al7 h7 acc7 accV7, Stp al1 H1 al7 H8 ∧ StpB (D :: B) al6 H6 al7 H8 ∧ HR K al7 (D :: B) H8 h7 ∧ H8 D = some (.lst accV7) ∧ Reps K al7 (D :: B) H8 acc7 accV7 ∧ acc7.length + k1 ≤ sizeLine ∧
                Po K B (fun al H => Rep K al B H) sg al1 H1 (obind (match lcTurns g1 t1 m (wipeN ro4 vs1) x1 k1 (j + 1) acc7 h7 with
                  | .ok acc' h4 => lc2 g t mi1 g1 t1 m vs1 (wipeN ro own) x k (i + 1) acc' h4
                  | _ => .bad) fun ys => ret (.lst ys)) W Q, fun H8 ⟨al8, h8, acc8, accV8, a, b, c, d, e, f, g⟩ => ⟨k1, by omega, al8, h8, acc8, accV8, a, b, c, d, e, f, g⟩, fun y8 H8 yy8 => ?_⟩
              obtain ⟨s8, hr8, r8⟩ := y7 y8 H8 yy8
              have st8 := st7.trans s8
              have sb8 := sb7.trans s8.toB
              have d8 : H8 D = some (.lst accV7) := s8.keep _ _ d7 (hr7.apart D List.mem_cons_self)
              refine ⟨al7, D :: B, wipeN ro4 vs1, h7, w7, S6.stepB sb8 (fun b hb => .inl hb) hr8, r8, ?_⟩
              dsimp only at q7
              cases e9 : g1 w7 (wipeN ro4 vs1) h7 with
              | bad => rw [e9] at q7; exact q7.elim
              | go f9 ro9 h9 =>
                rw [e9] at q7
                cases f9 with
                | nx =>
                  intro al9 sg9 H9 st9 S9 ⟨hl9, f9⟩
                  have d9 : H9 D = some (.lst accV7) := st9.keep _ _ d8 (hr8.apart D List.mem_cons_self)
                  refine ⟨(wipe_same hl9 fun i hi => f9 i fun z => hi (hsl1 i z)).trans wipe_wipe, ?_⟩
                  refine ⟨al9, D :: B, ro9, h9, S9, ?_⟩
                  dsimp only at q7
                  cases e10 : t1 ro9 h9 with
                  | bad => rw [e10] at q7; exact q7.elim
                  | ex _ _ => rw [e10] at q7; exact q7.elim
                  | ok b10 h10 =>
                    rw [e10] at q7
                    intro al10 H10 v10 st10 hr10 eb
                    subst eb
                    have d10 : H10 D = some (.lst accV7) := st10.keep _ _ d9 (S9.hr.apart D List.mem_cons_self)
                    have s810 := (s8.trans st9).trans st10
                    have r10 := r7.step s810
                    have st110 := st7.trans s810
                    have sb610 := sb7.trans s810.toB
                    cases b10 with
                    | false => exact ⟨al10, h10, acc7, accV7, st110, sb610, hr10, d10, r10, by omega, q7⟩
                    | true =>
                      rw [if_pos rfl]
                      refine ⟨al10, D :: B, ro9, h10, S9.step st10 hr10, ?_⟩
                      dsimp only at q7
                      rw [if_pos rfl] at q7
                      cases e11 : m ro9 h10 with
                      | bad => rw [e11] at q7; exact q7.elim
                      | ex _ _ => rw [e11] at q7; exact q7.elim
                      | ok y11 h11 =>
                        rw [e11] at q7
                        intro al11 H11 v11 st11 hr11 r11
                        have d11 : H11 D = some (.lst accV7) := st11.keep _ _ d10 (hr10.apart D List.mem_cons_self)
                        exact ⟨accV7, d11, by rw [← r7.length]; omega, al11, h11, acc7 ++ [y11], accV7 ++ [v11], (st110.trans st11).turn hD (by rw [d11]; simp), (sb610.trans st11.toB).turn List.mem_cons_self, hr11.turn List.mem_cons_self, upd_same, ((r10.step st11).turn List.mem_cons_self).append (.cons (r11.turn List.mem_cons_self) .nil), by simp; omega, q7⟩
                | _ => exact q7.elim
      | _ => exact q2.elim
end Z
/-! Z9: own defs, their calls, the end. -/
namespace Z
open PySem PySem.Spec PyProof.Rows L2
/-- a def's body, run -/
def outOf : SO → Out Val
  | .go .nx _ h => .ok .non h
  | .go (.ret w) _ h => .ok w h
  | .go (.ex e) _ h => .ex e h
  | _ => .bad
def runB (n : Nat) (m : SS) (ws : List Val) : M Val := fun h => outOf (m (ws.map some ++ List.replicate (n - ws.length) none) h)
theorem sim_start {K : PySem.W.Frag} {al B : List Addr} {H : Hp} {h : HH} {ws : List Val} {vs : List V} {N : List Str} (hr : HR K al B H h) (r : Reps K al B H ws vs) : Sim K al B (ws.map some ++ List.replicate (N.length - ws.length) none) h (L2.start N vs) H := by
  refine ⟨hr, by simp [L2.start, r.length], fun i w e => ?_⟩
  by_cases l : i < ws.length
  · rw [List.getElem?_append_left (by simpa using l), List.getElem?_map] at e
    obtain ⟨w', e1, e2⟩ := Option.map_eq_some_iff.mp e
    cases e2
    obtain ⟨v, e3, rv⟩ := r.get e1
    refine ⟨v, ?_, rv⟩
    show (vs.map some ++ _)[i]? = _
    rw [List.getElem?_append_left (by rw [List.length_map, ← r.length]; exact l), List.getElem?_map, e3]
    rfl
  · rw [List.getElem?_append_right (by simpa using l)] at e
    obtain ⟨_, e2⟩ := List.mem_replicate.mp (List.mem_of_getElem? e)
    cases e2
theorem ps_run {K : PySem.W.Frag} {B al : List Addr} {H : Hp} {o : SO} {W : WX} {Q : VK} {sg : L2.St} (p : Po K B (fun al H => Rep K al B H) sg al H (outOf o) W Q) (hW : ∀ cls d s s' H, W cls d s H → W cls d s' H) : Ps K B al H o W { nx := fun _ H' => Q .non H', rt := Q } := by
  cases o with
  | bad => exact p
  | go f ro h =>
    cases f with
    | nx => exact fun a b c d S => p a c _ d S.hr .non
    | ret w => exact fun a b c d S v r => p a c v d S.hr r
    | ex e => exact fun a b c d S cls dd er => hW _ _ _ _ _ (p a c cls dd d S.hr er)
    | brk => exact p.elim
    | ct => exact p.elim
section
variable {P : Program} {w : World} {K : PySem.W.Frag} {mg : Str → Option Value} {base : Heap}
theorem fn_ok {x qual : Str} {st : Stmt} {f : Addr} {fd : FuncData} {N ps : List Str} {k n : Nat} {m : SS} (F : Fun K x qual st f fd) (S : FnScope N ps (defScope st)) (hn : N.length = n)
    (hb : ∀ (cdv : Value) (A : Around) (outer : List Env) (s : Shared) (H : Hp) (E : XK), RmG k (A.deeper (envOfC qual (defScope st) s.heap.objs.size f cdv)) →
      PSs (cxOf (L3.CX P w) P w K mg base N qual (defScope st) f cdv A outer s H E) (defBody st) (tS K (fun cls d _ H => E cls d H) m)) : FnG P w K mg base (L3.CX P w) (k + 1) f fd ps (spF K ps.length (runB n m)) := by
  subst hn
  refine funG F S (fun vs H Q E ⟨al, B, h, ws, hr, r, l, p⟩ => r.length.symm.trans l) fun cdv A outer s H vs Q E hr h => ⟨_, hb cdv A outer s H E hr, ?_⟩
  obtain ⟨al, B, hh, ws, hr2, r, l, p⟩ := h
  exact ⟨al, B, _, hh, sim_start hr2 r, ps_run p fun _ _ _ _ _ z => z⟩
theorem fn_okD {x qual : Str} {params : Arguments} {body : List Stmt} {scope : Scope} {dvs : List V} {kws : List (Str × V)} {f : Addr} {fd : FuncData} {N ps : List Str} {k n : Nat} {m : SS} (F : FunD K x qual params body scope dvs kws f fd) (S : FnScope N ps scope) (hn : N.length = n)
    (hb : ∀ (cdv : Value) (A : Around) (outer : List Env) (s : Shared) (H : Hp) (E : XK), RmG k (A.deeper (envOfC qual scope s.heap.objs.size f cdv)) →
      PSs (cxOf (L3.CX P w) P w K mg base N qual scope f cdv A outer s H E) body (tS K (fun cls d _ H => E cls d H) m)) : FnG P w K mg base (L3.CX P w) (k + 1) f fd ps (spF K ps.length (runB n m)) := by
  subst hn
  refine funDG F S (fun vs H Q E ⟨al, B, h, ws, hr, r, l, p⟩ => r.length.symm.trans l) fun cdv A outer s H vs Q E hr h => ⟨_, hb cdv A outer s H E hr, ?_⟩
  obtain ⟨al, B, hh, ws, hr2, r, l, p⟩ := h
  exact ⟨al, B, _, hh, sim_start hr2 r, ps_run p fun _ _ _ _ _ z => z⟩
/-- law itself -/
def spLaw (K : PySem.W.Frag) : Sp := fun vs H Q _ => ∃ (a : Addr) (ns : List Int), vs = [.ref a] ∧ SqL K H a (ns.map V.int) ∧ ns.length ≤ 63 ∧ (∀ z ∈ ns, Builtin.Int.intBits z ≤ 1048576) ∧ ∀ H', Q (.bl true) H'
theorem law_ok {x qual : Str} {st : Stmt} {f : Addr} {fd : FuncData} {N : List Str} {y : Str} {k n : Nat} {m : SS} (F : Fun K x qual st f fd) (S : FnScope N [y] (defScope st)) (hn : N.length = n)
    (hb : ∀ (cdv : Value) (A : Around) (outer : List Env) (s : Shared) (H : Hp) (E : XK), RmG k (A.deeper (envOfC qual (defScope st) s.heap.objs.size f cdv)) →
      PSs (cxOf CX0 P w K mg base N qual (defScope st) f cdv A outer s H E).nox (defBody st) (tS K W0 m))
    (hl : ∀ ns : List Int, ns.length ≤ 63 → (∀ z ∈ ns, Builtin.Int.intBits z ≤ 1048576) → ∃ h, runB n m [.scr ns] [] = .ok (.bl true) h) : FnG P w K mg base CX0 (k + 1) f fd [y] (spLaw K) := by
  subst hn
  refine funG0 F S (fun vs H Q E ⟨a, ns, e, _⟩ => by rw [e]; rfl) fun cdv A outer s H vs Q E hr h => ⟨_, hb cdv A outer s H E hr, ?_⟩
  obtain ⟨a, ns, rfl, sq, l, hbits, q⟩ := h
  have hr0 : HR K [] [] H [] := ⟨.nil, rfl, fun n a o e => by simp at e, fun a e => by simp at e, fun a e => by simp at e⟩
  have r0 : Rep K [] [] H (.scr ns) (.ref a) := by
    refine .scr ?_ (Nat.le_trans l (by decide))
    rcases sq with sq | sq
    · exact .inl ⟨sq, by simp, by simp⟩
    · exact .inr sq
  have S0 := sim_start (N := N) hr0 (.cons r0 .nil)
  refine ⟨[], [], _, [], S0, ps_run (sg := []) (Q := Q) ?_ fun _ _ _ _ _ z => z⟩
  obtain ⟨h', e⟩ := hl ns l hbits
  have e' : outOf (m ([Val.scr ns].map some ++ List.replicate (N.length - [Val.scr ns].length) none) []) = .ok (.bl true) h' := e
  rw [e']
  intro al' H' v _ _ rv
  cases rv
  exact q H'
theorem walk {l : PySem.W.OpenLaw} {q : Program} {loose : List Str} {XP : (Str → Option Value) → Heap → Prop} {YP : World → Heap → Prop} {d : DefRec} {K : Params → PySem.W.Frag} {x : Str} {k : Nat} (hn : l.most = some 63) (hdf : d.params.defaults = []) (hr : RmG k callerA)
    (hY : ∀ (w : World) (h : Heap), YP w h → (K w.params).In h)
    (F : ∀ (w : World) (mg : Str → Option Value) (fa : Addr) (h : Heap), (K w.params).In h → h.Ns mainGlobals mg → mg d.name = some (.ref fa) →
      ∃ fd : FuncData, (∀ (s : Shared) (u : Value), BindsTo s fd ⟨[u], []⟩ [(x, u)]) ∧ ∀ base : Heap, (K w.params).In base → base.Ns mainGlobals mg → FnG l.prog w (K w.params) mg base CX0 k fa fd [x] (spLaw (K w.params))) :
    PySem.W.WalkO q loose XP YP l.row.toRowW d [] (fun f vs => PySem.call f vs) :=
  walk_ofG (n := 63) (k := k) (x := x) (CX := fun _ => CX0) (sp := fun w => spLaw (K w.params)) hn (by decide) hdf hr hY F (fun _ _ a ns hl hb hS => ⟨a, ns, rfl, hS, hl, hb, fun _ => rfl⟩) fun _ _ _ _ _ z => z
end
/-! ### how arguments come -/
section
variable {K : PySem.W.Frag} {x qual : Str} {params : Arguments} {body : List Stmt} {scope : Scope} {kws : List (Str × V)} {f : Addr} {fd : FuncData} {ps : List Str}
theorem kbz_pos (b : Binds K fd ps []) : KBz K fd ps ps.length [] (fun ws _ => ws) := by
  refine ⟨fun us _ => us, fun vs _ => vs, ⟨fun s us ws X l1 l2 => ?_, fun r _ => r⟩, fun _ _ _ _ _ _ _ r _ => r⟩
  have q := b s us X (by rw [List.append_nil]; exact l1)
  rw [List.append_nil] at q
  exact q
/-- keyword-only parameters: ms lack, the others are written -/
theorem kbz_kw (F : FunD K x qual params body scope [] kws f fd) (n : Nat) (ks : List Str) (ms : List (Str × V)) (mw : List Val) (g : {α : Type} → List α → List α → List α → List α) (hk : kws ≠ []) (hms : ∀ q ∈ ms, q ∈ kws)
    (hrep : ∀ al B H, Reps K al B H mw (ms.map (·.2)))
    (hrel : ∀ {vs mz zs : List V} {us mv ws : List Value}, Vals vs us → Vals mz mv → Vals zs ws → Vals (g vs mz zs) (g us mv ws))
    (hrel2 : ∀ {al B : List Addr} {H : Hp} {vs mz zs : List V} {us mv ws : List Val}, Reps K al B H us vs → Reps K al B H mv mz → Reps K al B H ws zs → Reps K al B H (g us mv ws) (g vs mz zs))
    (h : ∀ (D : Addr) (doc pm : Value) (an : Option Addr) (cdv ct : Value) (us mv ws : List Value), us.length = n → mv.length = ms.length → ws.length = ks.length →
      KwChain D ((ms.map (·.1)).zip mv) (bindArgs (PySem.W.fnOf x qual params body scope .none (.ref D) doc pm an cdv ct) ⟨us, ks.zip ws⟩) (ps.zip (g us mv ws))) : KBz K fd ps n ks (fun us ws => g us mw ws) := by
  obtain ⟨oc, od, dV, kV, doc, pm, an, cdv, ct, osl, rfl, lk, hcd, hD, hK⟩ := F.ex
  rcases hD with ⟨_, rfl⟩ | ⟨e, _⟩
  · rcases hK with e | ⟨D, rfl, hq⟩
    · exact absurd e hk
    · obtain ⟨mv, hl, rk, hks⟩ := kwd_vals (ms := ms) fun q hm => hq q (hms q hm)
      refine ⟨fun us ws => g us mv ws, fun vs zs => g vs (ms.map (·.2)) zs, ⟨fun s us ws X l1 l2 => ?_, fun r1 r2 => hrel r1 rk r2⟩, fun al B H ws vs zs us r1 r2 => hrel2 r1 (hrep al B H) r2⟩
      exact BindsTo.of_looks fun M => KwChain.looks X hks (h D doc pm an cdv ct us mv ws l1 hl l2)
  · exact absurd rfl e
end
/-! ### in short -/
section
variable {X : Cx} {W : WX}
theorem ov (i : Nat) {x : Str} {pos : Pos} (hN : X.N[i]? = some x := by rfl) (hv : Vis X.env.scope x := by first | exact Or.inl rfl | exact Or.inr (Or.inl rfl) | exact Or.inr (Or.inr rfl)) (hd : (x == ("__debug__" : Str)) = false := by decide)
    (hcd : (x == ("__classdict__" : Str)) = false := by decide) : PE X (.Name x pos) (tE X.K W (sVar i)) := oe_var hN hv hd hcd
/-- a built-in class as a value -/
theorem oe_ty {x : Str} {n : String} {pos : Pos} (hg : Gl X x) (hm : X.mg x = none) (hv : bootBuiltins x = some (.type n)) (hn : x ≠ "__name__" := by decide) (hd : (x == ("__debug__" : Str)) = false := by decide) : PE X (.Name x pos) (tE X.K W (sC (.ty n))) :=
  oe_c (pe_bltn hg hm hv (v := .ty n) rfl hn hd) fun _ _ _ => .ty n
end
section
variable {K : PySem.W.Frag} {al B : List Addr} {H : Hp}
/-- a tuple of texts that stands in the written part -/
theorem rep_texts {T : Addr} {o : Obj} {its : Array Value} {n : Nat} {xs : List Str} (l : K.lookup T = some o) (c : o.cls = .type "tuple") (d : o.dict = none) (e : o.data = .seq its n) (r : Vals (xs.map V.str) its.toList) (z : xs.length ≤ sizeLine) : Rep K al B H (.tup (xs.map Val.str)) (.ref T) := by
  refine .tup (.inr ⟨o, its, n, l, c, d, e, ?_, r⟩) (by rw [List.length_map]; exact z) (Reps.map (fun x => .str x) xs)
  have q := r.length
  rw [List.length_map] at q
  have q2 : its.toList.length = its.size := Array.length_toList
  exact (q2.symm.trans q.symm) ▸ z
end
end Z
/-! ZC: chains of comparisons of any length; tests of comprehensions. -/
namespace Z
open PySem PySem.Spec PyProof.Rows L2
structure CH (X : Cx) (ops : List CmpOp) (es : List Expr) (t : V → TE) : Prop where
  run : ∀ (pos : Pos) (pins : List (Addr × Obj)) (s : Shared) (σ : L2.St) (H : Hp) (x : V) (u : Value) (Q : VK), Inv X pins σ H s → RelV x u → t x σ H Q → wpAny (model X.prog X.w) X.A (compareChain pos u ops (evalEach es X.env)) (EP X pins σ Q) X.xe s
  tst : ∀ (pos : Pos) (pins : List (Addr × Obj)) (s : Shared) (σ : L2.St) (H : Hp) (x : V) (u : Value) (Q : Bool → Hp → Prop), Inv X pins σ H s → RelV x u → t x σ H (fun z H' => ∃ k, z = .bl k ∧ Q k H') → wpAny (model X.prog X.w) X.A (testChain pos u ops (evalEach es X.env)) (TP X pins σ Q) X.xe s
section
variable {X : Cx} {a e e' : Expr} {es : List Expr} {op op' : CmpOp} {ops : List CmpOp} {r : R2} {ta te : TE} {t : V → TE} {pos : Pos}
theorem ch_last (ho : OpR X (compareOp op) r) (he : PE X e te) : CH X [op] [e] (fun x σ H Q => te σ H fun y H1 => r x y H1 Q) := by
  refine ⟨fun pos pins s σ H x u Q I rx h => ?_, fun pos pins s σ H x u Q I rx h => ?_⟩
  · exact chain_last (thn (he.run pins s σ H _ I h) fun v s1 ⟨y, H1, I1, r1, q1⟩ => ho pins s1 σ H1 x y u v Q I1 rx r1 q1)
  · refine test_last (thn (he.run pins s σ H _ I h) fun v s1 ⟨y, H1, I1, r1, q1⟩ => thn (ho pins s1 σ H1 x y u v _ I1 rx r1 q1) fun d s2 ⟨z, H2, I2, r2, k, ek, q2⟩ => ?_)
    subst ek
    cases r2
    exact wpAny_truthy_bool ⟨H2, I2, q2⟩
theorem ch_link (ho : OpR X (compareOp op) r) (he : PE X e te) (hr : CH X (op' :: ops) (e' :: es) t) :
    CH X (op :: op' :: ops) (e :: e' :: es) (fun x σ H Q => te σ H fun y H1 => r x y H1 fun z H2 => ∃ k, z = .bl k ∧ if k = true then t y σ H2 Q else Q (.bl false) H2) := by
  refine ⟨fun pos pins s σ H x u Q I rx h => ?_, fun pos pins s σ H x u Q I rx h => ?_⟩
  · refine chain_link (thn (he.run pins s σ H _ I h) fun v s1 ⟨y, H1, I1, r1, q1⟩ => thn (ho pins s1 σ H1 x y u v _ I1 rx r1 q1) fun d s2 ⟨z, H2, I2, r2, k, ek, q2⟩ => ?_)
    subst ek
    cases r2
    refine wpAny_truthy_bool ?_
    cases k with
    | false => exact ite_ff ⟨.bl false, H2, I2, rfl, q2⟩
    | true => exact ite_tt (hr.run pos pins s2 σ H2 y v Q I2 r1 q2)
  · refine test_link (thn (he.run pins s σ H _ I h) fun v s1 ⟨y, H1, I1, r1, q1⟩ => thn (ho pins s1 σ H1 x y u v _ I1 rx r1 q1) fun d s2 ⟨z, H2, I2, r2, k, ek, q2⟩ => ?_)
    subst ek
    cases r2
    refine wpAny_truthy_bool ?_
    cases k with
    | false =>
      obtain ⟨k', e', q'⟩ := q2
      cases e'
      exact ite_ff ⟨H2, I2, q'⟩
    | true => exact ite_tt (hr.tst pos pins s2 σ H2 y v Q I2 r1 q2)
theorem pe_ch {e1 e2 : Expr} (ha : PE X a ta) (hc : CH X (op :: op' :: ops) (e1 :: e2 :: es) t) (hm : lastMarks (op :: op' :: ops) (e1 :: e2 :: es) = false) : PE X (.Compare a (op :: op' :: ops) (e1 :: e2 :: es) pos) (fun σ H Q => ta σ H fun x H1 => t x σ H1 Q) :=
  ⟨fun pins s σ H Q I h => Compare_chain (thn (ha.run pins s σ H _ I h) fun v s1 ⟨x, H1, I1, r1, q1⟩ => hc.run _ pins s1 σ H1 x v Q I1 r1 q1) hm⟩
theorem pt_ch {e1 e2 : Expr} (ha : PE X a ta) (hc : CH X (op :: op' :: ops) (e1 :: e2 :: es) t) (hm : lastMarks (op :: op' :: ops) (e1 :: e2 :: es) = false) : PT X (.Compare a (op :: op' :: ops) (e1 :: e2 :: es) pos) (tTest fun σ H Q => ta σ H fun x H1 => t x σ H1 Q) :=
  ⟨fun pins s σ H Q I h => isTrue_chain (thn (ha.run pins s σ H _ I h) fun v s1 ⟨x, H1, I1, r1, q1⟩ => hc.tst _ pins s1 σ H1 x v Q I1 r1 q1) hm⟩
end
/-! own readings -/
abbrev SK := Val → SE
def kLast (f : Val → Val → M Val) (m : SE) : SK := fun a ro => bind (m ro) fun b => f a b
def kLink (f : Val → Val → M Val) (m : SE) (k : SK) : SK := fun a ro => bind (m ro) fun b => bind (f a b) fun z => match z with
  | .bl true => k b ro
  | .bl false => ret (.bl false)
  | _ => fail
def sChn (m : SE) (k : SK) : SE := fun ro => bind (m ro) fun a => k a ro
def tCK (K : PySem.W.Frag) (W : WX) (k : SK) : V → TE := fun v sg H Q => ∃ al B ro h w, Sim K al B ro h sg H ∧ Rep K al B H w v ∧ Po K B (fun al H => Rep K al B H) sg al H (k w ro h) W Q
section
variable {X : Cx} {W : WX} {a e e' : Expr} {es : List Expr} {op op' : CmpOp} {ops : List CmpOp} {r : R2} {m : SE} {f : Val → Val → M Val} {k : SK} {pos : Pos}
theorem CH.weak {t t' : V → TE} (h : CH X ops es t) (i : ∀ x sg H Q, t' x sg H Q → t x sg H Q) : CH X ops es t' :=
  ⟨fun pos pins s σ H x u Q I rx q => h.run pos pins s σ H x u Q I rx (i _ _ _ _ q), fun pos pins s σ H x u Q I rx q => h.tst pos pins s σ H x u Q I rx (i _ _ _ _ q)⟩
theorem ok_last (ho : OpR X (compareOp op) r) (lk : Lk2 X.K f r) (he : PE X e (tE X.K W m)) : CH X [op] [e] (tCK X.K W (kLast f m)) := by
  refine CH.weak (ch_last ho he) ?_
  rintro v sg H Q ⟨al, B, ro, h, w, S, r1, p⟩
  refine ⟨al, B, ro, h, S, Po.mono (Po.bind p) fun v2 H2 ⟨al2, h2, w2, st2, hr2, r2, p2⟩ => ?_⟩
  exact lk W al2 B sg H2 h2 w w2 v v2 Q hr2 (r1.step st2) r2 p2
theorem ok_link (ho : OpR X (compareOp op) r) (lk : Lk2 X.K f r) (he : PE X e (tE X.K W m)) (hr : CH X (op' :: ops) (e' :: es) (tCK X.K W k)) : CH X (op :: op' :: ops) (e :: e' :: es) (tCK X.K W (kLink f m k)) := by
  refine CH.weak (ch_link ho he hr) ?_
  rintro v sg H Q ⟨al, B, ro, h, w, S, r1, p⟩
  refine ⟨al, B, ro, h, S, Po.mono (Po.bind p) fun v2 H2 ⟨al2, h2, w2, st2, hr2, r2, p2⟩ => ?_⟩
  refine lk W al2 B sg H2 h2 w w2 v v2 _ hr2 (r1.step st2) r2 (Po.mono (Po.bind p2) fun v3 H3 ⟨al3, h3, w3, st3, hr3, r3, p3⟩ => ?_)
  split at p3
  · cases r3
    refine ⟨true, rfl, ?_⟩
    rw [if_pos rfl]
    exact ⟨al3, B, ro, h3, w2, (S.step st2 hr2).step st3 hr3, r2.step st3, p3⟩
  · cases r3
    refine ⟨false, rfl, ?_⟩
    rw [if_neg Bool.false_ne_true]
    exact Po.now p3 hr3 (.bl _)
  · exact p3.elim
theorem tE_chn {K : PySem.W.Frag} (sg : L2.St) (H : Hp) (Q : VK) (p : tE K W (sChn m k) sg H Q) : tE K W m sg H (fun x H1 => tCK K W k x sg H1 Q) := by
  obtain ⟨al, B, ro, h, S, p⟩ := p
  exact ⟨al, B, ro, h, S, Po.mono (Po.bind p) fun v1 H1 ⟨al1, h1, w1, st1, hr1, r1, p1⟩ => ⟨al1, B, ro, h1, w1, S.step st1 hr1, r1, p1⟩⟩
theorem oe_chn {e1 e2 : Expr} (ha : PE X a (tE X.K W m)) (hc : CH X (op :: op' :: ops) (e1 :: e2 :: es) (tCK X.K W k)) (hm : lastMarks (op :: op' :: ops) (e1 :: e2 :: es) = false := by rfl) : PE X (.Compare a (op :: op' :: ops) (e1 :: e2 :: es) pos) (tE X.K W (sChn m k)) :=
  PE.weak (pe_ch ha hc hm) tE_chn
theorem ot_chn {e1 e2 : Expr} (ha : PE X a (tE X.K W m)) (hc : CH X (op :: op' :: ops) (e1 :: e2 :: es) (tCK X.K W k)) (hm : lastMarks (op :: op' :: ops) (e1 :: e2 :: es) = false := by rfl) : PT X (.Compare a (op :: op' :: ops) (e1 :: e2 :: es) pos) (tT X.K W (asT (sChn m k))) :=
  PT.weak (pt_ch ha hc hm) (tT_as tE_chn)
def tYesZ : En → M Bool := fun _ => ret true
theorem PTs.weak {ifs : List Expr} {t t' : TT} (h : PTs X ifs t) (i : ∀ sg H Q, t' sg H Q → t sg H Q) : PTs X ifs t' := ⟨fun pins s sg H Q I q => h.run pins s sg H Q I (i _ _ _ q)⟩
theorem ots_nil : PTs X [] (tT X.K W tYesZ) := by
  refine PTs.weak pts_nil ?_
  rintro sg H Q ⟨al, B, ro, h, S, p⟩
  exact Po.now p S.hr rfl
theorem ots_one {c : Expr} {t : En → M Bool} (h : PT X c (tT X.K W t)) : PTs X [c] (tT X.K W t) := pts_one h
/-- [e for a in s if t for b in s2 if t2] -/
theorem oe_lc2 {elt tg iter tg1 iter1 : Expr} {ifs ifs1 : List Expr} {scope : Scope} {own : List (Str × Nat)} {vs1 : List Nat} {mi mi1 : SI} {g g1 : GM} {sl sl1 : List Nat} {t t1 : En → M Bool} (hc : X.calm = true) (hN : X.N.Nodup) (hi : PI X tg iter (tI X.K W mi)) (ok : BlkOk X.N X.env.scope scope own) (hv : ∀ i ∈ vs1, i ∈ own.map (·.2)) (hsl : ∀ i ∈ sl, i ∈ own.map (·.2)) (hsl1 : ∀ i ∈ sl1, i ∈ vs1)
    (hg : ∀ (s : Shared) (H : Hp) (C : Addr) (cl : List (Str × Addr)) (fp : List Addr), PG (X.blk s H scope (compEnvC scope cl C X.env) fp) tg (tG X.K sl g))
    (ht : ∀ (s : Shared) (H : Hp) (C : Addr) (cl : List (Str × Addr)) (fp : List Addr), PTs (X.blk s H scope (compEnvC scope cl C X.env) fp) ifs (tT X.K W0 t))
    (hi1 : ∀ (s : Shared) (H : Hp) (C : Addr) (cl : List (Str × Addr)) (fp : List Addr), PI (X.blk s H scope (compEnvC scope cl C X.env) fp) tg1 iter1 (tI X.K W0 mi1))
    (hg1 : ∀ (s : Shared) (H : Hp) (C : Addr) (cl : List (Str × Addr)) (fp : List Addr), PG (X.blk s H scope (compEnvC scope cl C X.env) fp) tg1 (tG X.K sl1 g1))
    (ht1 : ∀ (s : Shared) (H : Hp) (C : Addr) (cl : List (Str × Addr)) (fp : List Addr), PTs (X.blk s H scope (compEnvC scope cl C X.env) fp) ifs1 (tT X.K W0 t1))
    (he : ∀ (s : Shared) (H : Hp) (C : Addr) (cl : List (Str × Addr)) (fp : List Addr), PE (X.blk s H scope (compEnvC scope cl C X.env) fp) elt (tE X.K W0 m)) (hs : ∀ x, foldedSetIterable iter X.env x = pure x) (hs1 : ∀ env x, foldedSetIterable iter1 env x = pure x) :
    PE X (.ListComp elt [⟨tg, iter, ifs, 0⟩, ⟨tg1, iter1, ifs1, 0⟩] scope pos) (tE X.K W (sLc2 mi g t mi1 g1 t1 m (own.map (·.2)) vs1)) := PE.weak (pe_lc2 hc hN hi ok hv hg ht hi1 hg1 ht1 he hs hs1) (tE_lc2 hsl hsl1)
end
end Z
/-! ZG: what the printed texts lean on. -/
namespace Z
open PySem PySem.Spec PyProof.Rows L2
theorem zb_len : bootBuiltins "len" = some (.builtin "len") := by decide +kernel
theorem zb_abs : bootBuiltins "abs" = some (.builtin "abs") := by decide +kernel
theorem zb_max : bootBuiltins "max" = some (.builtin "max") := by decide +kernel
theorem zb_min : bootBuiltins "min" = some (.builtin "min") := by decide +kernel
theorem zb_all : bootBuiltins "all" = some (.builtin "all") := by decide +kernel
theorem zb_isinstance : bootBuiltins "isinstance" = some (.builtin "isinstance") := by decide +kernel
theorem zb_int : bootBuiltins "int" = some (.type "int") := by decide +kernel
theorem zb_bool : bootBuiltins "bool" = some (.type "bool") := by decide +kernel
theorem zb_str : bootBuiltins "str" = some (.type "str") := by decide +kernel
theorem zb_tuple : bootBuiltins "tuple" = some (.type "tuple") := by decide +kernel
theorem takesW {X : Cx} : L3.Takes X W0 := fun _ _ ⟨_, _, _, _, _, _, _, _, _, _, _, _, _, _, _, _, z⟩ => z.elim
/-- a constant of the top -/
def Cst (K : PySem.W.Frag) (mg : Str → Option Value) (x : Str) (w : Val) : Prop := ∃ u v, mg x = some u ∧ RelV v u ∧ ∀ al B H, Rep K al B H w v
section
variable {X : Cx} {W : WX}
theorem oe_gl {x : Str} {w : Val} {pos : Pos} (hg : Gl X x) (c : Cst X.K X.mg x w) (hd : (x == ("__debug__" : Str)) = false := by decide) : PE X (.Name x pos) (tE X.K W (sC w)) := by
  obtain ⟨u, v, e, r, q⟩ := c
  exact oe_glob hg e r q hd
end
theorem cst_int {K : PySem.W.Frag} {mg : Str → Option Value} {x : Str} {i : Int} {t : Tok} (e : mg x = some (.int i t)) : Cst K mg x (.int i) := ⟨_, .int i, e, ⟨_, rfl⟩, fun _ _ _ => .int i⟩
theorem cst_str {K : PySem.W.Frag} {mg : Str → Option Value} {x : Str} {i : Str} {t : Tok} (e : mg x = some (.str i t)) : Cst K mg x (.str i) := ⟨_, .str i, e, ⟨_, rfl⟩, fun _ _ _ => .str i⟩
theorem vals_texts : ∀ {us : List Value} {xs : List Str}, (us.map fun u => match u with | .str y _ => some y | _ => none) = xs.map some → Vals (xs.map V.str) us
  | [], [], _ => .nil
  | [], _ :: _, h => by cases h
  | _ :: _, [], h => by cases h
  | u :: us, x :: xs, h => by
    rw [List.map_cons, List.map_cons] at h
    injection h with h1 h2
    refine .cons ?_ (vals_texts h2)
    cases u <;> first | (cases h1; done) | (cases h1; exact ⟨_, rfl⟩)
theorem cst_texts {K : PySem.W.Frag} {mg : Str → Option Value} {x : Str} {T : Addr} {o : Obj} {its : Array Value} {n : Nat} {xs : List Str} (e : mg x = some (.ref T)) (l : K.lookup T = some o) (c : o.cls = .type "tuple") (d : o.dict = none) (q : o.data = .seq its n)
    (r : (its.toList.map fun u => match u with | .str y _ => some y | _ => none) = xs.map some) (z : xs.length ≤ sizeLine) : Cst K mg x (.tup (xs.map Val.str)) :=
  ⟨_, .ref T, e, rfl, fun _ _ _ => rep_texts l c d q (vals_texts r) z⟩
/-- an exception's own class -/
structure ExcT (K : PySem.W.Frag) (mg : Str → Option Value) (x : Str) (C : Addr) (bm : List Value) (new : String) : Prop where
  g : mg x = some (.ref C)
  xP : PySem.W.excIn K C bm new = true
  kP : PySem.W.keepIn K (.ref C) = true
  bP : PySem.W.subIn K (.ref C) (.type "BaseException") = some true
  tP : PySem.W.typeIn K (.ref C) = some (.type "type")
  iP : PySem.W.isClsIn K C = true
  sP : PySem.W.subIn K (.ref C) (.ref C) = some true
theorem ExcT.self {K : PySem.W.Frag} {mg : Str → Option Value} {x : Str} {C : Addr} {bm : List Value} {new : String} (T : ExcT K mg x C bm new) : PySem.W.exmOne K (.ref C) (.ref C) = some true := by
  have e1 : (PySem.W.subIn K (.ref C) (.type "BaseException") == some true) = true := by rw [T.bP]; rfl
  have e2 : ((PySem.W.clsIn K C).isSome && PySem.W.typeIn K (.ref C) == some (.type "type")) = true := by
    have h2' : (PySem.W.clsIn K C).isSome = true := T.iP
    rw [h2', T.tP]; rfl
  show (if (PySem.W.subIn K (.ref C) (.type "BaseException") == some true) = true then (if ((PySem.W.clsIn K C).isSome && PySem.W.typeIn K (.ref C) == some (.type "type")) = true then PySem.W.subIn K (.ref C) (.ref C) else none) else none) = some true
  rw [if_pos e1, if_pos e2]
  exact T.sP
/-- except X, X the one class that may come -/
def only (C : Addr) : Value → Option Bool := fun v => match v with
  | .ref a => if a = C then some true else none
  | _ => none
end Z
/-! ZL: how the own evaluators go, step by step. -/
namespace Z
open PySem PySem.Spec PyProof.Rows L2
section
variable {β γ : Type} {ro : En} {h : HH}
@[simp] theorem outOf_nx : outOf (.go .nx ro h) = .ok .non h := rfl
@[simp] theorem outOf_ret {w : Val} : outOf (.go (.ret w) ro h) = .ok w h := rfl
@[simp] theorem outOf_ex {e : Ex} : outOf (.go (.ex e) ro h) = .ex e h := rfl
def sq (o : SO) (m : SS) : SO := match o with
  | .go .nx ro1 h1 => m ro1 h1
  | o => o
@[simp] theorem sq_nx {m : SS} : sq (.go .nx ro h) m = m ro h := rfl
@[simp] theorem sq_ret {m : SS} {w : Val} : sq (.go (.ret w) ro h) m = .go (.ret w) ro h := rfl
@[simp] theorem sq_ex {m : SS} {e : Ex} : sq (.go (.ex e) ro h) m = .go (.ex e) ro h := rfl
@[simp] theorem sq_brk {m : SS} : sq (.go .brk ro h) m = .go .brk ro h := rfl
@[simp] theorem sq_ct {m : SS} : sq (.go .ct ro h) m = .go .ct ro h := rfl
@[simp] theorem nSeq_e {a b : SS} : nSeq a b ro h = sq (a ro h) b := rfl
@[simp] theorem nNext_e : nNext ro h = .go .nx ro h := rfl
@[simp] theorem nBrk_e : nBrk ro h = .go .brk ro h := rfl
@[simp] theorem nCt_e : nCt ro h = .go .ct ro h := rfl
@[simp] theorem nRetN_e : nRetN ro h = .go (.ret .non) ro h := rfl
@[simp] theorem sb_ok {a : β} {k : β → HH → SO} : sbind (.ok a h) ro k = k a h := rfl
@[simp] theorem sb_ex {e : Ex} {k : β → HH → SO} : sbind (.ex e h) ro k = .go (.ex e) ro h := rfl
@[simp] theorem nRet_e {m : SE} : nRet m ro h = sbind (m ro h) ro fun w h1 => .go (.ret w) ro h1 := rfl
@[simp] theorem nExpr_e {m : SE} : nExpr m ro h = sbind (m ro h) ro fun _ h1 => .go .nx ro h1 := rfl
@[simp] theorem nSet_e {i : Nat} {m : SE} : nSet i m ro h = sbind (m ro h) ro fun w h1 => .go .nx (ro.set i (some w)) h1 := rfl
@[simp] theorem nIf_e {c : En → M Bool} {a b : SS} : nIf c a b ro h = sbind (c ro h) ro fun k h1 => if k = true then a ro h1 else b ro h1 := rfl
@[simp] theorem nRaise_e {e : Ex} : nRaise e ro h = .go (.ex e) ro h := rfl
@[simp] theorem ob_ok {a : β} {f : β → M γ} : obind (.ok a h) f = f a h := rfl
@[simp] theorem ob_ex {e : Ex} {f : β → M γ} : obind (.ex e h : Out β) f = .ex e h := rfl
@[simp] theorem ret_e {a : β} : (ret a : M β) h = .ok a h := rfl
@[simp] theorem bind_e {m : M β} {f : β → M γ} : bind m f h = obind (m h) f := rfl
@[simp] theorem sC_e {w : Val} : sC w ro h = .ok w h := rfl
@[simp] theorem sVar_e {i : Nat} {w : Val} (e : ro[i]? = some (some w)) : sVar i ro h = .ok w h := by unfold sVar; rw [e]
@[simp] theorem sVar_0 {w : Val} {r : En} : sVar 0 (some w :: r) h = .ok w h := rfl
@[simp] theorem sVar_1 {w : Val} {a : Option Val} {r : En} : sVar 1 (a :: some w :: r) h = .ok w h := rfl
@[simp] theorem sVar_2 {w : Val} {a b : Option Val} {r : En} : sVar 2 (a :: b :: some w :: r) h = .ok w h := rfl
@[simp] theorem sVar_s {i : Nat} {a : Option Val} {r : En} : sVar (i + 1) (a :: r) h = sVar i r h := rfl
@[simp] theorem sBin_e {f : Val → Val → M Val} {a b : SE} : sBin f a b ro h = obind (a ro h) fun x h1 => obind (b ro h1) fun y h2 => f x y h2 := rfl
@[simp] theorem sUn_e {f : Val → M Val} {a : SE} : sUn f a ro h = obind (a ro h) fun x h1 => f x h1 := rfl
@[simp] theorem aNil_e : aNil ro h = .ok [] h := rfl
@[simp] theorem aCons_e {m : SE} {r : En → M (List Val)} : aCons m r ro h = obind (m ro h) fun x h1 => obind (r ro h1) fun xs h2 => .ok (x :: xs) h2 := rfl
@[simp] theorem sArgs_e {f : List Val → M Val} {r : En → M (List Val)} : sArgs f r ro h = obind (r ro h) fun xs h1 => f xs h1 := rfl
@[simp] theorem sAnd_e {a b : SE} : sAnd a b ro h = obind (a ro h) fun w h1 => obind (truthy w h1) fun k h2 => if k = true then b ro h2 else .ok w h2 := by
  unfold sAnd
  show obind (a ro h) _ = obind (a ro h) _
  congr; funext w h1
  show obind (truthy w h1) _ = obind (truthy w h1) _
  congr; funext k h2
  cases k <;> rfl
@[simp] theorem sOr_e {a b : SE} : sOr a b ro h = obind (a ro h) fun w h1 => obind (truthy w h1) fun k h2 => if k = true then .ok w h2 else b ro h2 := by
  unfold sOr
  show obind (a ro h) _ = obind (a ro h) _
  congr; funext w h1
  show obind (truthy w h1) _ = obind (truthy w h1) _
  congr; funext k h2
  cases k <;> rfl
@[simp] theorem sNot_e {a : SE} : sNot a ro h = obind (a ro h) fun w h1 => obind (truthy w h1) fun k h2 => .ok (.bl (!k)) h2 := rfl
@[simp] theorem sIf_e {c : En → M Bool} {a b : SE} : sIf c a b ro h = obind (c ro h) fun k h1 => if k = true then a ro h1 else b ro h1 := by
  unfold sIf
  show obind (c ro h) _ = obind (c ro h) _
  congr; funext k h1
  cases k <;> rfl
@[simp] theorem tr_bl {b : Bool} : truthy (.bl b) h = .ok b h := rfl
@[simp] theorem tr_non : truthy .non h = .ok false h := rfl
@[simp] theorem cV_e {a : SE} : cV a ro h = obind (a ro h) fun w h1 => truthy w h1 := rfl
@[simp] theorem cAnd_e {a b : En → M Bool} : cAnd a b ro h = obind (a ro h) fun k h1 => if k = true then b ro h1 else .ok false h1 := by
  unfold cAnd
  show obind (a ro h) _ = obind (a ro h) _
  congr; funext k h1
  cases k <;> rfl
@[simp] theorem cOr_e {a b : En → M Bool} : cOr a b ro h = obind (a ro h) fun k h1 => if k = true then .ok true h1 else b ro h1 := by
  unfold cOr
  show obind (a ro h) _ = obind (a ro h) _
  congr; funext k h1
  cases k <;> rfl
@[simp] theorem cNot_e {a : En → M Bool} : cNot a ro h = obind (a ro h) fun k h1 => .ok (!k) h1 := rfl
def unB (w : Val) : M Bool := match w with
  | .bl b => ret b
  | _ => fail
@[simp] theorem unB_bl {b : Bool} : unB (.bl b) h = .ok b h := rfl
@[simp] theorem cBin_e {f : Val → Val → M Val} {a b : SE} : cBin f a b ro h = obind (a ro h) fun x h1 => obind (b ro h1) fun y h2 => obind (f x y h2) unB := by
  show obind (obind (a ro h) _) _ = _
  cases a ro h with
  | bad => rfl
  | ex _ _ => rfl
  | ok x h1 =>
    show obind (obind (b ro h1) _) _ = obind (b ro h1) _
    cases b ro h1 <;> rfl
@[simp] theorem asT_e {a : SE} : asT a ro h = obind (a ro h) unB := rfl
@[simp] theorem sChn_e {m : SE} {k : SK} : sChn m k ro h = obind (m ro h) fun a h1 => k a ro h1 := rfl
@[simp] theorem kLast_e {f : Val → Val → M Val} {m : SE} {a : Val} : kLast f m a ro h = obind (m ro h) fun b h1 => f a b h1 := rfl
def kIf (w : Val) (k : M Val) : M Val := match w with
  | .bl true => k
  | .bl false => ret (.bl false)
  | _ => fail
@[simp] theorem kIf_bl {b : Bool} {k : M Val} : kIf (.bl b) k h = if b = true then k h else .ok (.bl false) h := by cases b <;> rfl
@[simp] theorem kLink_e {f : Val → Val → M Val} {m : SE} {k : SK} {a : Val} : kLink f m k a ro h = obind (m ro h) fun b h1 => obind (f a b h1) fun z h2 => kIf z (k b ro) h2 := by
  show obind (m ro h) _ = obind (m ro h) _
  congr
@[simp] theorem sCall_e {F : List Val → M Val} {n m np : Nat} {gW : List Val → List Val → List Val} {ra rk : En → M (List Val)} : sCall F n m np gW ra rk ro h = obind (ra ro h) fun ws h1 => obind (rk ro h1) fun zs h2 => if ws.length = n ∧ zs.length = m ∧ (gW ws zs).length = np then F (gW ws zs) h2 else .bad := by
  show obind (ra ro h) _ = obind (ra ro h) _
  congr; funext ws h1
  show obind (rk ro h1) _ = obind (rk ro h1) _
  congr; funext zs h2
  by_cases c : ws.length = n ∧ zs.length = m ∧ (gW ws zs).length = np
  · rw [if_pos c, if_pos c]
  · rw [if_neg c, if_neg c]; rfl
@[simp] theorem oNone_e : oNone ro h = .ok none h := rfl
def unI (w : Val) : M (Option Int) := match w with
  | .int i => ret (some i)
  | _ => fail
@[simp] theorem unI_i {i : Int} : unI (.int i) h = .ok (some i) h := rfl
@[simp] theorem oSome_e {m : SE} : oSome m ro h = obind (m ro h) unI := rfl
@[simp] theorem sSl_e {m : SE} {lo hi : SO'} : sSl m lo hi ro h = obind (m ro h) fun w h1 => obind (lo ro h1) fun l h2 => obind (hi ro h2) fun u h3 => bSl w l u h3 := rfl
@[simp] theorem gNm_e {i : Nat} {w : Val} : gNm i w ro h = .go .nx (ro.set i (some w)) h := rfl
@[simp] theorem gsNil_e : gsNil [] ro h = .go .nx ro h := rfl
@[simp] theorem gsCons_nm {i : Nat} {r : List Val → En → HH → SO} {w : Val} {ws : List Val} : gsCons (gNm i) r (w :: ws) ro h = r ws (ro.set i (some w)) h := rfl
@[simp] theorem gTp_t {n : Nat} {g : List Val → En → HH → SO} {xs : List Val} : gTp n g (.tup xs) ro h = if xs.length = n then g xs ro h else .bad := rfl
@[simp] theorem tYesZ_e : tYesZ ro h = .ok true h := rfl
def asg (o : SO) : SO := match o with
  | .go .nx ro2 h2 => .go .nx ro2 h2
  | _ => .bad
@[simp] theorem asg_nx : asg (.go .nx ro h) = .go .nx ro h := rfl
@[simp] theorem nAsg_e {m : SE} {g : GM} : nAsg m g ro h = sbind (m ro h) ro fun w h1 => asg (g w ro h1) := rfl
@[simp] theorem iVal_e {m : SE} : iVal m ro h = obind (m ro h) fun w h1 => itmV w h1 := rfl
@[simp] theorem itmV_tup {xs : List Val} : itmV (.tup xs) h = .ok (.st xs, xs.length) h := rfl
@[simp] theorem itmV_lst {xs : List Val} : itmV (.lst xs) h = .ok (.st xs, xs.length) h := rfl
@[simp] theorem iEn_e {r : En → M (List Val)} : iEn r ro h = obind (r ro h) fun ws h1 => fEn ws h1 := rfl
@[simp] theorem fEn_tup {xs : List Val} : fEn [.tup xs] h = .ok (.st (prs 0 xs), xs.length) h := rfl
@[simp] theorem nFor_e {mi : SI} {g : GM} {b : SS} : nFor mi g b ro h = sbind (mi ro h) ro fun x h1 => turns g b x.1 x.2 0 ro h1 := rfl
@[simp] theorem iRgN_e {n : Nat} {r : En → M (List Val)} : iRgN n r ro h = obind (r ro h) fun ws h1 => if ws.length = n then fRg ws h1 else .bad := by
  show obind (r ro h) _ = obind (r ro h) _
  congr; funext ws h1
  split <;> rfl
end
/-! ### comprehensions over fixed items -/
theorem lc_list {g : GM} {t : En → M Bool} {m : SE} {ro : En} {h : HH} (f : Val → List Val) : ∀ (xs ys : List Val) (k i : Nat) (acc : List Val), ys.drop i = xs → k = xs.length →
    (∀ w ∈ xs, ∃ ro1, g w ro h = .go .nx ro1 h ∧ ((t ro1 h = .ok true h ∧ ∃ y, m ro1 h = .ok y h ∧ f w = [y]) ∨ (t ro1 h = .ok false h ∧ f w = []))) →
    lcTurns g t m ro (.st ys) k i acc h = .ok (acc ++ xs.flatMap f) h
  | [], ys, k, i, acc, e, hk, _ => by
    have en : ys[i]? = none := List.getElem?_eq_none (by have := congrArg List.length e; rw [List.length_drop] at this; simp at this; omega)
    subst hk
    unfold lcTurns
    show (match nxt (.st ys) i h with | some none => Out.ok acc h | _ => .bad) = _
    have : nxt (.st ys) i h = some none := by show some ys[i]? = _; rw [en]
    rw [this]; simp
  | x :: xs, ys, k, i, acc, e, hk, hf => by
    have es : ys[i]? = some x := by
      have := congrArg (fun l => l[0]?) e
      simpa using this
    have ed : ys.drop (i + 1) = xs := by
      have := congrArg List.tail e
      simpa using this
    have hk : k = xs.length + 1 := hk
    subst hk
    unfold lcTurns
    have : nxt (.st ys) i h = some (some x) := by show some ys[i]? = _; rw [es]
    rw [this]
    obtain ⟨ro1, e1, c⟩ := hf x List.mem_cons_self
    have ih := fun acc => lc_list f xs ys xs.length (i + 1) acc ed rfl fun w hw => hf w (List.mem_cons_of_mem _ hw)
    show (match g x ro h with | .go .nx ro1 h1 => _ | _ => Out.bad) = _
    rw [e1]
    rcases c with ⟨c1, y, c2, c3⟩ | ⟨c1, c3⟩
    · simp only [c1, c2, if_true]
      rw [ih, List.flatMap_cons, c3, List.append_assoc]
    · simp only [c1, Bool.false_eq_true, if_false]
      rw [ih, List.flatMap_cons, c3, List.nil_append]
/-- [e for x in xs] that changes nothing -/
theorem sLc_map {mi : SI} {i : Nat} {m : SE} {own : List Nat} {ro : En} {h : HH} {xs : List Val} {f : Val → Val} (e : mi ro h = .ok (.st xs, xs.length) h) (hf : ∀ w ∈ xs, m ((wipeN ro own).set i (some w)) h = .ok (f w) h) :
    sLc mi (gNm i) tYesZ m own ro h = .ok (.lst (xs.map f)) h := by
  show obind (mi ro h) _ = _
  rw [e]
  show obind (lcTurns (gNm i) tYesZ m (wipeN ro own) (.st xs) xs.length 0 [] h) _ = _
  have q := lc_list (g := gNm i) (t := tYesZ) (m := m) (ro := wipeN ro own) (h := h) (fun w => [f w]) xs xs xs.length 0 [] (by simp) rfl fun w hw => ⟨_, rfl, .inl ⟨rfl, _, hf w hw, rfl⟩⟩
  rw [q]
  simp only [List.nil_append, ← List.map_eq_flatMap, ob_ok, ret_e]
theorem bls_map {β : Type} (f : β → Bool) : ∀ xs : List β, bls (xs.map fun w => Val.bl (f w)) = some (xs.map f)
  | [] => rfl
  | x :: xs => by
    show (bls (xs.map fun w => Val.bl (f w))).map _ = _
    rw [bls_map f xs]; rfl
theorem fAll_map {β : Type} (f : β → Bool) (xs : List β) (h : HH) : fAll [.lst (xs.map fun w => Val.bl (f w))] h = .ok (.bl (xs.all f)) h := by
  show (match bls (xs.map fun w => Val.bl (f w)) with | some bs => Out.ok (Val.bl (bs.all id)) h | none => .bad) = _
  rw [bls_map]
  simp [List.all_map, Function.comp_def]
/-! ### plain values -/
mutual
def pl : Val → Bool
  | .non => true
  | .bl _ => true
  | .int _ => true
  | .str x => PyData.strOk x && decide (x.length ≤ 10000)
  | .tup xs => decide (xs.length ≤ 10000) && pls xs
  | .lst xs => decide (xs.length ≤ 10000) && pls xs
  | _ => false
def pls : List Val → Bool
  | [] => true
  | x :: xs => pl x && pls xs
end
mutual
theorem pl_ok : ∀ w : Val, pl w = true → okV w = true
  | .non, _ => rfl
  | .bl _, _ => rfl
  | .int _, _ => rfl
  | .str x, e => by unfold pl at e; unfold okV; rw [Bool.and_eq_true] at e; exact e.1
  | .tup xs, e => by unfold pl at e; rw [Bool.and_eq_true] at e; unfold okV; exact pls_ok xs e.2
  | .lst xs, e => by unfold pl at e; rw [Bool.and_eq_true] at e; unfold okV; exact pls_ok xs e.2
  | .ref _, e => by cases e
  | .glo _, e => by cases e
  | .ty _, e => by cases e
  | .scr _, e => by cases e
  | .exn _ _ _ _, e => by cases e
theorem pls_ok : ∀ w : List Val, pls w = true → okVs w = true
  | [], _ => rfl
  | x :: xs, e => by
    unfold pls at e; unfold okVs
    rw [Bool.and_eq_true] at e ⊢
    exact ⟨pl_ok x e.1, pls_ok xs e.2⟩
end
theorem pls_mem : ∀ {xs : List Val}, pls xs = true → ∀ w ∈ xs, pl w = true
  | x :: xs, e, w, hw => by
    unfold pls at e
    rw [Bool.and_eq_true] at e
    rcases List.mem_cons.mp hw with rfl | hw
    · exact e.1
    · exact pls_mem e.2 w hw
theorem pls_of : ∀ {xs : List Val}, (∀ w ∈ xs, pl w = true) → pls xs = true
  | [], _ => rfl
  | x :: xs, h => by
    show (pl x && pls xs) = true
    rw [h x List.mem_cons_self, pls_of fun w hw => h w (List.mem_cons_of_mem _ hw)]; rfl
theorem pl_mem {xs : List Val} (e : pl (.tup xs) = true) : ∀ w ∈ xs, pl w = true := by
  unfold pl at e
  rw [Bool.and_eq_true] at e
  exact pls_mem e.2
theorem pl_len {xs : List Val} (e : pl (.tup xs) = true) : xs.length ≤ 10000 := by
  unfold pl at e
  rw [Bool.and_eq_true, decide_eq_true_eq] at e
  exact e.1
theorem pl_tup {xs : List Val} (l : xs.length ≤ 10000) (h : ∀ w ∈ xs, pl w = true) : pl (.tup xs) = true := by
  unfold pl
  rw [pls_of h, Bool.and_true, decide_eq_true_eq]
  exact l
theorem pl_lst {xs : List Val} (l : xs.length ≤ 10000) (h : ∀ w ∈ xs, pl w = true) : pl (.lst xs) = true := by
  unfold pl
  rw [pls_of h, Bool.and_true, decide_eq_true_eq]
  exact l
def isInt : Val → Bool | .int _ => true | .bl _ => true | _ => false
def isBl : Val → Bool | .bl _ => true | _ => false
def isStr : Val → Bool | .str _ => true | _ => false
def isTup : Val → Bool | .tup _ => true | _ => false
section
variable {w : Val} {h : HH}
theorem isi_int (e : pl w = true) : fIsi [w, .ty "int"] h = .ok (.bl (isInt w)) h := by cases w <;> first | rfl | cases e
theorem isi_bool (e : pl w = true) : fIsi [w, .ty "bool"] h = .ok (.bl (isBl w)) h := by cases w <;> first | rfl | cases e
theorem isi_str (e : pl w = true) : fIsi [w, .ty "str"] h = .ok (.bl (isStr w)) h := by cases w <;> first | rfl | cases e
theorem isi_tuple (e : pl w = true) : fIsi [w, .ty "tuple"] h = .ok (.bl (isTup w)) h := by cases w <;> first | rfl | cases e
@[simp] theorem bOrd_e {f : Int → Int → Bool} {i j : Int} : bOrd f (.int i) (.int j) h = .ok (.bl (f i j)) h := rfl
@[simp] theorem len_tup {xs : List Val} : fLen [.tup xs] h = .ok (.int (xs.length : Nat)) h := rfl
@[simp] theorem len_lst {xs : List Val} : fLen [.lst xs] h = .ok (.int (xs.length : Nat)) h := rfl
theorem len_str {x : Str} (l : x.length ≤ sizeLine) : fLen [.str x] h = .ok (.int (x.length : Nat)) h := by
  show (if x.length ≤ sizeLine then _ else _) = _
  rw [if_pos l]
theorem itmV_str {x : Str} (l : x.length ≤ sizeLine) : itmV (.str x) h = .ok (.st (signs x), (signs x).length) h := by
  show (if x.length ≤ sizeLine then _ else _) = _
  rw [if_pos l]
  have : (signs x).length = x.length := by unfold signs; rw [List.length_map]; rfl
  rw [this]
theorem pl_str {x : Str} (e : pl (.str x) = true) : x.length ≤ sizeLine := by
  unfold pl at e
  rw [Bool.and_eq_true, decide_eq_true_eq] at e
  have := sizeLine_eq
  omega
theorem bEq_q {a b : Val} {k : Bool} (n1 : ∀ n, a ≠ .ref n) (n2 : ∀ n, b ≠ .ref n) (e : quick a b = some k) : bEq a b h = .ok (.bl k) h := by
  unfold bEq
  have r1 : rd a h = some a := by cases a <;> first | rfl | exact absurd rfl (n1 _)
  have r2 : rd b h = some b := by cases b <;> first | rfl | exact absurd rfl (n2 _)
  rw [r1, r2]
  show (match veq a b with | some k => Out.ok (Val.bl k) h | none => .bad) = _
  unfold veq
  rw [e]
@[simp] theorem eq_ii {i j : Int} : bEq (.int i) (.int j) h = .ok (.bl (decide (i = j))) h := rfl
@[simp] theorem ne_ii {i j : Int} : bNe (.int i) (.int j) h = .ok (.bl (!decide (i = j))) h := rfl
@[simp] theorem eq_ss {i j : Str} : bEq (.str i) (.str j) h = .ok (.bl (decide (i = j))) h := rfl
@[simp] theorem ne_ss {i j : Str} : bNe (.str i) (.str j) h = .ok (.bl (!decide (i = j))) h := rfl
@[simp] theorem eq_bb {i j : Bool} : bEq (.bl i) (.bl j) h = .ok (.bl (decide (i = j))) h := rfl
@[simp] theorem ne_bb {i j : Bool} : bNe (.bl i) (.bl j) h = .ok (.bl (!decide (i = j))) h := rfl
@[simp] theorem is_non {w : Val} : bIs false w .non h = .ok (.bl (match w with | .non => true | _ => false)) h := by cases w <;> rfl
@[simp] theorem isnot_non {w : Val} : bIs true w .non h = .ok (.bl (match w with | .non => false | _ => true)) h := by cases w <;> rfl
@[simp] theorem add_ii {i j : Int} : bAdd (.int i) (.int j) h = .ok (.int (i + j)) h := rfl
@[simp] theorem sub_ii {i j : Int} : bSub (.int i) (.int j) h = .ok (.int (i - j)) h := rfl
@[simp] theorem neg_i {i : Int} : uNeg (.int i) h = .ok (.int (-i)) h := rfl
theorem mod_ii {i j : Int} (l : 0 < j) : bMod (.int i) (.int j) h = .ok (.int (i % j)) h := by
  show (if 0 < j then _ else _) = _
  rw [if_pos l]
theorem ix_t {xs : List Val} {i : Nat} {w : Val} (e : xs[i]? = some w) : bIx (.tup xs) (.int (i : Nat)) h = .ok w h := by
  have l : i < xs.length := (List.getElem?_eq_some_iff.mp e).1
  show (match L2.atI xs (i : Nat) with | some w => Out.ok w h | none => .bad) = _
  have : L2.atI xs (i : Nat) = some w := atI_nat e
  rw [this]
theorem ix_l {xs : List Val} {i : Nat} {w : Val} (e : xs[i]? = some w) : bIx (.lst xs) (.int (i : Nat)) h = .ok w h := by
  have l : i < xs.length := (List.getElem?_eq_some_iff.mp e).1
  show (match L2.atI xs (i : Nat) with | some w => Out.ok w h | none => .bad) = _
  have : L2.atI xs (i : Nat) = some w := atI_nat e
  rw [this]
@[simp] theorem ix_t0 {a : Val} {xs : List Val} : bIx (.tup (a :: xs)) (.int 0) h = .ok a h := ix_t (i := 0) rfl
@[simp] theorem ix_t1 {a b : Val} {xs : List Val} : bIx (.tup (a :: b :: xs)) (.int 1) h = .ok b h := ix_t (i := 1) rfl
@[simp] theorem ix_t2 {a b c : Val} {xs : List Val} : bIx (.tup (a :: b :: c :: xs)) (.int 2) h = .ok c h := ix_t (i := 2) rfl
theorem ix_r {n i : Nat} {xs : List Val} {w : Val} (e : h[n]? = some (.lst xs)) (e2 : xs[i]? = some w) : bIx (.ref n) (.int (i : Nat)) h = .ok w h := by
  have : items (.ref n) h = some xs := by unfold items; dsimp only; rw [e]
  show (match items (.ref n) h with | some xs => (match L2.atI xs (i : Nat) with | some w => Out.ok w h | none => .bad) | none => .bad) = _
  rw [this]
  dsimp only
  have : L2.atI xs (i : Nat) = some w := atI_nat e2
  rw [this]
end
end Z
namespace Z
open PySem PySem.Spec PyProof.Rows L2
/-! ### == () -/
def isUnit : Val → Bool
  | .tup [] => true
  | _ => false
theorem depth_nil : (toD (.tup [])).depth ≤ 64 := by decide
theorem eqv_nil {w : Val} (e : pl w = true) : PyData.eqv (toD w) (toD (.tup [])) = (isUnit w) := by
  cases w with
  | tup xs =>
    cases xs with
    | nil => rfl
    | cons x xs => rfl
  | _ => first | rfl | cases e
theorem bEq_unit {w : Val} {h : HH} (e : pl w = true) : bEq w (.tup []) h = .ok (.bl (isUnit w)) h := by
  have o := pl_ok w e
  have r1 : rd w h = some w := by cases w <;> first | rfl | cases e
  unfold bEq
  rw [r1]
  show (match veq w (.tup []) with | some k => Out.ok (Val.bl k) h | none => .bad) = _
  have : veq w (.tup []) = some (isUnit w) := by
    unfold veq
    have q : quick w (.tup []) = none := by cases w <;> rfl
    rw [q]
    dsimp only
    rw [if_pos ⟨o, rfl, Nat.le_trans (Nat.min_le_right _ _) depth_nil⟩, eqv_nil e]
  rw [this]
@[simp] theorem fTup_nil {h : HH} : fTup [] h = .ok (.tup []) h := rfl
theorem fTup_ok {xs : List Val} {h : HH} (l : xs.length ≤ 100000) : fTup xs h = .ok (.tup xs) h := by
  show (if xs.length ≤ sizeLine then _ else _) = _
  rw [if_pos (by have := sizeLine_eq; omega)]
theorem fLst_ok {xs : List Val} {h : HH} (l : xs.length ≤ 100000) : fLst xs h = .ok (.lst xs) h := by
  show (if xs.length ≤ sizeLine then _ else _) = _
  rw [if_pos (by have := sizeLine_eq; omega)]
theorem fNew_ok {xs : List Val} {h : HH} (l : xs.length ≤ 100000) : fNew xs h = .ok (.ref h.length) (h ++ [.lst xs]) := by
  show (if xs.length ≤ sizeLine then _ else _) = _
  rw [if_pos (by have := sizeLine_eq; omega)]
@[simp] theorem fTpl_l {xs : List Val} {h : HH} : fTpl [.lst xs] h = .ok (.tup xs) h := rfl
@[simp] theorem fTpl_t {xs : List Val} {h : HH} : fTpl [.tup xs] h = .ok (.tup xs) h := rfl
theorem notin_l {w : Val} {xs : List Val} {h : HH} (f : flat w = true) (g : xs.all flat = true) : bIn true w (.lst xs) h = .ok (.bl (!xs.any fun y => eqF y w)) h := by
  have : bIn true w (.lst xs) h = if flat w = true ∧ xs.all flat = true then .ok (.bl (!xs.any fun y => eqF y w)) h else .bad := by cases w <;> rfl
  rw [this, if_pos ⟨f, g⟩]
theorem in_t {w : Val} {xs : List Val} {h : HH} (f : flat w = true) (g : xs.all flat = true) : bIn false w (.tup xs) h = .ok (.bl (xs.any fun y => eqF y w)) h := by
  have : bIn false w (.tup xs) h = if flat w = true ∧ xs.all flat = true then .ok (.bl (xs.any fun y => eqF y w)) h else .bad := by cases w <;> rfl
  rw [this, if_pos ⟨f, g⟩]
end Z
namespace Z
open PySem PySem.Spec PyProof.Rows L2
def mtT (f : Val → List Val → M Val) (ra : En → M (List Val)) (ro : En) (w : Val) : M Val := fun h => match w with
  | .tup xs => obind (ra ro h) fun ws => f (.tup xs) ws
  | _ => .bad
@[simp] theorem sMtT_e {f : Val → List Val → M Val} {mo : SE} {ra : En → M (List Val)} {ro : En} {h : HH} : sMtT f mo ra ro h = obind (mo ro h) fun w h1 => mtT f ra ro w h1 := rfl
@[simp] theorem mtT_t {f : Val → List Val → M Val} {ra : En → M (List Val)} {ro : En} {h : HH} {xs : List Val} : mtT f ra ro (.tup xs) h = obind (ra ro h) fun ws h1 => f (.tup xs) ws h1 := rfl
def mtL (f : Val → List Val → M Val) (ra : En → M (List Val)) (ro : En) (w : Val) : M Val := fun h => match w with
  | .ref n => match h[n]? with
    | some (.lst _) => obind (ra ro h) fun ws => f (.ref n) ws
    | _ => .bad
  | _ => .bad
@[simp] theorem sMtL_e {f : Val → List Val → M Val} {mo : SE} {ra : En → M (List Val)} {ro : En} {h : HH} : sMtL f mo ra ro h = obind (mo ro h) fun w h1 => mtL f ra ro w h1 := rfl
theorem mtL_r {f : Val → List Val → M Val} {ra : En → M (List Val)} {ro : En} {h : HH} {n : Nat} {xs : List Val} (e : h[n]? = some (.lst xs)) : mtL f ra ro (.ref n) h = obind (ra ro h) fun ws h1 => f (.ref n) ws h1 := by
  unfold mtL
  dsimp only
  rw [e]
end Z
namespace Z
open PySem PySem.Spec PyProof.Rows L2
theorem gSb_e {mo mi : SE} {w : Val} {ro : En} {h h1 h2 : HH} {n j : Nat} {i : Int} {xs : List Val} (e1 : mo ro h = .ok (.ref n) h1) (e2 : mi ro h1 = .ok (.int i) h2) (e3 : h2[n]? = some (.lst xs)) (e4 : ixN xs.length i = some j) :
    gSb mo mi w ro h = .go .nx ro (h2.set n (.lst (xs.set j w))) := by
  unfold gSb
  rw [e1]
  dsimp only
  rw [e2]
  dsimp only
  rw [e3]
  dsimp only
  rw [e4]
theorem div_ii {i j : Int} {h : HH} (l : 0 < j) (u : j < 2 ^ 60) : bDiv (.int i) (.int j) h = .ok (.int (i / j)) h := by
  have c : CDivW i j := by
    refine ⟨l, ?_⟩
    have : j.natAbs < 2 ^ 60 := by omega
    have q : j.natAbs.log2 < 60 := (Nat.log2_lt (by omega)).mpr this
    omega
  show (if CDivW i j then _ else _) = _
  rw [if_pos c]
theorem mul_ii {i j : Int} {h : HH} (c : CMul i j) : bMul (.int i) (.int j) h = .ok (.int (i * j)) h := by
  show (if CMul i j then _ else _) = _
  rw [if_pos c]
theorem bits_le {i : Int} {n : Nat} (u : i.natAbs < 2 ^ n) : Builtin.Int.intBits i ≤ n := by
  have b : ∀ x : Int, x.natAbs ≠ 0 → Builtin.Int.intBits x ≤ x.natAbs.log2 + 1 := fun x _ => by
    unfold Builtin.Int.intBits
    first
      | omega
      | (split <;> omega)
  by_cases z : i.natAbs = 0
  · have : i = 0 := by omega
    subst this
    exact Nat.zero_le _
  · have q : i.natAbs.log2 < n := (Nat.log2_lt z).mpr u
    have := b i z
    omega
theorem pow_ii {i : Int} {j n : Nat} {h : HH} (u : i.natAbs < 2 ^ n) (l : n * j ≤ 100000) : bPow (.int i) (.int (j : Nat)) h = .ok (.int (i ^ j)) h := by
  have c : CPowW i (j : Nat) := by
    refine ⟨by omega, ?_⟩
    have q := bits_le u
    have : Builtin.Int.intBits i * j ≤ n * j := Nat.mul_le_mul_right j q
    have e : ((Builtin.Int.intBits i : Nat) : Int) * (j : Nat) = ((Builtin.Int.intBits i * j : Nat) : Int) := by push_cast; rfl
    rw [e]
    omega
  show (if CPowW i (j : Nat) then _ else _) = _
  rw [if_pos c]
  rfl
/-- a bag of draws: the number's rest, the mix, the steps done -/
def Bag (b c : Nat) (h : HH) : Prop := ∃ f l s : Int, h[b]? = some (.lst [.int f, .int l, .int s]) ∧ 0 ≤ f ∧ 0 ≤ l ∧ l ≤ 2 ^ 40 ∧ 0 ≤ s ∧ s ≤ (c : Nat)
theorem Bag.mono {b c c' : Nat} {h : HH} (B : Bag b c h) (l : c ≤ c') : Bag b c' h := by
  obtain ⟨f, m, s, e, a1, a2, a3, a4, a5⟩ := B
  exact ⟨f, m, s, e, a1, a2, a3, a4, by omega⟩
theorem set_get {h : HH} {b : Nat} {x y : Ob} (e : h[b]? = some x) : (h.set b y)[b]? = some y := by
  rw [List.getElem?_set_self (List.getElem?_eq_some_iff.mp e).1]
end Z
namespace Z
open PySem PySem.Spec PyProof.Rows L2
theorem ix_any {xs : List Val} {v : Int} {h : HH} (h0 : 0 ≤ v) (h1 : v < (xs.length : Nat)) : ∃ w ∈ xs, bIx (.lst xs) (.int v) h = .ok w h := by
  obtain ⟨n, rfl⟩ := Int.eq_ofNat_of_zero_le h0
  have l : n < xs.length := by omega
  exact ⟨xs[n], List.getElem_mem l, ix_l (List.getElem?_eq_getElem l)⟩
theorem ix_anyT {xs : List Val} {v : Int} {h : HH} (h0 : 0 ≤ v) (h1 : v < (xs.length : Nat)) : ∃ w ∈ xs, bIx (.tup xs) (.int v) h = .ok w h := by
  obtain ⟨n, rfl⟩ := Int.eq_ofNat_of_zero_le h0
  have l : n < xs.length := by omega
  exact ⟨xs[n], List.getElem_mem l, ix_t (List.getElem?_eq_getElem l)⟩
/-- a loop that goes through to its end -/
theorem turns_inv {g : GM} {body : SS} {x : Itm} {n : Nat} (I : Nat → En → HH → Prop)
    (hn : ∀ i ro h, I i ro h → i < n → ∃ w ro1 h1 ro2 h2, nxt x i h = some (some w) ∧ g w ro h = .go .nx ro1 h1 ∧ body ro1 h1 = .go .nx ro2 h2 ∧ I (i + 1) ro2 h2)
    (he : ∀ ro h, I n ro h → nxt x n h = some none) : ∀ k i ro h, k + i = n → I i ro h → ∃ ro' h', turns g body x k i ro h = .go .nx ro' h' ∧ I n ro' h'
  | 0, i, ro, h, e, q => by
    have : i = n := by omega
    subst this
    refine ⟨ro, h, ?_, q⟩
    unfold turns
    rw [he ro h q]
  | k + 1, i, ro, h, e, q => by
    obtain ⟨w, ro1, h1, ro2, h2, e1, e2, e3, q2⟩ := hn i ro h q (by omega)
    obtain ⟨ro', h', e4, q3⟩ := turns_inv I hn he k (i + 1) ro2 h2 (by omega) q2
    refine ⟨ro', h', ?_, q3⟩
    unfold turns
    rw [e1]
    simp only [e2, e3]
    exact e4
theorem nums_get {n i : Nat} {lo : Int} (l : i < n) : (nums lo n)[i]? = some (.int (lo + (i : Nat))) := by
  unfold nums
  rw [List.getElem?_map, List.getElem?_range l]
  rfl
theorem nums_end {n : Nat} {lo : Int} : (nums lo n)[n]? = none := by
  unfold nums
  rw [List.getElem?_eq_none]
  simp
theorem fRg1 {n : Nat} {h : HH} (l : n ≤ 1000) : fRg [.int (n : Nat)] h = .ok (.st (nums 0 n), n) h := by
  have c : okR (n : Nat) = true ∧ (n : Int).toNat ≤ sizeLine := by
    refine ⟨?_, ?_⟩
    · unfold okR
      rw [decide_eq_true_eq]
      omega
    · have := sizeLine_eq
      omega
  have e : fRg [.int (n : Nat)] h = if okR (n : Nat) = true ∧ (n : Int).toNat ≤ sizeLine then .ok (.st (nums 0 (n : Int).toNat), (n : Int).toNat) h else .bad := rfl
  rw [e, if_pos c, Int.toNat_natCast]
theorem app_l {n : Nat} {xs : List Val} {y : Val} {h : HH} (e : h[n]? = some (.lst xs)) (l : xs.length ≤ 100000) : mApp (.ref n) [y] h = .ok .non (h.set n (.lst (xs ++ [y]))) := by
  show (match h[n]? with | some (.lst xs) => putL n (xs ++ [y]) .non h | _ => .bad) = _
  rw [e]
  show (if (xs ++ [y]).length ≤ sizeLine then _ else _) = _
  rw [if_pos (by rw [List.length_append, List.length_singleton]; have := sizeLine_eq; omega)]
theorem tpl_r {n : Nat} {xs : List Val} {h : HH} (e : h[n]? = some (.lst xs)) : fTpl [.ref n] h = .ok (.tup xs) h := by
  show (match h[n]? with | some (.lst xs) => Out.ok (Val.tup xs) h | _ => .bad) = _
  rw [e]
end Z
namespace Z
open PySem PySem.Spec PyProof.Rows L2
@[simp] theorem sl_t {xs : List Val} {lo hi : Option Int} {h : HH} : bSl (.tup xs) lo hi h = .ok (.tup (cutW xs lo hi)) h := rfl
end Z
/-! ZR: repr of plain data, texts times numbers, split, join, count of fixed lists, in range, is True. -/
namespace Z
open PySem PySem.Spec PyProof.Rows L2
theorem zb_repr : bootBuiltins "repr" = some (.builtin "repr") := by first | rfl | decide +kernel
section
variable {X : Cx}
def rRepr (K : PySem.W.Frag) : List V → Hp → VK → Prop := fun xs H Q => ∃ x d, xs = [x] ∧ Dp K H x d ∧ d.canLay0 = true ∧ d.showable = true ∧ d.depth ≤ 60 ∧ d.shown.length ≤ sizeLine ∧ Q (.str d.shown) H
theorem call_reprD (hg : X.A.guards = some []) (hu : X.A.units + 64 < cLine) : CallR X (.builtin "repr") (rRepr X.K) := by
  intro pins s σ H xs us Q I r h
  obtain ⟨x, d, rfl, hd, hl, hs, hdp, hz, q⟩ := h
  obtain ⟨v, rfl, rx⟩ := vals1 r
  obtain ⟨as, r1⟩ := Dp.reads I d x v hd rx
  have fin : ∀ h' u tk, (∀ b o, s.heap.get? b = some o → h'.get? b = some o) → EP X pins σ Q (.str d.shown u) { s with heap := h', toks := tk } :=
    fun h' u tk k => ⟨.str d.shown, H, I.kept k, ⟨u, rfl⟩, q⟩
  have nd := PyData.noDict_hsm (as := as) (PyData.hasDict_of_canLay d hl)
  cases d with
  | none => cases r1; exact PySem.P.repr_of_none (fin s.heap _ _ fun _ _ e => e)
  | bool b => cases r1; exact PySem.P.repr_of_bool (fin s.heap _ _ fun _ _ e => e)
  | int i => cases r1; exact PySem.P.repr_of_int (by simpa [PyData.showable] using hs) (fin s.heap _ _ fun _ _ e => e)
  | str y => cases r1; exact PySem.P.repr_of_str (fin s.heap _ _ fun _ _ e => e) (by simpa only [PyData.shown] using hz)
  | list xs =>
    obtain ⟨a, rfl⟩ := isRef_of_reads r1 rfl
    exact repr_of_reads' r1 hs nd hg (by omega) (fun _ _ e => e) fin hz
  | tuple xs =>
    obtain ⟨a, rfl⟩ := isRef_of_reads r1 rfl
    exact repr_of_reads' r1 hs nd hg (by omega) (fun _ _ e => e) fin hz
  | dict kvs => simp [PyData.canLay0] at hl
end
def fRepr (ws : List Val) : M Val := fun h => match ws with
  | [w] => match rd w h with
    | some a => if okV a = true ∧ (toD a).showable = true ∧ (toD a).depth ≤ 60 ∧ (toD a).shown.length ≤ sizeLine then .ok (.str (toD a).shown) h else .bad
    | none => .bad
  | _ => .bad
theorem lk_repr {K : PySem.W.Frag} : Lks K fRepr (rRepr K) := by
  intro W al B sg H h ws vs Q hr rs p
  unfold fRepr at p
  split at p
  · rename_i w
    obtain ⟨v, rfl, r⟩ := rs.one
    cases e1 : rd w h with
    | none => rw [e1] at p; exact p.elim
    | some a =>
      rw [e1] at p
      dsimp only at p
      split at p
      · rename_i c
        exact ⟨v, _, rfl, rd_dp hr r e1 c.1, lay_of _ c.1, c.2.1, c.2.2.1, c.2.2.2, Po.now p hr (.str _)⟩
      · exact p.elim
  · exact p.elim
/-! ### a text times a number -/
def timesS (x : Str) (n : Nat) : Str := ⟨(List.replicate n x.cps.toList).flatten.toArray⟩
def rMulS : R2 := fun x y H Q => ∃ (a : Str) (k : Nat), x = .str a ∧ y = .int k ∧ a.length ≤ 1000 ∧ k ≤ 10000 ∧ Q (.str (timesS a k)) H
theorem foldl_cat : ∀ (l : List (Array Nat)) (a : Array Nat), l.foldl (· ++ ·) a = (a.toList ++ (l.map Array.toList).flatten).toArray
  | [], a => by simp
  | b :: l, a => by
    show l.foldl (· ++ ·) (a ++ b) = _
    rw [foldl_cat l (a ++ b)]
    simp
theorem rep_len {β : Type} (l : List β) : ∀ n, (List.replicate n l).flatten.length = n * l.length
  | 0 => by simp
  | n + 1 => by
    rw [List.replicate_succ, List.flatten_cons, List.length_append, rep_len l n, Nat.succ_mul, Nat.add_comm]
theorem op_mulS {X : Cx} : OpR X (binaryOp .Mult) rMulS := by
  intro pins s σ H x y v u Q I rx ry h
  obtain ⟨a, k, rfl, rfl, ha, hk, q⟩ := h
  obtain ⟨t, rfl⟩ := rx
  obtain ⟨t2, rfl⟩ := ry
  have hz := sizeLine_eq
  have hm : a.length * k ≤ 10000000 := Nat.mul_le_mul ha hk
  refine PySem.P.mul_str ?_ ?_ ?_ ?_
  · have h1 : ¬ ((k : Int) < -(2 ^ 63 : Int)) := by omega
    have h2 : ¬ ((k : Int) ≥ 2 ^ 63) := by omega
    rw [decide_eq_false h1, decide_eq_false h2]; rfl
  · intro h1 _ h3
    have : (1000 : Int) ≤ (2 ^ 63 - 1) / (k : Int) := by
      rw [Int.le_ediv_iff_mul_le (by omega)]
      omega
    omega
  · intro _ _
    rw [Int.toNat_natCast]
    simp only [Builtin.Str.tooLong, decide_eq_false_iff_not]
    omega
  · by_cases h1 : (k : Int) < 1
    · rw [if_pos h1]
      have : k = 0 := by omega
      subst this
      exact ⟨by decide, .str _, H, I.tok _, ⟨_, rfl⟩, q⟩
    · rw [if_neg h1]
      by_cases h2 : ((k : Int) == 1 || a.length == 0) = true
      · rw [if_pos h2]
        have e : timesS a k = a := by
          unfold timesS
          simp only [Bool.or_eq_true, beq_iff_eq] at h2
          rcases h2 with h2 | h2
          · have : k = 1 := by omega
            subst this
            simp
          · have : a.cps = #[] := Array.size_eq_zero_iff.mp h2
            obtain ⟨c⟩ := a
            simp only at this
            subst this
            simp
        rw [e] at q
        exact ⟨.str _, H, I, ⟨t, rfl⟩, q⟩
      · rw [if_neg h2]
        have e : (⟨(List.replicate (k : Int).toNat a.cps).foldl (· ++ ·) #[]⟩ : Str) = timesS a k := by
          unfold timesS
          rw [foldl_cat, Int.toNat_natCast]
          simp
        rw [e]
        refine ⟨?_, .str _, H, I.tok _, ⟨_, rfl⟩, q⟩
        show (timesS a k).cps.size ≤ sizeLine
        unfold timesS
        simp only [List.size_toArray, rep_len]
        have : k * a.length ≤ 10000000 := by rw [Nat.mul_comm]; exact hm
        have e3 : a.cps.toList.length = a.length := rfl
        rw [e3]
        omega
def bMulS (w1 w2 : Val) : M Val := fun h => match w1, w2 with
  | .str x, .int k => if 0 ≤ k ∧ k ≤ 10000 ∧ x.length ≤ 1000 then .ok (.str (timesS x k.toNat)) h else .bad
  | w1, w2 => bMul w1 w2 h
theorem lk_mulS {K : PySem.W.Frag} : Lk2 K bMulS (fun x y H Q => rMulS x y H Q ∨ rI CMul (fun i j => .int (i * j)) x y H Q ∨ rI CMulW (fun i j => .int (i * j)) x y H Q) := by
  intro W al B sg H h w1 w2 v1 v2 Q hr r1 r2 p
  unfold bMulS at p
  split at p
  · cases r1; cases r2
    split at p
    · rename_i k c
      obtain ⟨n, rfl⟩ := Int.eq_ofNat_of_zero_le c.1
      exact .inl ⟨_, n, rfl, rfl, c.2.2, by omega, Po.now p hr (.str _)⟩
    · exact p.elim
  · exact .inr (lk_mul W al B sg H h w1 w2 v1 v2 Q hr r1 r2 p)
theorem op_mulSZ {X : Cx} : OpR X (binaryOp .Mult) (fun x y H Q => rMulS x y H Q ∨ rI CMul (fun i j => .int (i * j)) x y H Q ∨ rI CMulW (fun i j => .int (i * j)) x y H Q) := op_mulS.or op_mulZ
/-! ### x.split(y), x.join(ys) -/
section
variable {X : Cx} {W : WX} {o e : Expr} {mo m : SE} {name : Str} {id : String} {apos cpos pos : Pos}
def sSm (f : Val → Val → M Val) (mo m : SE) : SE := fun ro => bind (mo ro) fun w => match w with
  | .str x => bind (m ro) fun y => f (.str x) y
  | _ => fail
theorem oe_sm1 {r : V → List V → Hp → VK → Prop} {f : Val → Val → M Val} (slot : Slot "str" name id) (hty : typeOf (.builtin id) = pure (.type "method_descriptor")) (hm : MtR X id r)
    (lk : ∀ (W : WX) al B sg H h x w v (Q : VK), HR X.K al B H h → Rep X.K al B H w v → Po X.K B (fun al H => Rep X.K al B H) sg al H (f (.str x) w h) W Q → r (.str x) [v] H Q)
    (ho : PE X o (tE X.K W mo)) (he : PE X e (tE X.K W m)) (hs : starEach [e] X.env = [(false, eval e X.env)]) (hbase : attributeBase o name X.env (eval o X.env) = eval o X.env) (hline : (apos.endLine == pos.line) = true) :
    PE X (.Call (.Attribute o name apos) [e] [] pos) (tE X.K W (sSm f mo m)) := by
  refine PE.weak (pe_m1 slot hty hm ho he hs hbase hline) ?_
  rintro sg H Q ⟨al, B, ro, h, S, p⟩
  refine ⟨al, B, ro, h, S, Po.mono (Po.bind p) fun v H1 ⟨al1, h1, w, st, hr, r1, q⟩ => ?_⟩
  cases r1 with
  | str x =>
    refine ⟨⟨x, rfl⟩, al1, B, ro, h1, S.step st hr, Po.mono (Po.bind q) fun u H2 ⟨al2, h2, w2, st2, hr2, r2, q2⟩ => ?_⟩
    exact lk W al2 B sg H2 h2 x w2 u Q hr2 r2 q2
  | _ => exact q.elim
def rSplit : V → List V → Hp → VK → Prop := fun x xs H Q => ∃ a b, x = .str a ∧ xs = [.str b] ∧ (b.length == 0) = false ∧ a.length + 2 ≤ sizeLine ∧ rNewStrs (Txt.split a b) H Q
def mSplit (w1 w2 : Val) : M Val := fun h => match w1, w2 with
  | .str a, .str b => if (b.length == 0) = false ∧ a.length ≤ 10000000 then .ok (.lst ((Txt.split a b).map Val.str)) h else .bad
  | _, _ => .bad
theorem lk_split {K : PySem.W.Frag} : ∀ (W : WX) al B sg H h x w v (Q : VK), HR K al B H h → Rep K al B H w v → Po K B (fun al H => Rep K al B H) sg al H (mSplit (.str x) w h) W Q → rSplit (.str x) [v] H Q := by
  intro W al B sg H h x w v Q hr r p
  cases r with
  | str b =>
    unfold mSplit at p
    dsimp only at p
    split at p
    · rename_i c
      have hz := sizeLine_eq
      refine ⟨x, b, rfl, rfl, c.1, by omega, fun q hq => ?_⟩
      have l : (Txt.split x b).length ≤ sizeLine := Nat.le_trans (PyProof.Rows.split_le x b) (by omega)
      exact p al _ _ (Stp.lay hq) (hr.lay hq) (.lst (At1.lay hr hq) (by rw [List.length_map]; exact l) (Reps.map (fun x => .str x) _))
    · exact p.elim
  | _ => exact p.elim
end
/-! ### xs.count(y), xs a list that stays -/
section
variable {X : Cx} {W : WX} {o e : Expr} {mo m : SE} {ra : En → M (List Val)} {apos cpos pos : Pos}
def sMtI (f : Val → List Val → M Val) (mo : SE) (ra : En → M (List Val)) : SE := fun ro => bind (mo ro) fun w h => match w with
  | .lst xs => bind (ra ro) (fun ws => f (.lst xs) ws) h
  | _ => .bad
end
/-! ### x is True -/
/-! ### x in range(a, b) -/
section
variable {X : Cx} {W : WX} {x a b : Expr} {mx : SE} {ra : En → M (List Val)} {pos rpos npos : Pos}
def sInR (neg : Bool) (mx : SE) (ra : En → M (List Val)) : SE := fun ro => bind (mx ro) fun w => bind (ra ro) fun ws => match w, ws with
  | .int i, [.int lo, .int hi] => ret (.bl (neg ^^ decide (lo ≤ i ∧ i < hi)))
  | _, _ => fail
end
end Z
/-! ZM: evaluation lemmas for ZR's things. -/
namespace Z
open PySem PySem.Spec PyProof.Rows L2
@[simp] theorem sSm_s {f : Val → Val → M Val} {mo m : SE} {ro : En} {h : HH} : sSm f mo m ro h = obind (mo ro h) fun w h1 => (match w with | .str x => bind (m ro) fun y => f (.str x) y | _ => fail) h1 := rfl
def mtI (f : Val → List Val → M Val) (ra : En → M (List Val)) (ro : En) (w : Val) : M Val := fun h => match w with
  | .lst xs => obind (ra ro h) fun ws => f (.lst xs) ws
  | _ => .bad
@[simp] theorem sMtI_e {f : Val → List Val → M Val} {mo : SE} {ra : En → M (List Val)} {ro : En} {h : HH} : sMtI f mo ra ro h = obind (mo ro h) fun w h1 => mtI f ra ro w h1 := rfl
@[simp] theorem mtI_l {f : Val → List Val → M Val} {ra : En → M (List Val)} {ro : En} {h : HH} {xs : List Val} : mtI f ra ro (.lst xs) h = obind (ra ro h) fun ws h1 => f (.lst xs) ws h1 := rfl
def inRv (neg : Bool) (w : Val) (ws : List Val) : M Val := match w, ws with
  | .int i, [.int lo, .int hi] => ret (.bl (neg ^^ decide (lo ≤ i ∧ i < hi)))
  | _, _ => fail
@[simp] theorem sInR_e {neg : Bool} {mx : SE} {ra : En → M (List Val)} {ro : En} {h : HH} : sInR neg mx ra ro h = obind (mx ro h) fun w h1 => obind (ra ro h1) fun ws h2 => inRv neg w ws h2 := rfl
@[simp] theorem inRv_e {neg : Bool} {i lo hi : Int} {h : HH} : inRv neg (.int i) [.int lo, .int hi] h = .ok (.bl (neg ^^ decide (lo ≤ i ∧ i < hi))) h := rfl
/-! texts joined by nothing -/
/-! comprehensions, more of them -/
theorem lc2_gen {g : GM} {mi : SI} {g1 : GM} {m : SE} {vs1 : List Nat} {ro : En} {h : HH} (F : Val → List Val) : ∀ (xs ys : List Val) (k i : Nat) (acc : List Val), ys.drop i = xs → k = xs.length → acc.length + 1000 * xs.length ≤ 1000000 →
    (∀ w ∈ xs, ∃ ro1 zs f, g w ro h = .go .nx ro1 h ∧ mi ro1 h = .ok (.st zs, zs.length) h ∧ zs.length ≤ 1000 ∧ F w = zs.map f ∧ ∀ z ∈ zs, ∃ ro2, g1 z (wipeN ro1 vs1) h = .go .nx ro2 h ∧ m ro2 h = .ok (f z) h) →
    lc2 g tYesZ mi g1 tYesZ m vs1 ro (.st ys) k i acc h = .ok (acc ++ xs.flatMap F) h
  | [], ys, k, i, acc, e, hk, _, _ => by
    have en : ys[i]? = none := List.getElem?_eq_none (by have := congrArg List.length e; rw [List.length_drop] at this; simp at this; omega)
    have hk : k = 0 := hk
    subst hk
    unfold lc2
    have : nxt (.st ys) i h = some none := by show some ys[i]? = _; rw [en]
    rw [this]
    simp
  | x :: xs, ys, k, i, acc, e, hk, hn, hf => by
    have es : ys[i]? = some x := by
      have := congrArg (fun l => l[0]?) e
      simpa using this
    have ed : ys.drop (i + 1) = xs := by
      have := congrArg List.tail e
      simpa using this
    have hk : k = xs.length + 1 := hk
    subst hk
    unfold lc2
    have : nxt (.st ys) i h = some (some x) := by show some ys[i]? = _; rw [es]
    rw [this]
    obtain ⟨ro1, zs, f, e1, e2, hz, eF, c⟩ := hf x List.mem_cons_self
    rw [List.length_cons] at hn
    have q := lc_list (g := g1) (t := tYesZ) (m := m) (ro := wipeN ro1 vs1) (h := h) (fun w => [f w]) zs zs zs.length 0 acc (by simp) rfl fun w hw => by
      obtain ⟨ro2, a1, a2⟩ := c w hw
      exact ⟨ro2, a1, .inl ⟨rfl, _, a2, rfl⟩⟩
    rw [← List.map_eq_flatMap] at q
    have ih := lc2_gen F xs ys xs.length (i + 1) (acc ++ zs.map f) ed rfl (by rw [List.length_append, List.length_map]; omega) fun w hw => hf w (List.mem_cons_of_mem _ hw)
    simp only [e1, e2, tYesZ_e, if_true, q]
    rw [if_pos (by have := sizeLine_eq; omega)]
    rw [ih, List.flatMap_cons, eF, List.append_assoc]
theorem sLc2_gen {mi mi1 : SI} {g g1 : GM} {m : SE} {own vs1 : List Nat} {ro : En} {h : HH} {xs : List Val} (F : Val → List Val) (e : mi ro h = .ok (.st xs, xs.length) h) (l : xs.length ≤ 900)
    (hf : ∀ w ∈ xs, ∃ ro1 zs f, g w (wipeN ro own) h = .go .nx ro1 h ∧ mi1 ro1 h = .ok (.st zs, zs.length) h ∧ zs.length ≤ 1000 ∧ F w = zs.map f ∧ ∀ z ∈ zs, ∃ ro2, g1 z (wipeN ro1 vs1) h = .go .nx ro2 h ∧ m ro2 h = .ok (f z) h) :
    sLc2 mi g tYesZ mi1 g1 tYesZ m own vs1 ro h = .ok (.lst (xs.flatMap F)) h := by
  show obind (mi ro h) _ = _
  rw [e]
  show obind (lc2 g tYesZ mi1 g1 tYesZ m vs1 (wipeN ro own) (.st xs) xs.length 0 [] h) _ = _
  rw [lc2_gen F xs xs xs.length 0 [] (by simp) rfl (by simp; omega) hf]
  rfl
theorem bls_bl : ∀ bs : List Bool, bls (bs.map Val.bl) = some bs
  | [] => rfl
  | b :: bs => by
    show (bls (bs.map Val.bl)).map _ = _
    rw [bls_bl bs]; rfl
theorem fAll_bls (bs : List Bool) (h : HH) : fAll [.lst (bs.map Val.bl)] h = .ok (.bl (bs.all id)) h := by
  show (match bls (bs.map Val.bl) with | some bs => Out.ok (Val.bl (bs.all id)) h | none => .bad) = _
  rw [bls_bl]
/-! w == k, k a number -/
/-! != [] -/
end Z
/-! ZX: targets with a star. -/
namespace Z
open PySem PySem.Spec PyProof.Rows L2
section
variable {prog : Program} {w : World} {A : Around} {E : Value → Shared → Prop} {s : Shared}
theorem walks_shift {I : Addr} {fp wr : List Addr} {n : Nat} {P : Nat → Value → Prop} {St : Nat → Heap → Prop} (W : Walks prog w A I fp wr (n + 1) P St) : Walks prog w A I fp wr n (fun i v => P (i + 1) v) (fun i h => St (i + 1) h) where
  sub := W.sub
  frame := fun i h h' st k => W.frame (i + 1) h h' st k
  item := fun i s Q E hi st hQ => W.item (i + 1) s Q E (Nat.succ_lt_succ hi) st hQ
  done := fun s Q E st hQ => W.done s Q E st hQ
  self := fun i s Q E st hQ => W.self (i + 1) s Q E st hQ
theorem items_tail {x : Value} {ys : List Value} {acc : Array Value} (h : ItemsOf (fun i v => (x :: ys).toArray[i + 1]? = some v) acc ys.length) : acc.toList = ys := by
  refine List.ext_getElem? fun j => ?_
  obtain ⟨h1, h2⟩ := h
  cases e : acc[j]? with
  | none =>
    have l : acc.size ≤ j := by
      by_cases c : j < acc.size
      · rw [Array.getElem?_eq_getElem c] at e; cases e
      · omega
    rw [Array.getElem?_toList, e, List.getElem?_eq_none (by omega)]
  | some v =>
    have q := h2 j v e
    rw [Array.getElem?_toList, e]
    simpa using q.symm
/-- what stands behind the first item -/
def StarQ (s : Shared) (x : Value) (ys : List Value) (Q : List Value → Shared → Prop) : Prop := ∀ (h' : Heap) (tk : Nat), (∀ b o, s.heap.get? b = some o → h'.get? b = some o) → Q [x, .ref h'.objs.size] { s with heap := h'.push { cls := .type "list", data := .seq ys.toArray }, toks := tk }
theorem star_end {I : Addr} {fp : List Addr} {x : Value} {ys : List Value} {T : String} {St : Nat → Heap → Prop} {s1 : Shared} {Q : List Value → Shared → Prop} (hTm : T = "str_ascii_iterator" ∨ T = "str_iterator" ∨ T = "list_iterator" ∨ T = "tuple_iterator")
    (W : Walks prog w A.in1 I fp [I] (ys.length + 1) (fun i v => (x :: ys).toArray[i]? = some v) St) (hT : ∀ i h, St i h → ∃ o, h.get? I = some o ∧ o.cls = .type T) (st : St 1 s1.heap) (hfp : ∀ b ∈ fp, b < s1.heap.objs.size) (hI : I ∈ fp) (hz : ys.length ≤ sizeLine)
    (hs : s1.gens = s.gens ∧ s1.drawn = s.drawn ∧ s1.os = s.os) (hk : ∀ b o, s.heap.get? b = some o → s1.heap.get? b = some o ∧ b ≠ I) (hQ : StarQ s x ys Q) :
    wpAny (model prog w) A (do
      let rest ← holding [x] (collect (.ref I))
      let after := 2 - 1 - 1
      if rest.length < after then
        rule "unpack.star.too-few"
        raiseError "ValueError" s!"not enough values to unpack (expected at least {2 - 1}, got {1 + rest.length})"
      let mid := rest.length - after
      return [x] ++ [← newList (rest.take mid)] ++ rest.drop mid) Q E s1 := by
  refine wpAny_bind (wpAny_holding (wpAny_collect_iter hTm (walks_shift W).toS (fun i s st => hT (i + 1) _ st) st hfp hI (fun s2 acc hm ha => ?_) hz))
  have ea := items_tail ha
  dsimp only
  rw [if_neg (by omega)]
  rw [ea]
  refine wpAny_bind (wpAny_newList ?_)
  have et : ys.take (ys.length - (2 - 1 - 1)) = ys := List.take_of_length_le (by omega)
  have ed : ys.drop (ys.length - (2 - 1 - 1)) = [] := List.drop_of_length_le (by omega)
  rw [et, ed]
  refine wpAny_pure ?_
  obtain ⟨h2, g2, d2, t2, os2⟩ := s2
  obtain ⟨hm1, hm2, hm3, hm4, _⟩ := hm
  obtain ⟨hs1, hs2, hs3⟩ := hs
  dsimp only at hm1 hm2 hm3 hm4
  obtain ⟨h0, g0, d0, t0, os0⟩ := s
  dsimp only at hs1 hs2 hs3 hk
  have q := hQ h2 t2 fun b o e => hm1 b o (by simpa using (hk b o e).2) (hk b o e).1
  have e1 : g2 = g0 := hm2.trans hs1
  have e2 : d2 = d0 := hm3.trans hs2
  have e3 : os2 = os0 := hm4.trans hs3
  subst e1 e2 e3
  exact q
theorem unpack_starL {l : Addr} {x : Value} {ys : List Value} {Q : List Value → Shared → Prop} (hh : A.handled = none) (hl : s.heap.IsList l (x :: ys).toArray) (hz : ys.length ≤ sizeLine) (hQ : StarQ s x ys Q) : wpAny (model prog w) A (unpackItems (.ref l) 2 (some 1)) Q E s := by
  have hlt : l < s.heap.objs.size := by obtain ⟨o, ho, _⟩ := hl; exact Heap.lt_size ho
  unfold unpackItems
  refine wpAny_bind ?_
  unfold notIterableAtAll
  refine wpAny_bind (wpAny_specialOf hl.typeIs slot_list_iter.lookup ?_)
  refine wpAny_pure ?_
  simp only [Bool.false_eq_true, if_false]
  refine wpAny_bind (wpAny_holding (wpAny_pyIter_list hl ?_))
  refine wpAny_bind (wpAny_holding (PySem.W.kun_draw (Nat.ne_of_lt hlt) 1 0 _ _ ⟨_, Heap.get?_push_size _ rfl, rfl, rfl⟩ (hl.push _) (by simp) fun h1 hit hs1 => ?_))
  have e1 : List.take 1 (List.drop 0 (x :: ys).toArray.toList) = [x] := by simp
  rw [e1, if_neg (by simp)]
  have hl1 : h1.IsList l (x :: ys).toArray := (hl.push _).extBut hs1.extBut (Nat.ne_of_lt hlt)
  have hit' : h1.IsListIter s.heap.objs.size l 1 := by simpa using hit
  refine star_end (s := s) (I := s.heap.objs.size) (fp := [s.heap.objs.size, l]) (T := "list_iterator") (.inr (.inr (.inl rfl))) (Walks.list (A := A.in1) hh s.heap.objs.size l (Nat.ne_of_lt hlt) (x :: ys).toArray) (fun i h st => ?_) ⟨hit', hl1⟩ (fun b hb => ?_) (by simp) hz ⟨rfl, rfl, rfl⟩ (fun b o e => ⟨?_, Nat.ne_of_lt (Heap.lt_size e)⟩) hQ
  · obtain ⟨o, ho, hc, _⟩ := st.1
    exact ⟨o, ho, hc⟩
  · simp only [List.mem_cons, List.not_mem_nil, or_false] at hb
    rcases hb with rfl | rfl
    · obtain ⟨o, ho, _⟩ := hit'; exact Heap.lt_size ho
    · obtain ⟨o, ho, _⟩ := hl1; exact Heap.lt_size ho
  · exact hs1.extBut b o (Nat.ne_of_lt (Heap.lt_size e)) (Heap.get?_push_of_some _ e)
theorem unpack_starT {l : Addr} {x : Value} {ys : List Value} {Q : List Value → Shared → Prop} (hh : A.handled = none) (hl : IsTup s.heap l (x :: ys).toArray) (hz : ys.length ≤ sizeLine) (hQ : StarQ s x ys Q) : wpAny (model prog w) A (unpackItems (.ref l) 2 (some 1)) Q E s := by
  have hlt : l < s.heap.objs.size := by obtain ⟨o, ho, _⟩ := hl; exact Heap.lt_size ho
  unfold unpackItems
  refine wpAny_bind ?_
  unfold notIterableAtAll
  refine wpAny_bind (wpAny_specialOf hl.typeIs slot_tuple_iter.lookup ?_)
  refine wpAny_pure ?_
  simp only [Bool.false_eq_true, if_false]
  refine wpAny_bind (wpAny_holding (iter_tuple hl ?_))
  refine wpAny_bind (wpAny_holding (PyProof.Rows.draw_tuple (Nat.ne_of_lt hlt) 1 0 _ _ ⟨_, Heap.get?_push_size _ rfl, rfl, rfl⟩ (hl.push _) (by simp) fun h1 hit hs1 => ?_))
  have e1 : List.take 1 (List.drop 0 (x :: ys).toArray.toList) = [x] := by simp
  rw [e1, if_neg (by simp)]
  have hl1 : IsTup h1 l (x :: ys).toArray := (hl.push _).extBut hs1.extBut (Nat.ne_of_lt hlt)
  have hit0 : IsTupIter h1 s.heap.objs.size l 1 := by simpa using hit
  have hit' : h1.IsTupleIter s.heap.objs.size l 1 := hit0
  refine star_end (s := s) (I := s.heap.objs.size) (fp := [s.heap.objs.size, l]) (T := "tuple_iterator") (.inr (.inr (.inr rfl))) (Walks.tuple (A := A.in1) hh s.heap.objs.size l (Nat.ne_of_lt hlt) (x :: ys).toArray) (fun i h st => ?_) ⟨hit', hl1⟩ (fun b hb => ?_) (by simp) hz ⟨rfl, rfl, rfl⟩ (fun b o e => ⟨?_, Nat.ne_of_lt (Heap.lt_size e)⟩) hQ
  · obtain ⟨o, ho, hc, _⟩ := st.1
    exact ⟨o, ho, hc⟩
  · simp only [List.mem_cons, List.not_mem_nil, or_false] at hb
    rcases hb with rfl | rfl
    · obtain ⟨o, ho, _⟩ := hit'; exact Heap.lt_size ho
    · obtain ⟨o, ho, _⟩ := hl1; exact Heap.lt_size ho
  · exact hs1.extBut b o (Nat.ne_of_lt (Heap.lt_size e)) (Heap.get?_push_of_some _ e)
end
def gStarK (K : PySem.W.Frag) (t : TGs) : TG := fun v sg H Q => ∃ a x ys, v = .ref a ∧ (SqL K H a (x :: ys) ∨ SqT K H a (x :: ys)) ∧ ∀ l, H l = none → t [x, .ref l] sg (upd H l (.lst ys)) Q
theorem pg_star {X : Cx} {t1 t2 : Expr} {t : TGs} {k : Nat} {sp pos : Pos} (hc : X.calm = true) (h : PGs X [t1, t2] t) (he : assignEach [t1, .Starred t2 sp] X.env = [(false, assign t1 X.env), (true, assign t2 X.env)]) (he2 : (assignEach [t1, t2] X.env).map (·.2) = [assign t1 X.env, assign t2 X.env]) :
    PG X (.Tuple [t1, .Starred t2 sp] k pos) (gStarK X.K t) := by
  refine ⟨fun pins s σ H v u Q I r hw => ?_⟩
  obtain ⟨a, x, ys, rfl, hq, hw⟩ := hw
  cases r
  rw [PyProof.Rows.assign_Tuple]
  refine wpAny_bind (wpAny_standAt ?_)
  unfold unpack
  rw [he]
  have fin : ∀ (vx : Value) (vys : List Value), RelV x vx → Vals ys vys → ys.length ≤ sizeLine → StarQ s vx vys fun items s' => wpAny (model X.prog X.w) X.A (assignInOrder [assign t1 X.env, assign t2 X.env] items) (fun _ s' => ∃ σ' H', Inv X pins σ' H' s' ∧ Q σ' H') X.xe s' := by
    intro vx vys rx rys hz h' tk k
    have I1 : Inv X pins σ H { s with heap := h', toks := tk } := I.kept (t' := tk) k
    have hn : H h'.objs.size = none := I1.hok.fresh (Nat.le_refl _)
    have I2 : Inv X pins σ (upd H h'.objs.size (.lst ys)) { s with heap := h'.push { cls := .type "list", data := .seq vys.toArray }, toks := tk } :=
      I1.laid (t' := tk) (fun b u e => Heap.get?_push_of_some _ e) (Nat.le_refl _) ⟨hz, vys, _, rys, Heap.get?_push_size _ rfl⟩
    have q := h.run pins _ σ _ [x, .ref h'.objs.size] [vx, .ref h'.objs.size] Q I2 (.cons rx (.cons rfl .nil)) (hw _ hn)
    rw [he2] at q
    exact q
  rcases hq with hq | hq
  · obtain ⟨its, rv, pl, hz⟩ := I.list hq
    cases rv with
    | @cons _ vx _ vys rx rys =>
      exact wpAny_bind (wpAny_holding (unpack_starL (I.ok.hd hc) pl.isList (by rw [← rys.length]; simp at hz; omega) (fin vx vys rx rys (by simp at hz; omega))))
  · obtain ⟨its, rv, ht, hz⟩ := I.tuple hq
    cases rv with
    | @cons _ vx _ vys rx rys =>
      exact wpAny_bind (wpAny_holding (unpack_starT (I.ok.hd hc) ht (by rw [← rys.length]; simp at hz; omega) (fin vx vys rx rys (by simp at hz; omega))))
/-- first, *rest = .. -/
def gSt (g : List Val → En → HH → SO) : GM := fun w ro h => match items w h with
  | some (x :: ys) => g [x, .lst ys] ro h
  | _ => .bad
theorem og_star {X : Cx} {t1 t2 : Expr} {sl : List Nat} {g : List Val → En → HH → SO} {k : Nat} {sp pos : Pos} (hc : X.calm = true) (h : PGs X [t1, t2] (tGs X.K sl g)) (he : assignEach [t1, .Starred t2 sp] X.env = [(false, assign t1 X.env), (true, assign t2 X.env)])
    (he2 : (assignEach [t1, t2] X.env).map (·.2) = [assign t1 X.env, assign t2 X.env]) : PG X (.Tuple [t1, .Starred t2 sp] k pos) (tG X.K sl (gSt g)) := by
  refine PG.weak (pg_star hc h he he2) ?_
  rintro v sg H Q ⟨al, B, ro, h, w, S, r, p⟩
  unfold gSt at p
  split at p
  · rename_i x ys e
    obtain ⟨a, vs, rfl, q, rs⟩ := items_sq S.hr r e
    cases rs with
    | cons rx rys =>
      refine ⟨a, _, _, rfl, q, fun l hl => ?_⟩
      have ly : ys.length ≤ sizeLine := by
        cases r with
        | tup _ l _ => cases e; simp at l; omega
        | lst _ l _ => cases e; simp at l; omega
        | scr _ l =>
          have e' : (List.map Val.int _) = x :: ys := Option.some.inj e
          have := congrArg List.length e'
          simp at this
          omega
        | ref q2 =>
          unfold items at e
          dsimp only at e
          split at e
          · rename_i e2
            cases e
            cases S.hr.ob _ _ _ q2 e2 with
            | lst _ l _ => simp at l; omega
          · cases e
        | _ => cases e
      refine ⟨al, B, ro, _, _, S.step (Stp.lay hl) (S.hr.lay hl), .cons (rx.step (Stp.lay hl)) (.cons (.lst (At1.lay S.hr hl) ly (rys.step (Stp.lay hl))) .nil), Pg.step p (Stp.lay hl)⟩
  · exact p.elim
end Z
/-! ZY: written dicts of defs, calls of a local name, str(x), zfill, startswith, extend, == of nested lists, what is never done. -/
namespace Z
open PySem PySem.Spec PyProof.Rows L2
/-! ### what is never done -/
/-! ### a written dict -/
section
variable {X : Cx} {W : WX}
/-! ### a call of a local name that holds a def -/
end
end Z
/-! ZW: int(text, 10), str(x), more methods of texts and lists, == of nested own lists. -/
namespace PySem
open PySem.W PySem.Calls PySem.NumText PyProof.Rows
set_option maxHeartbeats 4000000 in
theorem zw_gives10 {x : PySem.Str} {u t : Tok} {n : Int} (hl : x.length ≤ 640) (hn : PySem.intText? x = some n) : Gives (Builtin.«int.__new__» ⟨[.type "int", .str x u, .int 10 t], []⟩) (.int n) :=
  .of_wp fun M A E s Q h => by
    obtain ⟨hp, g, d, tk, os⟩ := s
    have f1 := F.conv_sub_int
    have f2 := F.madeHere_int
    have f6 : typeOf (.str x u) = pure (.type "str") := rfl
    have hs : (numSeenOf x).length ≤ 640 := Nat.le_trans (seen_length x) hl
    have hr : (int_private% "readNumeral") 0 10 (numSeenOf x) = (int_private% "Numeral.value") n ∧ ((numSeenOf x).length == (numTextOf x).length) = true := by
      rcases read0 x hs with ⟨m, h1, h2, h3⟩ | ⟨h1, _⟩
      · rw [hn] at h1
        injection h1 with h1
        subst h1
        exact ⟨h3, h2⟩
      · rw [hn] at h1
        cases h1
    have hk := KIN.Hid.mk (And.intro hs hr)
    clear hs hr hl hn
    repeat (any_goals (first
      | assumption
      | ((with_reducible show wpAny _ _ ((int_private% "intFromText") _ _ _) _ _ _); refine KIN.wp_text hk.out.1 hk.out.2.1 hk.out.2.2 ?_)
      | wp_step))
    all_goals first | exact ⟨_, rfl, h⟩ | skip
end PySem
namespace Z
open PySem PySem.Spec PyProof.Rows L2
section
variable {X : Cx}
end
/-! ### str(x) -/
/-! ### zfill, startswith -/
/-! ### xs.extend(ys) -/
/-! ### == of own lists within own lists -/
mutual
def rdD (h : HH) : Nat → Val → Option Val
  | 0, _ => none
  | n + 1, .ref i => match h[i]? with
    | some (.lst xs) => (rdDs h n xs).map .lst
    | _ => none
  | n + 1, .tup xs => (rdDs h n xs).map .tup
  | n + 1, .lst xs => (rdDs h n xs).map .lst
  | _ + 1, w => some w
def rdDs (h : HH) : Nat → List Val → Option (List Val)
  | 0, _ => none
  | _ + 1, [] => some []
  | n + 1, x :: xs => match rdD h n x, rdDs h n xs with
    | some y, some ys => some (y :: ys)
    | _, _ => none
end
theorem rdD_dp {K : PySem.W.Frag} {al B : List Addr} {H : Hp} {h : HH} (hr : HR K al B H h) : ∀ n, (∀ (w w' : Val) (v : V), Rep K al B H w v → rdD h n w = some w' → okV w' = true → Dp K H v (toD w')) ∧ (∀ (ws ws' : List Val) (vs : List V), Reps K al B H ws vs → rdDs h n ws = some ws' → okVs ws' = true → DpAll K H vs (toDs ws')) := by
  intro n
  induction n with
  | zero => exact ⟨fun _ _ _ _ e _ => (by unfold rdD at e; cases e), fun _ _ _ _ e _ => (by unfold rdDs at e; cases e)⟩
  | succ n ih =>
    refine ⟨fun w w' v r e o => ?_, fun ws ws' vs r e o => ?_⟩
    · cases r with
      | ref q =>
        unfold rdD at e
        split at e
        · rename_i xs e2
          obtain ⟨ys, e3, rfl⟩ := Option.map_eq_some_iff.mp e
          cases hr.ob _ _ _ q e2 with
          | lst q2 _ s =>
            unfold okV at o
            unfold toD
            exact .lst (SqL.of q2) (ih.2 _ _ _ s e3 o)
        · cases e
      | tup a l s =>
        unfold rdD at e
        obtain ⟨ys, e3, rfl⟩ := Option.map_eq_some_iff.mp e
        unfold okV at o
        unfold toD
        exact .tup (sqT_of a) (ih.2 _ _ _ s e3 o)
      | lst a l s =>
        unfold rdD at e
        obtain ⟨ys, e3, rfl⟩ := Option.map_eq_some_iff.mp e
        unfold okV at o
        unfold toD
        exact .lst (SqL.of a.1) (ih.2 _ _ _ s e3 o)
      | non => cases e; exact dp_of (al := al) (B := B) o .non
      | bl b => cases e; exact dp_of (al := al) (B := B) o (.bl b)
      | int b => cases e; exact dp_of (al := al) (B := B) o (.int b)
      | str b => cases e; exact dp_of (al := al) (B := B) o (.str b)
      | glo => cases e; exact dp_of (al := al) (B := B) o (.glo _)
      | ty => cases e; exact dp_of (al := al) (B := B) o (.ty _)
      | scr a l => cases e; exact dp_of o (.scr a l)
      | exn a e2 r2 => cases e; unfold okV at o; cases o
    · cases r with
      | nil => cases e; unfold toDs; exact .nil
      | cons a s =>
        unfold rdDs at e
        split at e
        · rename_i y ys e1 e2
          cases e
          unfold okVs at o
          rw [Bool.and_eq_true] at o
          unfold toDs
          exact .cons (ih.1 _ _ _ a e1 o.1) (ih.2 _ _ _ s e2 o.2)
        · cases e
def bEqD (neg : Bool) (w1 w2 : Val) : M Val := fun h => match rdD h 100000 w1, rdD h 100000 w2 with
  | some a, some b => if okV a = true ∧ okV b = true ∧ min (toD a).depth (toD b).depth ≤ 64 then .ok (.bl (if neg then !PyData.eqv (toD a) (toD b) else PyData.eqv (toD a) (toD b))) h else .bad
  | _, _ => .bad
theorem lk_eqD {K : PySem.W.Frag} (neg : Bool) : Lk2 K (bEqD neg) (rEqM K neg) := by
  intro W al B sg H h w1 w2 v1 v2 Q hr r1 r2 p
  unfold bEqD at p
  split at p
  · rename_i a b e1 e2
    split at p
    · rename_i c
      exact ⟨_, _, (rdD_dp hr _).1 _ _ _ r1 e1 c.1, (rdD_dp hr _).1 _ _ _ r2 e2 c.2.1, lay_of _ c.1, lay_of _ c.2.1, c.2.2, Po.now p hr (.bl _)⟩
    · exact p.elim
  · exact p.elim
end Z
namespace Z
open PySem PySem.Spec PyProof.Rows L2
section
variable {X : Cx}
end
end Z
/-! ZU: try .. except X as e, isinstance of the caught one, upper, order of texts, tuple[::-1], tuple * int, bool + int, functions as values. -/
namespace Z
open PySem PySem.Spec PyProof.Rows L2
/-! ### try .. except X as e -/
open Classical in
/-- the name is gone behind the suite -/
def gone (i : Nat) : SO → SO
  | .go (.ex _) _ _ => .bad
  | .go f ro h => .go f (ro.set i none) h
  | .bad => .bad
theorem Sim.unset {K : PySem.W.Frag} {al B : List Addr} {ro : En} {h : HH} {sg : L2.St} {H : Hp} (S : Sim K al B ro h sg H) (i : Nat) : Sim K al B (ro.set i none) h (sg.set i none) H := by
  refine ⟨S.hr, by simp [S.len], fun j u e => ?_⟩
  by_cases z : i = j
  · subst z
    have l : i < ro.length := by have := (List.getElem?_eq_some_iff.mp e).1; simpa using this
    rw [List.getElem?_set_self l] at e
    cases e
  · rw [List.getElem?_set_ne z] at e
    obtain ⟨v', p, q⟩ := S.env j u e
    exact ⟨v', by rw [List.getElem?_set_ne z]; exact p, q⟩
section
variable {X : Cx} {W : WX} {pos : Pos}
end
/-! ### isinstance of the caught one -/
def sameC : Val → Val → Bool
  | .glo C, .glo D => decide (C = D)
  | .ty n, .ty m => decide (n = m)
  | _, _ => false
theorem sameC_eq {c d : Val} (h : sameC c d = true) : c = d := by
  unfold sameC at h
  split at h
  · rw [of_decide_eq_true h]
  · rw [of_decide_eq_true h]
  · cases h
def sameCs : List Val → List Val → Bool
  | [], [] => true
  | c :: cs, d :: ds => sameC c d && sameCs cs ds
  | _, _ => false
theorem sameCs_eq : ∀ {cs ds : List Val}, sameCs cs ds = true → cs = ds
  | [], [], _ => rfl
  | c :: cs, d :: ds, h => by
    unfold sameCs at h
    rw [Bool.and_eq_true] at h
    rw [sameC_eq h.1, sameCs_eq h.2]
  | [], _ :: _, h => by cases h
  | _ :: _, [], h => by cases h
def clsV : Val → Option Value
  | .glo C => some (.ref C)
  | .ty n => some (.type n)
  | _ => none
theorem clsV_rel {K : PySem.W.Frag} {al B : List Addr} {H : Hp} {c : Val} {v : V} {cv : Value} (e : clsV c = some cv) (r : Rep K al B H c v) : ∀ u, RelV v u → u = cv := by
  intro u ru
  cases r with
  | glo C => cases e; exact ru
  | ty n => cases e; exact ru
  | _ => cases e
def clsVs : List Val → Option (List Value)
  | [] => some []
  | c :: cs => match clsV c, clsVs cs with
    | some v, some vs => some (v :: vs)
    | _, _ => none
theorem clsVs_rel {K : PySem.W.Frag} {al B : List Addr} {H : Hp} : ∀ {cs : List Val} {vs : List V} {cvs : List Value}, clsVs cs = some cvs → Reps K al B H cs vs → ∀ us, Vals vs us → us = cvs
  | _, _, _, e, .nil, us, r => by cases e; cases r; rfl
  | _, _, _, e, .cons a s, us, r => by
    unfold clsVs at e
    split at e
    · rename_i v vs e1 e2
      cases e
      cases r with
      | cons r1 r2 => rw [clsV_rel e1 a _ r1, clsVs_rel e2 s _ r2]
    · cases e
def rIsEs (K : PySem.W.Frag) (D a : Addr) : List V → Hp → VK → Prop := fun xs H Q => rIsE K D a xs H Q ∨ ∃ (t : Addr) (vs : List V) (cvs : List Value) (b : Bool), xs = [.ref a, .ref t] ∧ SqT K H t vs ∧ (∀ us, Vals vs us → us = cvs) ∧ PySem.W.kitAny K (.ref D) cvs = some b ∧ Q (.bl b) H
/-! ### upper -/
section
variable {X : Cx} {W : WX} {o : Expr} {mo : SE} {name : Str} {id : String} {apos pos : Pos}
end
/-! ### a <= b, numbers or texts -/
/-! ### bool + int -/
/-! ### functions as values -/
theorem cst_fun {K : PySem.W.Frag} {mg : Str → Option Value} {x : Str} {f : Addr} (e : mg x = some (.ref f)) : Cst K mg x (.glo f) := ⟨.ref f, .ref f, e, rfl, fun _ _ _ => .glo f⟩
end Z
/-! ZU2: tuple[::-1], tuple * int. -/
namespace Z
open PySem PySem.Spec PyProof.Rows L2
section
variable {prog : Program} {w : World} {A : Around} {E : Value → Shared → Prop} {s : Shared}
end
end Z
namespace Z
open PySem PySem.Spec PyProof.Rows L2
section
variable {X : Cx} {W : WX} {e : Expr} {m : SE} {k : Nat} {p1 p2 p3 pos : Pos}
end
/-! ### tuple * int -/
theorem Reps.rep {K : PySem.W.Frag} {al B : List Addr} {H : Hp} {xs : List Val} {vs : List V} (r : Reps K al B H xs vs) : ∀ n : Nat, Reps K al B H (List.replicate n xs).flatten (List.replicate n vs).flatten
  | 0 => .nil
  | n + 1 => by
    rw [List.replicate_succ, List.replicate_succ, List.flatten_cons, List.flatten_cons]
    exact r.append (Reps.rep r n)
end Z
namespace Z
open PySem PySem.Spec PyProof.Rows L2
theorem zb_ValueError : bootBuiltins "ValueError" = some (.type "ValueError") := by decide +kernel
end Z
/-! ZQ: isinstance of a caught one with fields; several clauses with names. -/
namespace PySem.W
open PySem PySem.Spec PySem.Calls PyProof.Rows
section
variable {prog : Program} {w : World} {A : Around} {E : Value → Shared → Prop} {s : Shared} {K : Frag} {x D : Addr} {ox : Obj} {od : Option Obj}
theorem zq_findObj {C : Addr} {name : Str} {a g : Value} (hc : (clsIn K C).isSome = true) (ha : findIn K (.ref C) name = some (some a)) (hg : specialIn K a "__get__" = some (some g)) (ht : takesIn K a = some true) : findObj K C od name = some (.bind g a) := by
  obtain ⟨cd, hc⟩ := Option.isSome_iff_exists.mp hc
  unfold findObj
  rw [hc, Option.bind_some, ha, Option.bind_some]
  simp [hg, ht]
theorem zq_class {Q : Option Value → Shared → Prop} (hga : findIn K (.ref D) "__getattribute__" = some (some (.builtin "BaseException.__getattribute__"))) (hgt : findIn K (.ref D) "__getattr__" = some none) (hsub : subIn K (.ref D) (.type "BaseException") = some true)
    (hdct : hasDictIn K D = true) (ha : findIn K (.ref D) "__class__" = some (some (.builtin "object.__class__")))
    (hn : specialIn K (.builtin "object.__class__") "__get__" = some (some (.builtin "getset_descriptor.__get__"))) (htk : takesIn K (.builtin "object.__class__") = some true) (hm : mroIn K D (.type "object") = some true)
    (X : K.In s.heap) (I : InstAt s.heap x ox D od) (h : Q (some (.ref D)) { s with toks := s.toks + 1 }) : wpAny (model prog w) A (getAttr? (.ref x) "__class__") Q E s := by
  have hf : findObj K D od "__class__" = some (.bind (.builtin "getset_descriptor.__get__") (.builtin "object.__class__")) := zq_findObj (by obtain ⟨cd, hc, _⟩ := any_some hdct; rw [hc]; rfl) ha hn htk
  obtain ⟨hp, g, d, t, os⟩ := s
  have L0 := I.type (M := model prog w)
  have L1 := looks_findIn (M := model prog w) X hga
  have L2 := looks_findIn (M := model prog w) X hgt
  have L3 := looks_find (M := model prog w) X I hf
  have sub : Looks (model prog w) hp (isInstance (.ref x) (.type "BaseException")) true := L0.andThen (looks_subIn X hsub)
  have hx0 : (false && onTheHeap (Value.builtin "BaseException.__getattribute__")) = false := rfl
  have hx2 : (Value.builtin "BaseException.__getattribute__" == Value.builtin "object.__getattribute__") = false := by decide +kernel
  have hx1 : (onTheHeap (Value.ref D) && Value.builtin "BaseException.__getattribute__" == Value.builtin "object.__getattribute__") = false := by rw [hx2]; rfl
  unfold getAttr? getAttrBy? getAttrBy
  refine wpAny_bind (wpAny_mkText (wpAny_bind (wpAny_attempt (wpAny_holding (wpAny_bind (L0.at (wpAny_bind (L1.at ?_))))))))
  show wpAny _ _ (if (onTheHeap (Value.ref D) && Value.builtin "BaseException.__getattribute__" == Value.builtin "object.__getattribute__") = true then _ else _) _ _ _
  rw [hx1, if_neg Bool.false_ne_true]
  unfold getAttrByItsOwn hookBefore
  refine wpAny_bind ?_
  rw [if_pos (show onTheHeap (Value.ref D) = true from rfl)]
  refine L2.at ?_
  refine wpAny_bind (wpAny_attempt (wpAny_holding ?_))
  unfold callGetattribute
  rw [hx0, if_neg Bool.false_ne_true]
  unfold boundAndCalled
  rw [PySem.F.excAttr_ValueError.ga.bind (.ref x)]
  refine wpAny_bind (wpAny_pure ?_)
  show wpAny _ _ (call (.builtin "BaseException.__getattribute__") [.ref x, .str "__class__" t]) _ _ _
  refine wpAny_call (codeAny_call_builtin PySem.F.excAttr_ValueError.ga.plain PySem.F.entry_bexc_ga ?_)
  refine @check_slot (model prog w) _ _ ⟨hp, g, d, t + 1, os⟩ "BaseException.__getattribute__" "BaseException" "__getattribute__" (.ref x) [.str "__class__" t] [] _ (by decide +kernel) (by decide +kernel) sub (PySem.F.args_bexc_ga (.ref x) (.str "__class__" t)) ?_
  unfold Builtin.«object.__getattribute__»
  refine wpAny_bind (wpAny_of_eq (a := ((Value.ref x : Value), [Value.str "__class__" t])) (by first | rfl | (simp only [slotArgs]; rfl)) ?_)
  refine wpAny_bind (wpAny_pure (wpAny_bind (L0.at (wpAny_bind (L3.at ?_)))))
  show wpAny _ _ (holding [Value.builtin "object.__class__"] (call (.builtin "getset_descriptor.__get__") [.builtin "object.__class__", .ref x, .ref D]) >>= ret) _ _ _
  refine wpAny_bind (wpAny_holding (wpAny_call (class_get (s := ⟨hp, g, d, t + 1, os⟩) (ox := ox) (od := od) X I hm ?_)))
  refine wpAny_pure ?_
  show wpAny _ _ (handedOut (.ref D)) _ _ _
  rw [handedOut_of (v := .ref D) rfl]
  first
    | exact wpAny_pure (wpAny_pure h)
    | exact wpAny_pure h
    | exact wpAny_pure (wpAny_bind (wpAny_pure (wpAny_pure h)))
theorem zq_kitx (hga : findIn K (.ref D) "__getattribute__" = some (some (.builtin "BaseException.__getattribute__"))) (hgt : findIn K (.ref D) "__getattr__" = some none) (hsub : subIn K (.ref D) (.type "BaseException") = some true) (hdct : hasDictIn K D = true) (ha : findIn K (.ref D) "__class__" = some (some (.builtin "object.__class__")))
    (hn : specialIn K (.builtin "object.__class__") "__get__" = some (some (.builtin "getset_descriptor.__get__"))) (htk : takesIn K (.builtin "object.__class__") = some true) (hm : mroIn K D (.type "object") = some true) :
    KitX K (.ref x) (.ref D) (fun h => InstAt h x ox D od) where
  ty := fun _ _ _ I => I.type
  it := fun _ _ X _ => by
    obtain ⟨cdD, hcD, _⟩ := any_some hdct
    unfold clsIn at hcD
    split at hcD
    · rename_i c' d' cd' sl' ho
      intro A' Q' E' s' k q
      unfold isType loadHead
      exact wpAny_bind (wpAny_loadPart (k _ _ (X _ _ ho)) (wpAny_pure q))
    · cases hcD
  ne := fun h tp dd its n sl X htp => by
    obtain ⟨cdD, hcD, _⟩ := any_some hdct
    refine Bool.eq_false_iff.mpr fun q => ?_
    have e : D = tp := Value.ref.inj (beq_iff_eq.mp q)
    subst e
    unfold clsIn at hcD
    split at hcD
    · rename_i c' d' cd' sl' ho
      have z := (X _ _ ho).symm.trans htp
      cases z
    · cases hcD
  ca := fun X I k => zq_class hga hgt hsub hdct ha hn htk hm X I k
end
end PySem.W
namespace L2
open PySem PySem.Spec PyProof.Rows
/-! ### several clauses, each with its name -/
def wManyA (K : PySem.W.Frag) (Wout : WX) (D : Ends) : List (Value × Nat × (Addr → Value → Option Addr → TS)) → WX
  | [] => Wout
  | (c, i, ts) :: r => fun cls d σ H => ∃ b, PySem.W.exmOne K cls c = some b ∧
      (b = true → ∀ a, H a = none → ts a cls d { nx := fun σ' H' => D.nx (σ'.set i none) H', rt := D.rt, bk := fun σ' H' => D.bk (σ'.set i none) H', ct := fun σ' H' => D.ct (σ'.set i none) H' } (σ.set i (some (.ref a))) H) ∧
      (b = false → wManyA K Wout D r cls d σ H)
/-- the pin of the context, where there is one -/
theorem hot_pins {X : Cx} {pins : List (Addr × Obj)} {σ : St} {H : Hp} {s : Shared} {B : Heap} {a : Addr} {oe : Obj} {vs : Array Value} {cls : Value} {d : Option Addr} (I : Inv X pins σ H s) (stay : B.StaysIn s.heap) (ff : s.heap.FunFrames B (X.env :: X.outer)) (hf : X.env.frame = some X.env.locals) (hd : oe.data = .fields vs) (z : L3.Zk B H cls d oe) :
    ∃ pe, Inv X (pins ++ pe) σ H s ∧ ∀ A : Around, A.handled = some (.ref a) → Z.HotP A ((a, oe) :: (X.pn ++ (pins ++ pe))) := by
  obtain ⟨c, ec, rfl | ⟨x, ox, vx, rfl, hx, gx, dx, nx⟩⟩ := z.2.2 vs hd
  · exact ⟨[], by rw [List.append_nil]; exact I, fun A hA => ⟨(a, oe), vs, .none, hA, List.mem_cons_self, hd, ec, .inl rfl⟩⟩
  · have got := stay x ox gx
    have off : x ∉ frs (X.env :: X.outer) := fun m => by
      obtain ⟨_, o2, e2, nf⟩ := ff.mem m
      rw [got] at e2
      cases e2
      exact nf _ dx
    have nL : x ≠ X.env.locals := fun e => off (List.mem_filterMap.mpr ⟨X.env, List.mem_cons_self, by rw [hf, e]⟩)
    have nF : x ∉ X.fs := fun m => by
      obtain ⟨e, he, q⟩ := List.mem_filterMap.mp m
      exact off (List.mem_filterMap.mpr ⟨e, List.mem_cons_of_mem _ he, q⟩)
    refine ⟨[(x, ox)], ⟨I.ok, I.os, I.bare, I.base, I.loc, I.cell, I.free, I.freeC, fun p hp => ?_, I.hok, I.len⟩, fun A hA => ⟨(a, oe), vs, .ref x, hA, List.mem_cons_self, hd, ec, .inr ⟨(x, ox), vx, rfl, by simp, dx, nx⟩⟩⟩
    rw [← List.append_assoc] at hp
    rcases List.mem_append.mp hp with m | m
    · exact I.pin p m
    · obtain rfl := List.mem_singleton.mp m
      exact ⟨got, hx, nL, nF, fun v q => by
        have q' : ox.data = .cell v := q
        rw [dx] at q'
        cases q'⟩
inductive HdsA (X : Cx) : List ExceptHandler → List (Value × Nat × (Addr → Value → Option Addr → TS)) → Prop
  | nil : HdsA X [] []
  | cons {x n : Str} {i : Nat} {c : Value} {ts : Addr → Value → Option Addr → TS} {b₀ : Stmt} {suite : List Stmt} {np pos' : Pos} {hds : List ExceptHandler} {l : List (Value × Nat × (Addr → Value → Option Addr → TS))} (hN : X.N.Nodup) (hi : X.N[i]? = some n) (hln : X.env.kindOf n = some .local) (hc : Names X x c)
      (hsu : ∀ (a : Addr) (oe : Obj) (cls : Value) (d : Option Addr) (pn : List (Addr × Obj)), Zc cls d oe → (∃ vs, oe.data = .fields vs) → Z.HotP (X.A.mark (some (.ref a))) ((a, oe) :: pn) → PSs (X.suite a ((a, oe) :: pn)) (b₀ :: suite) (ts a cls d)) (r : HdsA X hds l) :
      HdsA X (.ExceptHandler (some (.Name x np)) (some n) (b₀ :: suite) pos' :: hds) ((c, i, ts) :: l)
section
variable {X : Cx} {body : List Stmt} {h₀ : ExceptHandler} {hds : List ExceptHandler} {l : List (Value × Nat × (Addr → Value → Option Addr → TS))} {pos : Pos} {tb : WX → TS} {Wout : WX}
theorem ps_try_manyA (hs : X.stack = X.env :: X.outer) (hf : X.env.frame = some X.env.locals) (tk : L3.Takes X Wout)
    (hb : ∀ (W : WX) (pn : List (Addr × Obj)) (xe : Value → Shared → Prop), L3.Takes (X.tr pn xe) W → PassesOwn (model X.prog X.w) X.A X.env xe → PSs (X.tr pn xe) body (tb W))
    (hh : HdsA X (h₀ :: hds) l) : PS X (.Try body (h₀ :: hds) [] [] pos) (fun D σ H => tb (wManyA X.K Wout D l) D σ H) := by
  refine ⟨fun pins s σ H D I h => ?_⟩
  have ok := I.ok
  have hfr : X.A.frames = some (X.env :: X.outer) := by rw [ok.frames, hs]
  refine wpAny_Try_except ?_
  refine wpAny_mono ((hb (wManyA X.K Wout D l) (X.pn ++ pins) (fun e s₁ => wpAny (model X.prog X.w) X.A (noteFrame e X.env) (fun _ s₂ => wpAny (model X.prog X.w) X.A (setFlight e none) (fun _ s₃ =>
    wpAny (model X.prog X.w) X.A (handleBy e X.env (h₀ :: hds)) (SP X pins D) X.xe s₃) X.xe s₂) X.xe s₁) (fun u s' xx => ?_) PassesOwn.looking).run [] s σ H D (I.toTry _) h) (fun f s1 hsp => ?_) (fun e s1 he => he)
  · obtain ⟨a, B, sI, pins', σ', H', cls, d, rfl, J', nb, up, sky, na, os, ag, w⟩ := xx
    have J : Inv X pins σ' H' sI := J'.ofTry ok
    have sky' : Sky B (X.env :: X.outer) a (L3.Zk B H' cls d) X.env.locals s'.heap := by rw [← hs]; exact sky
    show wpAny (model X.prog X.w) X.A (noteFrame (.ref a) X.env) _ _ _
    refine L2N.Sky.land L3.Zk.steady hfr hf sky' fun h3 fl3 up3 => ?_
    have J3 : Inv X pins σ' H' { s' with heap := h3 } := J.landed nb fl3.1 (up.trans up3) os ag
    obtain ⟨oe3, vs3, he3, hz3, hd3⟩ := fl3.there
    have notFr : ∀ {h : Heap} {o : Obj} {vs : Array Value}, h.FunFrames B (X.env :: X.outer) → h.get? a = some o → o.data = .fields vs → a ∉ frs (X.env :: X.outer) := fun {h o vs} ff e dd hm => by
      obtain ⟨_, o', e', hnf⟩ := ff.mem hm
      rw [e] at e'; cases e'
      exact hnf _ dd
    have nfr := notFr fl3.2.2.1 he3 hd3
    have nL : a ≠ X.env.locals := fun z => nfr (List.mem_filterMap.mpr ⟨X.env, List.mem_cons_self, by rw [hf, z]⟩)
    have nF : a ∉ X.fs := fun hm => by
      obtain ⟨e, he, q⟩ := List.mem_filterMap.mp hm
      exact nfr (List.mem_filterMap.mpr ⟨e, List.mem_cons_of_mem _ he, q⟩)
    have S3 := J3.suite he3 hd3 na nL nF
    have go : ∀ {hds' : List ExceptHandler} {l' : List (Value × Nat × (Addr → Value → Option Addr → TS))}, HdsA X hds' l' → wManyA X.K Wout D l' cls d σ' H' →
        wpAny (model X.prog X.w) X.A (handleBy (.ref a) X.env hds') (SP X pins D) X.xe { s' with heap := h3 } := by
      intro hds' l' hk
      induction hk with
      | nil =>
        intro w
        refine wpAny_handleBy_nil ?_
        obtain ⟨k1, k2, k3, oe, vs, T, oT, ts', he, hz, hd, h1, hr⟩ := id fl3
        unfold PySem.passOn
        refine wpAny_bind (wpAny_field he hd h1 ?_)
        rw [if_neg (show ¬ ((Value.ref T == Value.none) = true) from by simp)]
        have fin : wpAny (model X.prog X.w) X.A (setFlight (.ref a) X.env.frame) (fun _ s4 => wpAny (model X.prog X.w) X.A (throw (.ref a) : Sem Flow) (SP X pins D) X.xe s4) X.xe { s' with heap := h3 } := by
          rw [hf]
          refine HandSPX.setFlight_upZ fl3 fun h4 hh4 up4 => wpAny_throw (tk _ _ ?_)
          exact ⟨a, B, sI, pins, σ', H', cls, d, rfl, J, nb, (up.trans up3).trans up4, .inr (.inr (by rw [hs]; exact hh4)), na, os, ag, w⟩
        first
          | exact wpAny_bind (wpAny_pure (wpAny_bind fin))
          | exact wpAny_bind fin
      | @cons x n i c ts b₀ suite np pos' hds2 l2 hN hi hln hc hsu r ih =>
        intro w
        have hloc : Loc X.env.scope n := .inl hln
        obtain ⟨b, hb1, hyes, hno⟩ := w
        refine wpAny_handleBy_cons (codeAny_handlers_test ?_) (by intro q; cases q)
        have LT : PySem.W.Looks (model X.prog X.w) h3 (typeOf (.ref a)) cls := fun A Q E s k q => wpAny_typeOf_ref (k _ _ he3) (by rw [hz3.1]; exact q)
        have LM := PySem.W.exm_one (M := model X.prog X.w) (J3.kIn) LT hb1
        have test : ∀ {Q : Value → Shared → Prop} {E : Value → Shared → Prop}, Q c { s' with heap := h3 } → wpAny (model X.prog X.w) (X.A.mark (some (.ref a))) (eval (.Name x np) X.env) Q E { s' with heap := h3 } := fun {Q E} q => by
          obtain ⟨hg, hdbg, hm | ⟨hm, hv, hnn⟩⟩ := hc
          · exact ld_glob (X := X.suite a ((a, oe3) :: (X.pn ++ pins))) S3 hg hm q hdbg
          · exact ld_blt (X := X.suite a ((a, oe3) :: (X.pn ++ pins))) S3 hg hm hv q hnn hdbg
        refine test (LM.here ?_)
        cases b with
        | true =>
          refine codeAny_handlers_suite_as ?_
          refine HandSPX.lands_againZ fl3 fun h4 fl4 up4 => ?_
          have J4 : Inv X pins σ' H' { s' with heap := h4 } := J.landed nb fl4.1 ((up.trans up3).trans up4) os ag
          obtain ⟨oe4, vs4, he4, hz4, hd4⟩ := fl4.there
          obtain ⟨pe, J5, hot⟩ := hot_pins J4 fl4.1 fl4.2.2.1 hf hd4 hz4
          have S4 := J5.suite he4 hd4 na nL nF
          refine store_ok (X := X.suite a ((a, oe4) :: (X.pn ++ (pins ++ pe)))) (v := .ref a) S4 hN hi hloc rfl (fun s5 S5 => ?_) (.inr hln)
          refine wpAny_mono ((hsu a oe4 cls d (X.pn ++ (pins ++ pe)) hz4.zc ⟨_, hd4⟩ (hot _ rfl)).run [] s5 _ H' _ S5 (hyes rfl a na)) (fun f s6 hsp => ?_) (fun _ _ z => False.elim z)
          have end_ : ∀ {σ6 : St} {H6 : Hp} {Q : Shared → Prop}, Inv (X.suite a ((a, oe4) :: (X.pn ++ (pins ++ pe)))) [] σ6 H6 s6 → (∀ s7, Inv X pins (σ6.set i none) H6 s7 → Q s7) →
              wpAny (model X.prog X.w) X.A (do bindName X.env n .none; unbindBehindTheSuite X.env n pos') (fun _ s7 => Q s7) X.xe s6 := fun {σ6 H6 Q} S6 hq => gone_ok (S6.unsuite ok).unpinned hN hi hln hq
          cases f with
          | next =>
            obtain ⟨σ6, H6, S6, q6⟩ := hsp
            exact end_ S6 fun s7 J7 => ⟨_, _, J7, q6⟩
          | brk =>
            obtain ⟨σ6, H6, S6, q6⟩ := hsp
            exact end_ S6 fun s7 J7 => ⟨_, _, J7, q6⟩
          | cont =>
            obtain ⟨σ6, H6, S6, q6⟩ := hsp
            exact end_ S6 fun s7 J7 => ⟨_, _, J7, q6⟩
          | ret u =>
            obtain ⟨v6, σ6, H6, S6, r6, q6⟩ := hsp
            exact end_ S6 fun s7 J7 => ⟨_, _, _, J7, r6, q6⟩
        | false =>
          show wpAny _ X.A (handleBy (.ref a) X.env hds2) _ _ _
          exact ih (hno rfl)
    exact go hh w
  · cases f with
    | next =>
      obtain ⟨σ', H', J', q⟩ := hsp
      exact wpAny_execs_nil ⟨σ', H', J'.ofTry ok, q⟩
    | brk =>
      obtain ⟨σ', H', J', q⟩ := hsp
      exact ⟨σ', H', J'.ofTry ok, q⟩
    | cont =>
      obtain ⟨σ', H', J', q⟩ := hsp
      exact ⟨σ', H', J'.ofTry ok, q⟩
    | ret u =>
      obtain ⟨v, σ', H', J', r, q⟩ := hsp
      exact ⟨v, σ', H', J'.ofTry ok, r, q⟩
end
end L2
/-! ZQ0: NoText(at), an own error over ValueError with its own __init__ (lines of the worked proof 42_own_error_by_import, turned to this class). -/
namespace PySem
namespace NtX
open PySem.W PySem.Calls PyProof.Rows PySem.HandSPX
/-! ### the text of __init__ -/
def iA (p1 p2 : Pos) : Arguments := { posonlyargs := [], args := [{ arg := "self", annotation := none, pos := p1 }, { arg := "at", annotation := none, pos := p2 }], vararg := none, kwonlyargs := [], kw_defaults := [], kwarg := none, defaults := [] }
def iB (q1 q2 q3 q4 : Pos) : List Stmt := [.Assign [.Attribute (.Name "self" q1) "at" q2] (.Name "at" q3) q4]
def iS : Scope := { kind := .function, names := [(PySem.Str.ofString "self", .local), (PySem.Str.ofString "at", .local)], isGenerator := false, isCoroutine := false, more := [] }
/-- what the written part says of NoText, at C, and of its __init__, at fI -/
structure NtTxt (K : Frag) (mg : Str → Option Value) (C fI : Addr) : Prop where
  gC : mg "NoText" = some (.ref C)
  cls : ∃ nm q N bs bm sn sub ab col dd k0 k1 k2 k3 k5, K.lookup C = some (excClassObj nm q C N bs bm true sn sub ab col dd k0 k1 k2 k3 k5 "ValueError.__new__") ∧ refsVE bm = true
  sa : findIn K (.ref C) "__setattr__" = some (some (.builtin "object.__setattr__"))
  ga : findIn K (.ref C) "__getattribute__" = some (some (.builtin "BaseException.__getattribute__"))
  gg : findIn K (.ref C) "__getattr__" = some none
  noN : findIn K (.ref C) "at" = some none
  iC : findIn K (.ref C) "__init__" = some (some (.ref fI))
  tC : typeIn K (.ref fI) = some (.type "function")
  kC : keepIn K (.ref C) = true
  exC : subIn K (.ref C) (.type "BaseException") = some true
  tyC : typeIn K (.ref C) = some (.type "type")
  hdC : hasDictIn K C = true
  te : exmOne K (.ref C) (.ref C) = some true
  fn : ∃ (oc : Value) (od : Option Addr) (doc pm : Value) (an : Option Addr) (cdv ct : Value) (osl : Array (Option Value)) (p1 p2 q1 q2 q3 q4 : Pos),
    K.lookup fI = some ⟨oc, od, .func (fnOf "__init__" "NoText.__init__" (iA p1 p2) (iB q1 q2 q3 q4) iS .none .none doc pm an cdv ct), osl⟩ ∧ codeIn K cdv "NoText.__init__" = true
theorem one_size (v : Value) : [v].length ≤ sizeLine := by
  rw [sizeLine_eq]
  exact (by decide : 1 ≤ 16777216)
theorem kept_but {K : Frag} {h h' : Heap} {x : Addr} (X : K.In h) (hx : K.lookup x = none) (k : ∀ b o, b ≠ x → h.get? b = some o → h'.get? b = some o) : K.In h' := fun a o e =>
  k a o (fun z => by rw [z, hx] at e; cases e) (X a o e)
theorem ldC {M : Model} {s : Shared} {name : Str} {scope : Scope} {L a : Addr} {cd : Value} {m : Str → Option Value} {x : Str} {pos : Pos} {v : Value} {Q : Value → Shared → Prop} {A : Around} {E : Value → Shared → Prop} (hn : s.heap.Ns L m) (hv : m x = some v) (h : Q v s)
    (hk : scope.kind = .function := by rfl) (hl : (envOfC name scope L a cd).kindOf x = some .local := by rfl) (hd : (x == ("__debug__" : Str)) = false := by decide) :
    wpAny M A (eval (.Name x pos) (envOfC name scope L a cd)) Q E s := wpAny_Name (wpAny_loadName_local hk hl hn hv h) hd
/-- what __init__ leaves of a fresh exception at x -/
structure InitEnd (h h' : Heap) (x C dx t1 : Addr) (v : Value) : Prop where
  keep : ∀ b o, b ≠ x → h.get? b = some o → h'.get? b = some o
  obj : h'.get? x = some { cls := .ref C, dict := some dx, data := .fields #[.ref t1, .none, .none, .none, .bool false, .none] }
  dbig : h.objs.size ≤ dx
  dne : dx ≠ x
  ns : h'.Ns1 dx (fun y => if y = "at" then some v else none)
/-- a made NoText -/
structure OwnMade (h h' : Heap) (e C d : Addr) (v : Value) : Prop where
  keep : ∀ b o, h.get? b = some o → h'.get? b = some o
  new : h.objs.size ≤ e
  obj : ∃ oe vs, h'.get? e = some oe ∧ oe.cls = .ref C ∧ oe.dict = some d ∧ oe.data = .fields vs ∧ vs[1]? = some .none ∧ vs[2]? = some .none
  dbig : h.objs.size ≤ d
  dne : d ≠ e
  ns : h'.Ns1 d (fun y => if y = "at" then some v else none)
section
variable {prog : Program} {w : World} {A : Around} {E : Value → Shared → Prop} {R : Result → Shared → Prop} {s : Shared} {K : Frag} {mg : Str → Option Value} {C fI : Addr}
end
end NtX
end PySem
namespace L2
open PySem PySem.Spec PyProof.Rows
section
variable {X : Cx} {C fI : Addr}
end
end L2
namespace L2
open PySem PySem.Spec PyProof.Rows
/-- an error of the class at S is what «except S» names -/
theorem exm_nt {K : PySem.W.Frag} {S : Addr} (h1 : PySem.W.subIn K (.ref S) (.type "BaseException") = some true) (h2 : PySem.W.isClsIn K S = true) (h3 : PySem.W.typeIn K (.ref S) = some (.type "type")) (h4 : PySem.W.subIn K (.ref S) (.ref S) = some true) :
    PySem.W.exmOne K (.ref S) (.ref S) = some true := by
  have e1 : (PySem.W.subIn K (.ref S) (.type "BaseException") == some true) = true := by rw [h1] <;> rfl
  have e2 : ((PySem.W.clsIn K S).isSome && PySem.W.typeIn K (.ref S) == some (.type "type")) = true := by
    have h2' : (PySem.W.clsIn K S).isSome = true := h2
    rw [h2', h3] <;> rfl
  show (if (PySem.W.subIn K (.ref S) (.type "BaseException") == some true) = true then (if ((PySem.W.clsIn K S).isSome && PySem.W.typeIn K (.ref S) == some (.type "type")) = true then PySem.W.subIn K (.ref S) (.ref S) else none) else none) = some true
  rw [if_pos e1, if_pos e2]
  exact h4
end L2
/-! ZQ2: raise NoText(x), try with several clauses, fields and isinstance of what they hold. -/
namespace Z
open PySem PySem.Spec PyProof.Rows L2
/-- the exception as its name's value -/
def exV (e : Ex) (a dd : Addr) : Val := if e.fs.isEmpty = true then .glo a else .exn a dd (e.fs.map (·.1)) (e.fs.map (·.2))
def dE (e : Ex) (dd : Addr) : Option Addr := if e.fs.isEmpty = true then none else some dd
open Classical in
noncomputable def uni2 (F : Addr → Addr → SO) : SO := if h : ∃ o, ∀ a b, F a b = o then h.choose else .bad
theorem uni2_e {F : Addr → Addr → SO} {o : SO} (h : ∀ a b, F a b = o) : uni2 F = o := by
  have e : ∃ o, ∀ a b, F a b = o := ⟨o, h⟩
  unfold uni2
  rw [dif_pos e]
  exact (e.choose_spec 0 0).symm.trans (h 0 0)
theorem uni2_a {F : Addr → Addr → SO} {f : Fl} {ro : En} {h : HH} (e : uni2 F = .go f ro h) (a b : Addr) : F a b = .go f ro h := by
  unfold uni2 at e
  split at e
  · rename_i x
    rw [← e]
    exact x.choose_spec a b
  · cases e
abbrev Cl := (Value → Option Bool) × Nat × (Ex → Addr → Addr → SS)
noncomputable def hand : List Cl → Ex → En → HH → SO
  | [], e, ro, h => .go (.ex e) ro h
  | (tb, i, ms) :: r, e, ro, h => match tb e.cls with
    | some true => uni2 fun a dd => gone i (ms e a dd (ro.set i (some (exV e a dd))) h)
    | some false => hand r e ro h
    | none => .bad
noncomputable def nTryM (mb : SS) (cl : List Cl) : SS := fun ro h => match mb ro h with
  | .go (.ex e) ro1 h1 => hand cl e ro1 h1
  | o => o
def tsM (K : PySem.W.Frag) (tb : Value → Option Bool) (ms : Ex → Addr → Addr → SS) : Addr → Value → Option Addr → TS := fun a cls d D σ H => ∃ (e : Ex) (dd : Addr), cls = e.cls ∧ d = dE e dd ∧ tb e.cls = some true ∧ tS K W0 (ms e a dd) D σ H
inductive WOk (K : PySem.W.Frag) : List Cl → List (Value × Nat × (Addr → Value → Option Addr → TS)) → Prop
  | nil : WOk K [] []
  | cons {tb : Value → Option Bool} {i : Nat} {ms : Ex → Addr → Addr → SS} {c : Value} {l : List Cl} {l2 : List (Value × Nat × (Addr → Value → Option Addr → TS))} : (∀ v b, tb v = some b → PySem.W.exmOne K v c = some b) → WOk K l l2 → WOk K ((tb, i, ms) :: l) ((c, i, tsM K tb ms) :: l2)
inductive HdM (X : Cx) : List ExceptHandler → List Cl → Prop
  | nil : HdM X [] []
  | cons {x n : Str} {i : Nat} {c : Value} {tb : Value → Option Bool} {ms : Ex → Addr → Addr → SS} {b₀ : Stmt} {suite : List Stmt} {np pos' : Pos} {hds : List ExceptHandler} {l : List Cl} (hN : X.N.Nodup) (hi : X.N[i]? = some n) (hln : X.env.kindOf n = some .local) (hc : Names X x c)
      (hsu : ∀ (e : Ex) (a dd : Addr) (oe : Obj) (pn : List (Addr × Obj)), tb e.cls = some true → Zc e.cls (dE e dd) oe → (∃ vs, oe.data = .fields vs) → Z.HotP (X.A.mark (some (.ref a))) ((a, oe) :: pn) → PSs (X.suite a ((a, oe) :: pn)) (b₀ :: suite) (tS X.K W0 (ms e a dd)))
      (ht : ∀ v b, tb v = some b → PySem.W.exmOne X.K v c = some b) (r : HdM X hds l) : HdM X (.ExceptHandler (some (.Name x np)) (some n) (b₀ :: suite) pos' :: hds) ((tb, i, ms) :: l)
theorem HdM.to {X : Cx} {hds : List ExceptHandler} {l : List Cl} (h : HdM X hds l) : ∃ l2, HdsA X hds l2 ∧ WOk X.K l l2 := by
  induction h with
  | nil => exact ⟨[], .nil, .nil⟩
  | @cons x n i c tb ms b₀ suite np pos' hds l hN hi hln hc hsu ht r ih =>
    obtain ⟨l2, h1, h2⟩ := ih
    refine ⟨(c, i, tsM X.K tb ms) :: l2, .cons hN hi hln hc (fun a oe cls d pn hz hd hot => ⟨fun pins s σ H D I ⟨e, dd, e1, e2, e3, p⟩ => ?_⟩) h1, .cons ht h2⟩
    subst e1 e2
    exact (hsu e a dd oe pn e3 hz hd hot).run pins s σ H D I p
theorem hand_wish {K : PySem.W.Frag} {W : WX} {D : Ends} {al al' B : List Addr} {H H' : Hp} {sg' : L2.St} {e : Ex} {d : Option Addr} {ro : En} {h : HH} (st : Stp al H al' H') (S : Sim K al' B ro h sg' H') (er : ExR K al' B H' e e.cls d) :
    ∀ {l : List Cl} {l2 : List (Value × Nat × (Addr → Value → Option Addr → TS))}, WOk K l l2 → Ps K B al H (hand l e ro h) W D → wManyA K W D l2 e.cls d sg' H' := by
  intro l l2 w
  induction w with
  | nil => exact fun p => p al' sg' H' st S _ _ er
  | @cons tb i ms c l l2 ht r ih =>
    intro p
    unfold hand at p
    cases e2 : tb e.cls with
    | none => rw [e2] at p; exact p.elim
    | some b =>
      rw [e2] at p
      refine ⟨b, ht _ _ e2, fun q a ha => ?_, fun q => ?_⟩
      · subst q
        dsimp only at p
        obtain ⟨dd, hd, rp⟩ : ∃ dd, d = dE e dd ∧ Rep K al' B H' (exV e a dd) (.ref a) := by
          by_cases hfs : e.fs.isEmpty = true
          · refine ⟨0, ?_, ?_⟩
            · unfold dE; rw [if_pos hfs]; exact er.2.1 (List.isEmpty_iff.mp hfs)
            · unfold exV; rw [if_pos hfs]; exact .glo a
          · obtain ⟨dd, gs, h1, h2, h3, h4, h5, h6⟩ := er.2.2 fun z => hfs (List.isEmpty_iff.mpr z)
            refine ⟨dd, ?_, ?_⟩
            · unfold dE; rw [if_neg hfs]; exact h1
            · unfold exV; rw [if_neg hfs]; exact .exn ⟨h2, h3, h4⟩ h5 h6
        refine ⟨e, dd, rfl, hd, e2, al', B, ro.set i (some (exV e a dd)), h, S.set i rp, ?_⟩
        cases e3 : uni2 fun a dd => gone i (ms e a dd (ro.set i (some (exV e a dd))) h) with
        | bad => rw [e3] at p; exact p.elim
        | go f3 ro3 h3 =>
          rw [e3] at p
          have e4 : gone i (ms e a dd (ro.set i (some (exV e a dd))) h) = .go f3 ro3 h3 := uni2_a e3 a dd
          cases e5 : ms e a dd (ro.set i (some (exV e a dd))) h with
          | bad => rw [e5] at e4; cases e4
          | go f5 ro5 h5 =>
            rw [e5] at e4
            have p2 := Ps.step (o := .go f3 ro3 h3) p st
            cases f5 with
            | ex _ => cases e4
            | nx =>
              cases e4
              exact fun a2 s2 H2 st2 S2 => p2 a2 _ H2 st2 (S2.unset i)
            | brk =>
              cases e4
              exact fun a2 s2 H2 st2 S2 => p2 a2 _ H2 st2 (S2.unset i)
            | ct =>
              cases e4
              exact fun a2 s2 H2 st2 S2 => p2 a2 _ H2 st2 (S2.unset i)
            | ret w =>
              cases e4
              exact fun a2 s2 H2 st2 S2 => p2 a2 _ H2 st2 (S2.unset i)
      · subst q
        exact ih p
section
variable {X : Cx} {W : WX} {pos : Pos}
theorem os_tryM {h₀ : ExceptHandler} {hds : List ExceptHandler} {cl : List Cl} {body : List Stmt} {mb : SS} (hs : X.stack = X.env :: X.outer) (hf : X.env.frame = some X.env.locals) (tk : L3.Takes X W)
    (hb : ∀ (W : WX) (pn : List (Addr × Obj)) (xe : Value → Shared → Prop), L3.Takes (X.tr pn xe) W → PassesOwn (model X.prog X.w) X.A X.env xe → PSs (X.tr pn xe) body (tS X.K W mb))
    (hh : HdM X (h₀ :: hds) cl) : PS X (.Try body (h₀ :: hds) [] [] pos) (tS X.K W (nTryM mb cl)) := by
  obtain ⟨l2, hA, hW⟩ := hh.to
  refine PS.weak (ps_try_manyA hs hf tk hb hA) ?_
  rintro D sg H ⟨al, B, ro, h, S, p⟩
  refine ⟨al, B, ro, h, S, ?_⟩
  unfold nTryM at p
  cases e1 : mb ro h with
  | bad => rw [e1] at p; exact p.elim
  | go f ro1 h1 =>
    rw [e1] at p
    intro al' sg' H' st S'
    cases f with
    | nx => exact p al' sg' H' st S'
    | brk => exact p al' sg' H' st S'
    | ct => exact p al' sg' H' st S'
    | ret w => exact p al' sg' H' st S'
    | ex e =>
      intro cls d er
      have hcls : cls = e.cls := er.1
      subst hcls
      exact hand_wish st S' er hW p
/-! ### raise NoText(x) -/
def nRaiseF (C : Addr) (f : Str) (m : SE) : SS := fun ro h => sbind (m ro h) ro fun w h1 => .go (.ex ⟨.ref C, [(f, w)]⟩) ro h1
/-! ### a field of what the suite holds -/
def lkp (n : Str) : List Str → List Val → Option Val
  | k :: ks, w :: ws => if n = k then some w else lkp n ks ws
  | _, _ => none
theorem lkp_rep {K : PySem.W.Frag} {al B : List Addr} {H : Hp} {n : Str} {w : Val} : ∀ {gs : List (Str × V)} {ws : List Val}, Reps K al B H ws (gs.map (·.2)) → lkp n (gs.map (·.1)) ws = some w → ∃ v, gs.lookup n = some v ∧ Rep K al B H w v
  | [], ws, r, e => by cases r; cases e
  | (k, y) :: gs, ws, r, e => by
    cases r with
    | cons a s =>
      have e' : (if n = k then some _ else lkp n (gs.map (·.1)) _) = some w := e
      by_cases c : n = k
      · rw [if_pos c] at e'
        cases e'
        exact ⟨y, by rw [lookup_put, if_pos c], a⟩
      · rw [if_neg c] at e'
        obtain ⟨v, h1, h2⟩ := lkp_rep s e'
        exact ⟨v, by rw [lookup_put, if_neg c]; exact h1, h2⟩
def sFld (e : Ex) (a dd : Addr) (n : Str) (m : SE) : SE := fun ro => bind (m ro) fun w => match w with
  | .exn a' dd' ns ws => if a' = a ∧ dd' = dd ∧ e.fs.isEmpty = false then (match lkp n ns ws with | some w => ret w | none => fail) else fail
  | _ => fail
theorem oe_fld {a dd C : Addr} {oe : Obj} {e : Ex} {pn : List (Addr × Obj)} {n : Str} {ex : Expr} {m : SE} (T : XfC X.K C) (hno : PySem.W.findIn X.K (.ref C) n = some none) (hc : e.cls = .ref C) (hz : Zc e.cls (dE e dd) oe) (hf : ∃ vs, oe.data = .fields vs)
    (he : PE (X.suite a ((a, oe) :: pn)) ex (tE X.K W m)) (hb : attributeBase ex n X.env (eval ex X.env) = eval ex X.env) : PE (X.suite a ((a, oe) :: pn)) (.Attribute ex n pos) (tE X.K W (sFld e a dd n m)) := by
  refine PE.weak (pe_xf T hno hz hf he hb) ?_
  rintro sg H Q ⟨al, B, ro, h, S, p⟩
  refine ⟨al, B, ro, h, S, Po.mono (Po.bind p) fun v H1 ⟨al1, h1, w, st, hr, r1, q⟩ => ?_⟩
  cases r1 with
  | @exn a' dd' ns ws gs h2 h3 h4 =>
    dsimp only at q
    split at q
    · rename_i c
      obtain ⟨rfl, rfl, c3⟩ := c
      cases e5 : lkp n ns ws with
      | none => rw [e5] at q; exact q.elim
      | some w =>
        rw [e5] at q
        subst h3
        obtain ⟨v, l, r⟩ := lkp_rep h4 e5
        exact ⟨rfl, hc, dd', gs, v, by unfold dE; rw [if_neg (by rw [c3]; simp)], h2.1, l, Po.now q hr r⟩
    · exact q.elim
  | _ => exact q.elim
/-! ### isinstance of it -/
def exIs (e : Ex) (a dd : Addr) (w : Val) : Bool := match w with
  | .glo a' => decide (a' = a) && e.fs.isEmpty
  | .exn a' dd' _ _ => decide (a' = a) && (decide (dd' = dd) && !e.fs.isEmpty)
  | _ => false
def clsL (c : Val) : List Val := match c with
  | .tup ds => ds
  | c => [c]
def fIsX (e : Ex) (a dd : Addr) (cs : List Val) (b : Bool) (ws : List Val) : M Val := fun h => match ws with
  | [w, c] => if exIs e a dd w = true ∧ sameCs (clsL c) cs = true then .ok (.bl b) h else .bad
  | _ => .bad
def rIsX (K : PySem.W.Frag) (D a : Addr) (d : Option Addr) : List V → Hp → VK → Prop := fun xs H Q => (d = none ∨ ∃ d0 gs, d = some d0 ∧ H d0 = some (.xd gs)) ∧ rIsEs K D a xs H Q
theorem lk_isX {K : PySem.W.Frag} {D a dd : Addr} {e : Ex} {cs : List Val} {cvs : List Value} {b : Bool} (e1 : clsVs cs = some cvs) (e2 : PySem.W.kitAny K (.ref D) cvs = some b) : Lks K (fIsX e a dd cs b) (rIsX K D a (dE e dd)) := by
  intro W al B sg H h ws vs Q hr rs p
  unfold fIsX at p
  split at p
  · rename_i w0 c0
    obtain ⟨v1, v2, rfl, r1, r2⟩ := rs.two
    split at p
    · rename_i q
      obtain ⟨q1, q2⟩ := q
      have hd : v1 = .ref a ∧ (dE e dd = none ∨ ∃ d0 gs, dE e dd = some d0 ∧ H d0 = some (.xd gs)) := by
        unfold exIs at q1
        split at q1
        · rw [Bool.and_eq_true, decide_eq_true_eq] at q1
          obtain ⟨rfl, f1⟩ := q1
          cases r1
          exact ⟨rfl, .inl (by unfold dE; rw [if_pos f1])⟩
        · rw [Bool.and_eq_true, Bool.and_eq_true, decide_eq_true_eq, decide_eq_true_eq] at q1
          obtain ⟨rfl, rfl, f1⟩ := q1
          cases r1 with
          | exn h2 h3 h4 => exact ⟨rfl, .inr ⟨_, _, by unfold dE; rw [if_neg (by intro z; rw [z] at f1; cases f1)], h2.1⟩⟩
        · cases q1
      obtain ⟨rfl, hd⟩ := hd
      refine ⟨hd, ?_⟩
      have ec := sameCs_eq q2
      subst ec
      by_cases ct : ∃ ds, c0 = .tup ds
      · obtain ⟨ds, rfl⟩ := ct
        cases r2 with
        | tup q l s => exact .inr ⟨_, _, cvs, b, rfl, sqT_of q, clsVs_rel e1 s, e2, Po.now p hr (.bl b)⟩
      · have ec : clsL c0 = [c0] := by
          cases c0 with
          | tup ds => exact absurd ⟨ds, rfl⟩ ct
          | _ => rfl
        rw [ec] at e1
        unfold clsVs at e1
        split at e1
        · rename_i cv cvs' e3 e4
          cases e4
          cases e1
          refine .inl ⟨v2, cv, b, rfl, clsV_rel e3 r2, ?_, Po.now p hr (.bl b)⟩
          unfold PySem.W.kitAny at e2
          cases e5 : PySem.W.kitOne K (.ref D) cv with
          | none => rw [e5] at e2; cases e2
          | some k => rw [e5] at e2; cases k <;> exact e2
        · cases e1
    · exact p.elim
  · exact p.elim
end
end Z
/-! ZQ3: list[::-1], list * int, text.find, clauses that let others by. -/
namespace Z
open PySem PySem.Spec PyProof.Rows L2
section
variable {X : Cx} {W : WX} {e : Expr} {m : SE} {k : Nat} {p1 p2 p3 pos : Pos}
end
/-! ### list * int -/
/-! ### text.find -/
/-! ### clauses -/
/-- except C: exceptions of C are held, those of the classes in no are let by -/
def onlyN (C : Addr) (no : List Addr) : Value → Option Bool := fun v => match v with
  | .ref a => if a = C then some true else if a ∈ no then some false else none
  | _ => none
theorem onlyN_eq {C : Addr} {no : List Addr} {v : Value} (h : onlyN C no v = some true) : v = .ref C := by
  unfold onlyN at h
  split at h
  · split at h
    · rename_i e; rw [e]
    · split at h <;> cases h
  · cases h
theorem onlyN_zc {C : Addr} {no : List Addr} {e : Ex} {d : Option Addr} {oe : Obj} (h : onlyN C no e.cls = some true) (z : Zc e.cls d oe) : Zc (.ref C) d oe := by
  rw [onlyN_eq h] at z
  exact z
theorem onlyN_ok {K : PySem.W.Frag} {C : Addr} {no : List Addr} (self : PySem.W.exmOne K (.ref C) (.ref C) = some true) (h1 : PySem.W.subIn K (.ref C) (.type "BaseException") = some true) (hdct : PySem.W.hasDictIn K C = true) (ht : PySem.W.typeIn K (.ref C) = some (.type "type"))
    (hno : ∀ D ∈ no, PySem.W.subIn K (.ref D) (.ref C) = some false) (v : Value) (b : Bool) (h : onlyN C no v = some b) : PySem.W.exmOne K v (.ref C) = some b := by
  unfold onlyN at h
  split at h
  · split at h
    · rename_i e
      cases h
      rw [e]
      exact self
    · split at h
      · rename_i m
        cases h
        exact PySem.W.exm_ref h1 hdct ht (hno _ m)
      · cases h
  · cases h
/-! ### key in a written dict, any key -/
section
variable {X : Cx}
end
end Z
/-! ZD: own dicts: made, read, asked, stored into, their length, their keys in order. -/
namespace Z
open PySem PySem.Spec PyProof.Rows L2
def keyOf : Val → Option Key
  | .int i => some (.inl i)
  | .str x => some (.inr x)
  | _ => none
def dval (kvs : List (Key × Val)) (k : Key) : Option Val := match kvs with
  | [] => none
  | kv :: r => if kv.1 = k then some kv.2 else dval r k
def drep (kvs : List (Key × Val)) (k : Key) (w : Val) : List (Key × Val) := kvs.map fun kv => if kv.1 = k then (kv.1, w) else kv
def dput (kvs : List (Key × Val)) (k : Key) (w : Val) : List (Key × Val) := match dval kvs k with
  | some _ => drep kvs k w
  | none => kvs ++ [(k, w)]
section
variable {K : PySem.W.Frag} {al B : List Addr} {H : Hp}
theorem keyOf_rep {w : Val} {v : V} {k : Key} (e : keyOf w = some k) (r : Rep K al B H w v) : v = kV k := by
  cases w with
  | int i => cases e; cases r; rfl
  | str x => cases e; cases r; rfl
  | _ => cases e
/-- entries that stand for entries -/
def DRs (K : PySem.W.Frag) (al B : List Addr) (H : Hp) (kvs : List (Key × Val)) (kws : List (Key × V)) : Prop := kvs.map (·.1) = kws.map (·.1) ∧ Reps K al B H (kvs.map (·.2)) (kws.map (·.2))
theorem DRs.nil : DRs K al B H [] [] := ⟨rfl, .nil⟩
theorem DRs.split {kv : Key × Val} {r : List (Key × Val)} {kws : List (Key × V)} (d : DRs K al B H (kv :: r) kws) : ∃ v r', kws = (kv.1, v) :: r' ∧ Rep K al B H kv.2 v ∧ DRs K al B H r r' := by
  obtain ⟨e, q⟩ := d
  cases kws with
  | nil => cases e
  | cons kw r' =>
    obtain ⟨k', v⟩ := kw
    rw [List.map_cons, List.map_cons] at e
    obtain ⟨e1, e2⟩ := List.cons.inj e
    rw [List.map_cons, List.map_cons] at q
    cases q with
    | cons a b => exact ⟨v, r', by rw [e1], a, e2, b⟩
theorem DRs.cons {k : Key} {w : Val} {v : V} {r : List (Key × Val)} {r' : List (Key × V)} (a : Rep K al B H w v) (d : DRs K al B H r r') : DRs K al B H ((k, w) :: r) ((k, v) :: r') :=
  ⟨by rw [List.map_cons, List.map_cons, d.1], .cons a d.2⟩
theorem DRs.get {k : Key} : ∀ {kvs : List (Key × Val)} {kws : List (Key × V)}, DRs K al B H kvs kws → (∀ w, dval kvs k = some w → ∃ v, valV kws k = some v ∧ Rep K al B H w v) ∧ (dval kvs k = none → valV kws k = none)
  | [], kws, d => by
    obtain ⟨e, _⟩ := d
    have : kws = [] := List.map_eq_nil_iff.mp e.symm
    subst this
    exact ⟨(fun w e => by cases e), fun _ => rfl⟩
  | kv :: r, kws, d => by
    obtain ⟨v, r', rfl, a, d'⟩ := d.split
    obtain ⟨i1, i2⟩ := DRs.get (k := k) d'
    unfold dval
    by_cases c : kv.1 = k
    · rw [if_pos c, valV_pos (p := (kv.1, v)) c]
      exact ⟨(fun w e => ⟨v, rfl, by cases e; exact a⟩), (fun e => by cases e)⟩
    · rw [if_neg c, valV_neg (p := (kv.1, v)) c]
      exact ⟨i1, i2⟩
theorem DRs.snoc {k : Key} {w : Val} {v : V} (a : Rep K al B H w v) : ∀ {kvs : List (Key × Val)} {kws : List (Key × V)}, DRs K al B H kvs kws → DRs K al B H (kvs ++ [(k, w)]) (kws ++ [(k, v)])
  | [], kws, d => by
    have : kws = [] := List.map_eq_nil_iff.mp d.1.symm
    subst this
    exact .cons a .nil
  | kv :: r, kws, d => by
    obtain ⟨v', r', rfl, a', d'⟩ := d.split
    exact .cons a' (DRs.snoc a d')
theorem DRs.rep {k : Key} {w : Val} {v : V} (a : Rep K al B H w v) : ∀ {kvs : List (Key × Val)} {kws : List (Key × V)}, DRs K al B H kvs kws → DRs K al B H (drep kvs k w) (kws.map fun kv => if kv.1 = k then (kv.1, v) else kv)
  | [], kws, d => by
    have : kws = [] := List.map_eq_nil_iff.mp d.1.symm
    subst this
    exact .nil
  | kv :: r, kws, d => by
    obtain ⟨v', r', rfl, a', d'⟩ := d.split
    have ih := DRs.rep (k := k) a d'
    obtain ⟨k1, w1⟩ := kv
    show DRs K al B H ((if k1 = k then (k1, w) else (k1, w1)) :: drep r k w) ((if k1 = k then (k1, v) else (k1, v')) :: _)
    by_cases c : k1 = k
    · rw [if_pos c, if_pos c]; exact .cons a ih
    · rw [if_neg c, if_neg c]; exact .cons a' ih
theorem DRs.put {k : Key} {w : Val} {v : V} (a : Rep K al B H w v) {kvs : List (Key × Val)} {kws : List (Key × V)} (d : DRs K al B H kvs kws) : DRs K al B H (dput kvs k w) (putK kws k v) := by
  obtain ⟨i1, i2⟩ := d.get (k := k)
  unfold dput putK
  rw [valV_any]
  cases e : dval kvs k with
  | none =>
    rw [i2 e]
    exact d.snoc a
  | some w0 =>
    obtain ⟨v0, e2, _⟩ := i1 w0 e
    rw [e2]
    exact d.rep a
theorem DRs.len {kvs : List (Key × Val)} {kws : List (Key × V)} (d : DRs K al B H kvs kws) : kvs.length = kws.length := by
  have := congrArg List.length d.1
  simpa using this
theorem DRs.mono {al' : List Addr} {H' : Hp} (s : Stp al H al' H') {kvs : List (Key × Val)} {kws : List (Key × V)} (d : DRs K al B H kvs kws) : DRs K al' B H' kvs kws := ⟨d.1, d.2.step s⟩
theorem own_dic {h : HH} {n : Nat} {a : Addr} {kvs : List (Key × Val)} (hr : HR K al B H h) (r : Rep K al B H (.ref n) (.ref a)) (e : h[n]? = some (.dic kvs)) : a ∈ al ∧ al[n]? = some a ∧ ∃ kws, H a = some (.dK kws) ∧ DRs K al B H kvs kws := by
  cases r with
  | ref q =>
    have o := hr.ob n a _ q e
    cases o with
    | dic e1 e2 e3 => exact ⟨List.mem_of_getElem? q, q, _, e1, e2, e3⟩
end
/-! ### the operations -/
section
variable {X : Cx} {W : WX} {o i e value : Expr} {pos pos' : Pos} {mo mi mv : SE}
end
/-! ### keys in order -/
end Z
/-! ZDC: {k: v for target in iter if ..}, an own dict. -/
namespace Z
open PySem PySem.Spec PyProof.Rows L2
/-! ### what was being made becomes an own object -/
section
variable {K : PySem.W.Frag} {al B : List Addr} {H : Hp} {D : Addr}
theorem own_no {a : Addr} (h1 : a ∉ al) (h2 : a ∉ D :: B) : a ∉ al ++ [D] ∧ a ∉ B := ⟨fun z => by
  rcases List.mem_append.mp z with z | z
  · exact h1 z
  · exact h2 (by rw [List.mem_singleton.mp z]; exact List.mem_cons_self), fun z => h2 (List.mem_cons_of_mem _ z)⟩
theorem At.own {a : Addr} {u : HO} (x : At al (D :: B) H a u) : At (al ++ [D]) B H a u := ⟨x.1, own_no x.2.1 x.2.2⟩
theorem At1.own {a : Addr} {u : HO} (x : At1 al (D :: B) H a u) : At1 (al ++ [D]) B H a u := ⟨x.1, own_no x.2.1 x.2.2⟩
theorem AtT.own {a : Addr} {u : List V} (x : AtT al (D :: B) H a u) : AtT (al ++ [D]) B H a u := by
  obtain ⟨w, q, f⟩ := x
  exact ⟨w, q.own, f⟩
mutual
theorem Rep.own : ∀ {w : Val} {v : V}, Rep K al (D :: B) H w v → Rep K (al ++ [D]) B H w v
  | _, _, .non => .non
  | _, _, .bl b => .bl b
  | _, _, .int i => .int i
  | _, _, .str x => .str x
  | _, _, .tup a l r => .tup (a.imp AtT.own id) l (Reps.own r)
  | _, _, .lst a l r => .lst (At1.own a) l (Reps.own r)
  | _, _, .ref e => .ref (by rw [List.getElem?_append_left (List.getElem?_eq_some_iff.mp e).1]; exact e)
  | _, _, .glo a => .glo a
  | _, _, .ty n => .ty n
  | _, _, .scr a l => .scr (a.imp At.own id) l
  | _, _, .exn a e r => .exn (At1.own a) e (Reps.own r)
theorem Reps.own : ∀ {w : List Val} {v : List V}, Reps K al (D :: B) H w v → Reps K (al ++ [D]) B H w v
  | _, _, .nil => .nil
  | _, _, .cons a r => .cons (Rep.own a) (Reps.own r)
end
theorem ObR.own {o : Ob} {a : Addr} (x : ObR K al (D :: B) H o a) : ObR K (al ++ [D]) B H o a := by
  cases x with
  | lst h l r => exact .lst h l r.own
  | dic h k r => exact .dic h k r.own
  | ins h k r => exact .ins h k r.own
theorem HR.own {h : HH} {o : Ob} (x : HR K al (D :: B) H h) (nB : D ∉ B) (r : ObR K (al ++ [D]) B H o D) : HR K (al ++ [D]) B H (h ++ [o]) := by
  have nd : D ∉ al := x.apart D List.mem_cons_self
  refine ⟨?_, by simp [x.len], fun i a v e1 e2 => ?_, fun a ha => x.live a (List.mem_cons_of_mem _ ha), fun a ha q => ?_⟩
  · rw [List.nodup_append]
    refine ⟨x.nd, by simp, fun a ha b hb => ?_⟩
    rw [List.mem_singleton] at hb
    subst hb
    exact fun z => nd (z ▸ ha)
  · by_cases z : i < al.length
    · rw [List.getElem?_append_left z] at e1
      rw [List.getElem?_append_left (by rw [← x.len]; exact z)] at e2
      exact (x.ob i a v e1 e2).own
    · have l := (List.getElem?_eq_some_iff.mp e1).1
      have : i = al.length := by simp at l; omega
      subst this
      rw [List.getElem?_concat_length] at e1
      rw [x.len, List.getElem?_concat_length] at e2
      cases e1; cases e2
      exact r
  · rcases List.mem_append.mp q with q | q
    · exact x.apart a (List.mem_cons_of_mem _ ha) q
    · rw [List.mem_singleton] at q
      exact nB (q ▸ ha)
theorem Stp.own {H0 : Hp} {al0 : List Addr} (s : Stp al0 H0 al H) (n : H0 D = none) : Stp al0 H0 (al ++ [D]) H := by
  obtain ⟨⟨be, e, f⟩, k, u⟩ := s
  refine ⟨⟨be ++ [D], by rw [e, List.append_assoc], fun b hb => ?_⟩, k, u⟩
  rcases List.mem_append.mp hb with hb | hb
  · exact f b hb
  · rw [List.mem_singleton.mp hb]; exact n
end
/-! ### the comprehension -/
def dcTurns (g : GM) (t : En → M Bool) (mk mv : SE) (ro : En) (x : Itm) : Nat → Nat → List (Key × Val) → M (List (Key × Val))
  | 0, i, acc, h => match nxt x i h with
    | some none => .ok acc h
    | _ => .bad
  | k + 1, i, acc, h => match nxt x i h with
    | none => .bad
    | some none => .ok acc h
    | some (some w) => match g w ro h with
      | .go .nx ro1 h1 => match t ro1 h1 with
        | .ok b h2 => if b = true then match mk ro1 h2 with
            | .ok y h3 => match keyOf y with
              | some key => match mv ro1 h3 with
                | .ok z h4 => dcTurns g t mk mv ro x k (i + 1) (dput acc key z) h4
                | _ => .bad
              | none => .bad
            | _ => .bad
          else dcTurns g t mk mv ro x k (i + 1) acc h2
        | _ => .bad
      | _ => .bad
def newD (kvs : List (Key × Val)) : M Val := fun h => .ok (.ref h.length) (h ++ [.dic kvs])
def sDc (mi : SI) (g : GM) (t : En → M Bool) (mk mv : SE) (own : List Nat) : SE := fun ro => bind (mi ro) fun x => bind (dcTurns g t mk mv (wipeN ro own) x.1 x.2 0 []) newD
theorem dput_len {kvs : List (Key × Val)} {k : Key} {w : Val} : (dput kvs k w).length ≤ kvs.length + 1 := by
  unfold dput
  split
  · unfold drep; simp
  · simp
theorem tE_dc {K : PySem.W.Frag} {W : WX} {mi : SI} {g : GM} {sl : List Nat} {t : En → M Bool} {mk mv : SE} {own : List Nat} (hsl : ∀ i ∈ sl, i ∈ own) (sg : L2.St) (H : Hp) (Q : VK) (p : tE K W (sDc mi g t mk mv own) sg H Q) :
    tDc (tI K W mi) (tG K sl g) (tT K (fun _ _ _ _ => False) t) (tE K (fun _ _ _ _ => False) mk) (tE K (fun _ _ _ _ => False) mv) own sg H Q := by
  obtain ⟨al, B, ro, h, S, p⟩ := p
  refine ⟨al, B, ro, h, S, Po.mono (Po.bind p) fun J H1 ⟨al1, h1, ⟨x, n⟩, st, hr, ⟨it, hlen⟩, q⟩ => ?_⟩
  dsimp only at it q hlen
  intro D hD
  have S1 := (S.step st hr).wiped own
  have hDB : ∀ b ∈ D :: B, b ∈ B ∨ H1 b = none := fun b hb => by
    rcases List.mem_cons.mp hb with e | e
    · exact .inr (e ▸ hD)
    · exact .inl e
  have key : ∀ acc accV al2 H2 h2, Po K B (fun al H => Rep K al B H) sg al1 H1 (obind (.ok acc h2) newD) W Q → Stp al1 H1 al2 H2 → HR K al2 (D :: B) H2 h2 → H2 D = some (.dK accV) → DRs K al2 (D :: B) H2 acc accV → Q (.ref D) H2 := by
    intro acc accV al2 H2 h2 q s2 hr2 d2 r2
    refine q (al2 ++ [D]) H2 (.ref D) (s2.own hD) (hr2.own (hr.fresh hD).2 (.dic d2 r2.1 r2.2.own)) (.ref ?_)
    rw [← hr2.len, List.getElem?_concat_length]
  refine ⟨fun i k H2 => ∃ al2 h2 acc accV, Stp al1 H1 al2 H2 ∧ HR K al2 (D :: B) H2 h2 ∧ H2 D = some (.dK accV) ∧ DRs K al2 (D :: B) H2 acc accV ∧ acc.length + k ≤ sizeLine ∧
    Po K B (fun al H => Rep K al B H) sg al1 H1 (obind (dcTurns g t mk mv (wipeN ro own) x k i acc h2) newD) W Q, ⟨n, al1, h1, [], [], Stp.lay hD, hr.grow hD, upd_same, .nil, by simpa using hlen, q⟩, ?_⟩
  rintro i k H2 ⟨al2, h2, acc, accV, st2, hr2, d2, r2, hl, q2⟩
  obtain ⟨i1, i2⟩ := it al2 (D :: B) H2 h2 st2.toB hDB hr2 i
  cases e0 : nxt x i h2 with
  | none => cases k <;> (unfold dcTurns at q2; rw [e0] at q2; exact q2.elim)
  | some o =>
  cases o with
  | none =>
    refine .inl ⟨i1 e0, ?_⟩
    cases k with
    | zero => unfold dcTurns at q2; rw [e0] at q2; exact key acc accV al2 H2 h2 q2 st2 hr2 d2 r2
    | succ k => unfold dcTurns at q2; rw [e0] at q2; exact key acc accV al2 H2 h2 q2 st2 hr2 d2 r2
  | some w =>
    obtain ⟨g1, g2⟩ := i2 w e0
    cases k with
    | zero => unfold dcTurns at q2; rw [e0] at q2; exact q2.elim
    | succ k =>
    unfold dcTurns at q2
    rw [e0] at q2
    refine .inr ⟨g1, fun H3 => ∃ al3 h3 acc accV, Stp al1 H1 al3 H3 ∧ HR K al3 (D :: B) H3 h3 ∧ H3 D = some (.dK accV) ∧ DRs K al3 (D :: B) H3 acc accV ∧ acc.length + k ≤ sizeLine ∧
      Po K B (fun al H => Rep K al B H) sg al1 H1 (obind (dcTurns g t mk mv (wipeN ro own) x k (i + 1) acc h3) newD) W Q, fun H3 ⟨al3, h3, acc, accV, a, b, c, d, e, f⟩ => ⟨k, by omega, al3, h3, acc, accV, a, b, c, d, e, f⟩, fun y H3 yy => ?_⟩
    obtain ⟨s3, hr3, r3⟩ := g2 y H3 yy
    have st3 := st2.trans s3
    have d3 : H3 D = some (.dK accV) := s3.keep _ _ d2 (hr2.apart D List.mem_cons_self)
    refine ⟨al2, D :: B, wipeN ro own, h2, w, S1.stepB st3.toB hDB hr3, r3, ?_⟩
    dsimp only at q2
    cases e : g w (wipeN ro own) h2 with
    | bad => rw [e] at q2; exact q2.elim
    | go f ro4 h4 =>
      rw [e] at q2
      cases f with
      | nx =>
        intro al4 sg4 H4 st4 S4 ⟨hl4, f4⟩
        have d4 : H4 D = some (.dK accV) := st4.keep _ _ d3 (hr3.apart D List.mem_cons_self)
        refine ⟨(wipe_same hl4 fun i hi => f4 i fun z => hi (hsl i z)).trans wipe_wipe, ?_⟩
        refine ⟨al4, D :: B, ro4, h4, S4, ?_⟩
        dsimp only at q2
        cases e2 : t ro4 h4 with
        | bad => rw [e2] at q2; exact q2.elim
        | ex _ _ => rw [e2] at q2; exact q2.elim
        | ok b h5 =>
          rw [e2] at q2
          intro al5 H5 v5 st5 hr5 eb
          subst eb
          have d5 : H5 D = some (.dK accV) := st5.keep _ _ d4 (S4.hr.apart D List.mem_cons_self)
          have st15 := (st3.trans st4).trans st5
          have r5 := r2.mono ((s3.trans st4).trans st5)
          cases b with
          | false => exact ⟨al5, h5, acc, accV, st15, hr5, d5, r5, by omega, q2⟩
          | true =>
            rw [if_pos rfl]
            refine ⟨al5, D :: B, ro4, h5, S4.step st5 hr5, ?_⟩
            dsimp only at q2
            rw [if_pos rfl] at q2
            cases e3 : mk ro4 h5 with
            | bad => rw [e3] at q2; exact q2.elim
            | ex _ _ => rw [e3] at q2; exact q2.elim
            | ok y6 h6 =>
              rw [e3] at q2
              intro al6 H6 v6 st6 hr6 r6
              have d6 : H6 D = some (.dK accV) := st6.keep _ _ d5 (hr5.apart D List.mem_cons_self)
              dsimp only at q2
              cases ek : keyOf y6 with
              | none => rw [ek] at q2; exact q2.elim
              | some kk =>
                rw [ek] at q2
                dsimp only at q2
                refine ⟨al6, D :: B, ro4, h6, (S4.step st5 hr5).step st6 hr6, ?_⟩
                cases e4 : mv ro4 h6 with
                | bad => rw [e4] at q2; exact q2.elim
                | ex _ _ => rw [e4] at q2; exact q2.elim
                | ok z7 h7 =>
                  rw [e4] at q2
                  intro al7 H7 v7 st7 hr7 r7
                  have d7 : H7 D = some (.dK accV) := st7.keep _ _ d6 (hr6.apart D List.mem_cons_self)
                  have rl := r2.len
                  refine ⟨accV, kk, keyOf_rep ek r6, d7, by omega, al7, h7, dput acc kk z7, putK accV kk v7, ((st15.trans st6).trans st7).turn hD (by rw [d7]; simp), hr7.turn List.mem_cons_self, upd_same, ?_, ?_, q2⟩
                  · have r7' := (r5.mono (st6.trans st7)).put (k := kk) r7
                    exact ⟨r7'.1, r7'.2.turn List.mem_cons_self⟩
                  · have := dput_len (kvs := acc) (k := kk) (w := z7)
                    omega
      | _ => exact q2.elim
section
variable {X : Cx} {W : WX} {kx vx tg iter : Expr} {ifs : List Expr} {scope : Scope} {own : List (Str × Nat)} {pos : Pos} {mi : SI} {g : GM} {sl : List Nat} {t : En → M Bool} {mk mv : SE}
end
end Z
namespace L2
open PySem PySem.Spec PyProof.Rows
section
variable {X : Cx}
/-- y = {k: v for ..} -/
theorem ps_setDc {i : Nat} {y : Str} {py : Pos} {kx vx tg iter : Expr} {ifs : List Expr} {scope : Scope} {own : List (Str × Nat)} {pos spos : Pos} {wi : TI} {g : TG} {tt : TT} {tk tv : TE} (hc : X.calm = true) (hN : X.N.Nodup) (hy : X.N[i]? = some y) (hyl : X.env.scope.names.lookup y = some .local)
    (hsw : swapsWith (.DictComp kx vx [⟨tg, iter, ifs, 0⟩] scope pos) (some (.Name y py)) spos.line X.env = pure true) (hi : PI X tg iter wi) (ok : BlkOk X.N X.env.scope scope own)
    (hg : ∀ (s : Shared) (H : Hp) (C : Addr) (cl : List (Str × Addr)) (fp : List Addr), PG (X.blk s H scope (compEnvC scope cl C X.env) fp) tg g) (ht : ∀ (s : Shared) (H : Hp) (C : Addr) (cl : List (Str × Addr)) (fp : List Addr), PTs (X.blk s H scope (compEnvC scope cl C X.env) fp) ifs tt)
    (hk : ∀ (s : Shared) (H : Hp) (C : Addr) (cl : List (Str × Addr)) (fp : List Addr), PE (X.blk s H scope (compEnvC scope cl C X.env) fp) kx tk)
    (he : ∀ (s : Shared) (H : Hp) (C : Addr) (cl : List (Str × Addr)) (fp : List Addr), PE (X.blk s H scope (compEnvC scope cl C X.env) fp) vx tv) (hs : ∀ x, foldedSetIterable iter X.env x = pure x := by intro _; rfl) :
    PS X (.Assign [.Name y py] (.DictComp kx vx [⟨tg, iter, ifs, 0⟩] scope pos) spos) (tAsg (tDc wi g tt tk tv (own.map (·.2))) (gName i)) := by
  refine ⟨fun pins s σ H D I h => ?_⟩
  rw [exec_Assign_Name_used _ _ _ _ hsw]
  refine wpAny_bind (wpAny_standAt (wpAny_bind ?_))
  show wpAny _ X.A (do let _ ← comprehension (.DictComp kx vx [⟨tg, iter, ifs, 0⟩] scope pos) scope X.env (firstIterPos [⟨tg, iter, ifs, 0⟩] pos) newDict false (eval iter X.env) (some (assign (.Name y py) X.env))) _ _ s
  have h : tDc wi g tt tk tv (own.map (·.2)) σ H (fun x H1 => gName i x σ H1 D.nx) := h
  refine wpAny_bind (thn (dc_core (Qf := fun _ s' => SP X pins D .next s') hc hN I hi ok hg ht hk he hs h fun L C s' m H' I' q hn f => ?_) fun _ s' hq => wpAny_pure (wpAny_pure hq))
  show wpAny _ _ (assign (.Name y py) X.env (.ref L)) _ _ _
  refine wpAny_assign_Name (store_ok2 (v := V.ref L) I' hN hy (.inl hyl) rfl (fun s2 I2 ⟨a, sb, ha⟩ => ?_) (.inr hyl))
  obtain ⟨f0, f1, f2, f3, f4, f5⟩ := f
  have haC : C ≠ a := by
    rcases ha with z | z
    · rw [z]; exact f1
    · exact fun e => f4 y a z e.symm
  refine ⟨m, hn.sameBut sb haC, fun h3 sb3 => ?_⟩
  exact ⟨_, H', I2.turned (t' := s2.toks) (fun b o hb e => (sb3.2 b hb).trans e) f0 f1 f3 f4 f5, q⟩
theorem sw_trueD {kx vx : Expr} {gs : List Comprehension} {scope : Scope} {pos py : Pos} {y : Str} {l : Nat} {env : Env} (hk : env.scope.kind = .function) (hy : env.scope.names.lookup y = some .local) (hl : (py.line == pos.line) = true)
    (ha : (scope.names.any fun (n, k) => n == y && (k == .local || k == .cell)) = false) : swapsWith (.DictComp kx vx gs scope pos) (some (.Name y py)) l env = pure true := by
  have ky : env.kindOf y = some .local := hy
  have hb : env.blockKind = .function := by unfold Env.blockKind; rw [hk]; rfl
  unfold swapsWith
  simp only [hb, ky, ha, Expr.pos, hl]
  rfl
end
end L2
namespace Z
open PySem PySem.Spec PyProof.Rows L2
section
variable {X : Cx} {W : WX} {kx vx tg iter : Expr} {ifs : List Expr} {scope : Scope} {own : List (Str × Nat)} {pos : Pos} {mi : SI} {g : GM} {sl : List Nat} {t : En → M Bool} {mk mv : SE}
theorem os_setDc {i : Nat} {y : Str} {py spos : Pos} (hc : X.calm = true) (hN : X.N.Nodup) (hy : X.N[i]? = some y) (hyl : X.env.scope.names.lookup y = some .local)
    (hsw : swapsWith (.DictComp kx vx [⟨tg, iter, ifs, 0⟩] scope pos) (some (.Name y py)) spos.line X.env = pure true) (hi : PI X tg iter (tI X.K W mi)) (ok : BlkOk X.N X.env.scope scope own) (hsl : ∀ i ∈ sl, i ∈ own.map (·.2))
    (hg : ∀ (s : Shared) (H : Hp) (C : Addr) (cl : List (Str × Addr)) (fp : List Addr), PG (X.blk s H scope (compEnvC scope cl C X.env) fp) tg (tG X.K sl g))
    (ht : ∀ (s : Shared) (H : Hp) (C : Addr) (cl : List (Str × Addr)) (fp : List Addr), PTs (X.blk s H scope (compEnvC scope cl C X.env) fp) ifs (tT X.K W0 t))
    (hk : ∀ (s : Shared) (H : Hp) (C : Addr) (cl : List (Str × Addr)) (fp : List Addr), PE (X.blk s H scope (compEnvC scope cl C X.env) fp) kx (tE X.K W0 mk))
    (he : ∀ (s : Shared) (H : Hp) (C : Addr) (cl : List (Str × Addr)) (fp : List Addr), PE (X.blk s H scope (compEnvC scope cl C X.env) fp) vx (tE X.K W0 mv)) (hs : ∀ x, foldedSetIterable iter X.env x = pure x) :
    PS X (.Assign [.Name y py] (.DictComp kx vx [⟨tg, iter, ifs, 0⟩] scope pos) spos) (tS X.K W (nSet i (sDc mi g t mk mv (own.map (·.2))))) := by
  refine PS.weak (ps_setDc hc hN hy hyl hsw hi ok hg ht hk he hs) ?_
  rintro D sg H ⟨al, B, ro, h, S, p⟩
  refine tE_dc hsl sg H _ ⟨al, B, ro, h, S, Po.mono (Ps.bind S p) fun v H1 ⟨al1, h1, w, st, hr, r, q⟩ => ?_⟩
  exact q al1 _ H1 (Stp.refl _ _) ((S.step st hr).set i r)
end
end Z
/-! ZN0: own errors over other built-in classes than ValueError: what a first store into one does. -/
namespace PySem
namespace HandSPX
open Builtin Builtin.ObjectAttr
abbrev tlOverflowError : List Value := [.type "OverflowError", .type "ArithmeticError", .type "Exception", .type "BaseException", .type "object"]
abbrev tlIndexError : List Value := [.type "IndexError", .type "LookupError", .type "Exception", .type "BaseException", .type "object"]
abbrev tlException : List Value := [.type "Exception", .type "BaseException", .type "object"]
/-- own classes, then those of a built-in one -/
def refsT (tl : List Value) : List Value → Bool
  | .ref _ :: r => refsT tl r
  | l => l == tl
theorem refsT_ways {tl : List Value} (l : List Value) (e : refsT tl l = true) : (∃ c r, l = .ref c :: r ∧ refsT tl r = true) ∨ l = tl := by
  unfold refsT at e
  split at e
  · exact .inl ⟨_, _, rfl, e⟩
  · exact .inr (beq_iff_eq.mp e)
def Pass (tl : List Value) : Prop := ∀ self : Value, refuseLoop self "__setattr__" tl = pure ()
theorem tlIndexError_pass : Pass tlIndexError := F.store_IndexError.passes
theorem refsT_pass {tl : List Value} (ps : Pass tl) (nn : tl ≠ []) (self : Value) : ∀ l : List Value, refsT tl l = true → refuseLoop self "__setattr__" l = pure ()
  | [], e => by
    rcases refsT_ways [] e with ⟨_, _, q, _⟩ | q
    · cases q
    · exact absurd q.symm nn
  | x :: xs, e => by
    rcases refsT_ways (x :: xs) e with ⟨c, r, q, g⟩ | q
    · obtain ⟨rfl, rfl⟩ := List.cons.inj q
      rw [refuseLoop_ref]
      exact refsT_pass ps nn self xs g
    · rw [q]
      exact ps self
theorem refsT_contains {tl : List Value} (Y : String) : ∀ l : List Value, refsT tl l = true → l.contains (.type Y) = tl.contains (.type Y)
  | [], e => by
    rcases refsT_ways [] e with ⟨_, _, q, _⟩ | q
    · cases q
    · rw [q]
  | x :: xs, e => by
    rcases refsT_ways (x :: xs) e with ⟨c, r, q, g⟩ | q
    · obtain ⟨rfl, rfl⟩ := List.cons.inj q
      rw [List.contains_cons, refsT_contains Y xs g]
      rfl
    · rw [q]
section
variable {prog : Program} {w : World} {A : Around} {E : Value → Shared → Prop} {R : Result → Shared → Prop} {hh : Heap} {gg : Array GenState} {dd : Drawn} {tt : Nat} {oo : OsState}
theorem exc_osaT {tl : List Value} (ps : Pass tl) (nn : tl ≠ []) (ob : tl.contains (.type "object") = true) {K : W.Frag} {name : Str} {tk : Tok} {v : Value} {x C : Addr} {fv : Array Value} {cd : ClassData}
    (Y : K.In hh) (hx : hh.get? x = some { cls := .ref C, data := .fields fv }) (hc : W.clsIn K C = some cd) (hm : refsT tl cd.mro = true) (hd : cd.hasDict = true) (hn : W.findIn K (.ref C) name = some none)
    (go : ∀ h' tk' dx, (∀ b o, b ≠ x → hh.get? b = some o → h'.get? b = some o) → hh.objs.size ≤ dx → dx ≠ x → h'.get? x = some { cls := .ref C, dict := some dx, data := .fields fv } →
      h'.Ns1 dx (fun y => if y = name then some v else none) → R (.ok (.ret .none)) ⟨h', gg, dd, tk', oo⟩) :
    codeAny (model prog w) A (.call (.builtin "object.__setattr__") ⟨[.ref x, .str name tk, v], []⟩) R ⟨hh, gg, dd, tt, oo⟩ := by
  have J : W.InstAt hh x { cls := .ref C, data := .fields fv } C none := ⟨hx, rfl, rfl, trivial⟩
  have obj : cd.mro.contains (.type "object") = true := (refsT_contains "object" cd.mro hm).trans ob
  have ne : cd.mro.isEmpty = false := by
    cases q : cd.mro with
    | nil => rw [q] at obj; exact absurd obj (by decide)
    | cons _ _ => rfl
  have far : x ≠ hh.objs.size := Nat.ne_of_lt (Heap.lt_size hx)
  have under : W.Looks (model prog w) hh (isInstance (.ref x) (.type "object")) true := J.type.andThen (W.looks_mroIn Y (by unfold W.mroIn; rw [hc, Option.bind_some, if_neg (by rw [ne]; decide), obj]))
  refine codeAny_call_builtin F.store_object.slot.plain F.store_object.entry (@W.check_slot (model prog w) _ _ ⟨hh, gg, dd, tt, oo⟩ "object.__setattr__" "object" "__setattr__" (.ref x) [.str name tk, v] [] _ F.store_object.kind F.store_object.split under (F.store_object.args (.ref x) (.str name tk) v) ?_)
  have mr : W.Looks (model prog w) hh (mroOf (.ref C)) cd.mro := (W.looks_clsIn Y hc).andThen .now
  have none3 : W.Looks (model prog w) hh (storeTaker? none) none := .now
  have cl : W.Looks (model prog w) hh (classData C) cd := W.looks_clsIn Y hc
  rw [W.osa_eq, refuse_eq]
  refine wpAny_bind (wpAny_bind (J.type.at (wpAny_bind (mr.at ?_))))
  rw [refsT_pass ps nn _ _ hm]
  refine wpAny_pure (wpAny_bind (J.type.at (wpAny_bind ((W.looks_findIn Y hn).at (wpAny_bind (none3.at ?_))))))
  show wpAny _ _ (storeInOwnDict (.ref x) (.ref C) (.str name tk) name v false) _ _ _
  obtain ⟨n1, n2, n3, n4, n5, n6, n7, n8, n9, n10, n11⟩ := cd
  dsimp only at hd
  subst hd
  unfold storeInOwnDict
  unfold ownDictForStores
  repeat (first | with_reducible refine store_in_new ?_ ?_ | with_reducible refine wpAny_loadPart_at hx ?_ | with_reducible refine cl.at ?_ | wp_step)
  · exact ⟨_, #[], _, (Heap.get?_update_ne _ _ _ _ far.symm).trans (Heap.get?_push_at rfl rfl), rfl, fun e he => absurd he (by simp), fun _ => rfl⟩
  · intro h' tk' ns' same
    have hx2 : (hh.push { cls := .type "dict", data := .dict #[] }).get? x = some { cls := .ref C, data := .fields fv } := Heap.get?_push_of_some _ hx
    refine go h' tk' hh.objs.size (fun b o hb q => ?_) (Nat.le_refl _) far.symm ((same.2 x far).trans (Heap.get?_update_self _ hx2 rfl)) ns'
    exact (same.2 b (Nat.ne_of_lt (Heap.lt_size q))).trans ((Heap.get?_update_ne _ _ _ _ hb).trans (Heap.get?_push_of_some _ q))
end
end HandSPX
end PySem
/-! ZNK: own errors over KeyError, whose makers are its base's: the class's bases need not be those of the maker's class. -/
namespace PySem
namespace HandSPX
open Builtin Builtin.ObjectAttr
abbrev tlKeyError : List Value := [.type "KeyError", .type "LookupError", .type "Exception", .type "BaseException", .type "object"]
theorem tlKeyError_pass : Pass tlKeyError := fun self => by kernel_rfl
end HandSPX
open HandSPX
/-- what the maker asks of the bases -/
structure AsksB (B : String) (bm : List Value) : Prop where
  b : bm.contains (.type B) = true
  a : bm.contains (.type "AttributeError") = false
  n : bm.contains (.type "NameError") = false
theorem asksK {bm : List Value} (h : refsT tlKeyError bm = true) : AsksB "LookupError" bm := ⟨(refsT_contains _ bm h).trans (by decide), (refsT_contains _ bm h).trans (by decide), (refsT_contains _ bm h).trans (by decide)⟩
section
variable {M : Model} {A : Around} {E : Value → Shared → Prop} {h : Heap} {g : Array GenState} {d : Drawn} {t : Nat} {os : OsState}
variable {nm q : Str} {C N : Addr} {bs bm bmB : List Value} {hdct : Bool} {sn : List Str} {sub : List Value} {ab : Bool} {col : Option Bool} {dd : Option Addr} {k0 k1 k2 k3 k5 : Option Value} {B newId initId : String}
theorem newK_check (F : ExcBaseFacts B newId initId bmB) (a : AsksB B bm) {rest : List Value} {Q : Unit → Shared → Prop}
    (hC : h.get? C = some (excClassObj nm q C N bs bm hdct sn sub ab col dd k0 k1 k2 k3 k5 newId)) (hq : Q () ⟨h, g, d, t, os⟩) : wpAny M A (checkBuiltinCall newId ⟨.ref C :: rest, []⟩) Q E ⟨h, g, d, t, os⟩ := by
  have c : (Value.ref C :: bm).contains (.type B) = true := by rw [List.contains_cons, a.b, Bool.or_true]
  have st := F.noStar
  simp only [checkBuiltinCall, F.newKind, F.newSplit, F.newRow]
  repeat (first | refine wpAny_loadPart_at hC ?_ | (refine wpAny_isSubtype_exc hC ?_; rw [c]) | refine wpAny_staticBase_exc hC ?_ | refine wpAny_madeBy_exc hC ?_ | simp only [bne_self_eq_false, Bool.false_eq_true, if_false] | wp_step)
  exact hq
end
section
variable {prog : Program} {w : World} {A : Around} {E : Value → Shared → Prop} {R : Result → Shared → Prop} {h : Heap} {g : Array GenState} {d : Drawn} {t : Nat} {os : OsState}
variable {nm q : Str} {C N : Addr} {bs bm bmB : List Value} {hdct : Bool} {sn : List Str} {sub : List Value} {ab : Bool} {col : Option Bool} {dd : Option Addr} {k0 k1 k2 k3 k5 : Option Value} {B newId initId : String}
theorem newK_run (F : ExcBaseFacts B newId initId bmB) (a : AsksB B bm) {rest : List Value}
    (hC : h.get? C = some (excClassObj nm q C N bs bm hdct sn sub ab col dd k0 k1 k2 k3 k5 newId))
    (hq : R (.ok (.ret (.ref (h.objs.size + 1)))) ⟨(h.push (W.kdv_tup rest)).push (excO C h.objs.size), g, d, t, os⟩) (hrest : rest.length ≤ sizeLine) :
    codeAny (model prog w) A (.builtin newId ⟨.ref C :: rest, []⟩) R ⟨h, g, d, t, os⟩ := by
  have en := F.ends
  have c1 : (Value.ref C :: bm).contains (.type B) = true := by rw [List.contains_cons, a.b, Bool.or_true]
  have c2 : (Value.ref C :: bm).contains (.type "AttributeError") = false := by rw [List.contains_cons, a.a]; rfl
  have c3 : (Value.ref C :: bm).contains (.type "NameError") = false := by rw [List.contains_cons, a.n]; rfl
  refine codeAny_builtinAt F.entry ?_
  unfold Builtin.«BaseException.__new__»
  refine wpAt_bind ?_
  show wpAt _ _ _ (stack >>= _) _ _ _
  refine wpAt_bind (wpAt_stack fun p below => wpAt_of_wpAny ?_)
  wp_walk
  refine wpAt_of_wpAny ?_
  rw [F.owner]
  repeat (first | with_reducible refine wpAny_madeHere_exc F.canon hC ?_ | with_reducible refine wpAny_loadPart_at hC ?_ | (with_reducible refine wpAny_isSubtype_exc hC ?_; first | rw [c1] | rw [c2] | rw [c3]) | wp_step)
  show R _ _
  rw [Heap.size_push]
  exact hq
theorem callK_type (F : ExcBaseFacts B newId initId bmB) (a : AsksB B bm) {rest : List Value} {fI : Addr} {Q : Fin → Shared → Prop}
    (hC : h.get? C = some (excClassObj nm q C N bs bm hdct sn sub ab col dd k0 k1 k2 k3 k5 newId))
    (hi : W.Looks (model prog w) h (typeLookup (.ref C) "__init__") (some (.ref fI))) (hb : ∀ self, W.Looks (model prog w) h (bindSpecial (.ref fI) self) (.ref fI, [self])) (hrest : rest.length ≤ sizeLine)
    (hq : codeAny (model prog w) A (.call (.ref fI) ⟨.ref (h.objs.size + 1) :: rest, []⟩)
      (fun r s' => match r with | .ok (.ret v) => v = .none ∧ Q (.done (.ret (.ref (h.objs.size + 1)))) s' | .ok _ => False | .error e => E e s')
      ⟨(h.push (W.kdv_tup rest)).push (excO C h.objs.size), g, d, t, os⟩) :
    wpAny (model prog w) A (Builtin.«type.__call__» ⟨.ref C :: rest, []⟩) Q E ⟨h, g, d, t, os⟩ := by
  repeat (first | with_reducible refine wpAny_loadPart_at hC ?_ | with_reducible refine wpAny_madeBy_exc hC ?_ | wp_step)
  refine codeAny_call_builtin_code (Code.quiet_builtin _ F.quiet) (newK_check F a hC ?_)
  refine newK_run F a hC ?_ hrest
  show wpAny _ _ _ _ _ _
  have k : ∀ b o, h.get? b = some o → ((h.push (W.kdv_tup rest)).push (excO C h.objs.size)).get? b = some o := fun b o e => Heap.get?_push_of_some _ (Heap.get?_push_of_some _ e)
  have hC₁ := k _ _ hC
  have hget : ((h.push (W.kdv_tup rest)).push (excO C h.objs.size)).get? (h.objs.size + 1) = some (excO C h.objs.size) := by heap_get
  have hcC : (Value.ref C :: bm).contains (.ref C) = true := by simp
  have i1 := hi.keeps k
  have b1 := (hb (.ref (h.objs.size + 1))).keeps k
  unfold isInstance
  repeat (first | with_reducible refine wpAny_loadPart_at hget ?_ | (with_reducible refine wpAny_isSubtype_exc hC₁ ?_; rw [hcC]) | wp_step)
  show wpAny _ _ (typeLookup (.ref C) _) _ _ _
  refine i1.at ?_
  refine wpAny_holding (wpAny_bind (b1.at ?_))
  refine wpAny_bind (wpAny_call (codeAny_mono hq fun r s' z => ?_))
  rcases r with e | (v | _ | _ | _) <;> first | exact z | exact z.elim | skip
  obtain ⟨rfl, z⟩ := z
  first
    | exact wpAny_pure (wpAny_pure z)
    | (wp_walk; exact z)
theorem callK (F : ExcBaseFacts B newId initId bmB) (a : AsksB B bm) {rest : List Value} {fI : Addr}
    (hC : h.get? C = some (excClassObj nm q C N bs bm hdct sn sub ab col dd k0 k1 k2 k3 k5 newId))
    (hi : W.Looks (model prog w) h (typeLookup (.ref C) "__init__") (some (.ref fI))) (hb : ∀ self, W.Looks (model prog w) h (bindSpecial (.ref fI) self) (.ref fI, [self])) (hrest : rest.length ≤ sizeLine)
    (hq : codeAny (model prog w) (A.under (.builtin "type.__call__" ⟨.ref C :: rest, []⟩)) (.call (.ref fI) ⟨.ref (h.objs.size + 1) :: rest, []⟩) (W.InitBack (h.objs.size + 1) R)
      ⟨(h.push (W.kdv_tup rest)).push (excO C h.objs.size), g, d, t, os⟩) :
    codeAny (model prog w) A (.call (.ref C) ⟨rest, []⟩) R ⟨h, g, d, t, os⟩ := by
  have f1 := tc_lookup
  have f2 := tc_bind (.ref C)
  have hTy : (⟨h, g, d, t, os⟩ : Shared).TypeIs (.ref C) "type" := ⟨_, hC, rfl⟩
  refine codeAny_of_tree ?_
  show wpAny _ _ (callAny (.ref C) _) _ _ _
  repeat (any_goals (first | assumption | with_reducible refine wpAny_loadPart_at hC ?_ | wp_step))
  refine ⟨rfl, ?_⟩
  refine codeAny_call_builtin_at (Code.quiet_builtin _ (by decide +kernel)) entry_typeCall (wpAny_check_type_call_sub hC (callK_type F a hC hi hb hrest ?_))
  refine codeAny_mono hq fun r s' z => ?_
  rcases r with e | (v | _ | _ | _) <;> exact z
end
end PySem
/-! ZRF: try .. except C as e: a suite that raises, `from e` too. -/
namespace L2
open PySem PySem.Spec PyProof.Rows
/-- the first note of a frame -/
theorem Sky.noted {M : Model} {A : Around} {E₁ : Value → Shared → Prop} {s : Shared} {B : Heap} {env : Env} {outer : List Env} {L a : Addr} {Z : Obj → Prop} {Q : Unit → Shared → Prop} (hZ : PXN.Steady1 Z) (hfr : A.frames = some (env :: outer)) (hf : env.frame = some L)
    (x : Sky B (env :: outer) a Z L s.heap) (hQ : ∀ h', HandSPX.HeldZ B (env :: outer) a Z L h' → s.heap.UpToSlots h' → Q () { s with heap := h' }) : wpAny M A (noteFrame (.ref a) env) Q E₁ s := by
  rcases x with ⟨hB, hn, hl, oe, vs, he, hz, hd, h1⟩ | fl | hh
  · exact PXN.look_newZ hZ hfr hl hf he hB hn hd h1 hz hQ
  · exact PXN.looks_onZ hZ hfr hf fl hQ
  · exact HandSPX.againZ hf hh.2.2.2 (hQ s.heap hh (Heap.UpToSlots.refl _))
theorem frames_but {h h' base : Heap} {L : Addr} (sb : Heap.SameBut L h h') (hL : ∃ o, h'.get? L = some o ∧ ∀ vs, o.data ≠ .fields vs) : ∀ {l : List Env}, h.FunFrames base l → h'.FunFrames base l
  | [], _ => trivial
  | env :: rest, ⟨hk, ⟨L', o, hf, hn, ho, hd⟩, hr⟩ => by
    refine ⟨hk, ?_, frames_but sb hL hr⟩
    by_cases c : L' = L
    · obtain ⟨o', ho', hd'⟩ := hL
      exact ⟨L', o', hf, hn, by rw [c]; exact ho', hd'⟩
    · exact ⟨L', o, hf, hn, (sb.2 L' c).trans ho, hd⟩
/-- an exception held, and a frame's names changed -/
theorem held_but {h h' base : Heap} {l : List Env} {a L : Addr} {Z : Obj → Prop} {v : Value} (sb : Heap.SameBut L h h') (nB : base.get? L = none) (hL : ∃ o, h'.get? L = some o ∧ ∀ vs, o.data ≠ .fields vs) (hL0 : ∃ o, h.get? L = some o ∧ ∀ vs, o.data ≠ .fields vs)
    (st : base.StaysIn h) (ff : h.FunFrames base l) (tz : HandSPX.TracedZ h base a Z v) : base.StaysIn h' ∧ h'.FunFrames base l ∧ HandSPX.TracedZ h' base a Z v := by
  obtain ⟨oe, vs, T, oT, ts, he, hz, hd, h1, hnT, hTe, hT, hdT, h3⟩ := tz
  obtain ⟨oL, e0, d0⟩ := hL0
  have ne : ∀ {b : Addr} {o : Obj} {ws : Array Value}, h.get? b = some o → o.data = .fields ws → b ≠ L := fun {b o ws} e d z => by
    rw [z, e0] at e
    cases e
    exact d0 _ d
  refine ⟨fun b o e => ?_, frames_but sb hL ff, oe, vs, T, oT, ts, (sb.2 a (ne he hd)).trans he, hz, hd, h1, hnT, hTe, (sb.2 T (ne hT hdT)).trans hT, hdT, h3⟩
  by_cases c : b = L
  · rw [c, nB] at e; cases e
  · exact (sb.2 b c).trans (st b o e)
section
variable {X : Cx} {pins : List (Addr × Obj)} {σ : St} {H : Hp} {s : Shared}
/-- a name less -/
theorem Inv.lessR {i : Nat} {n : Str} {h' : Heap} {v : Option Value} {m : Str → Option Value} (I : Inv X pins σ H s) (hN : X.N.Nodup) (hi : X.N[i]? = some n) (hn : s.heap.Ns X.env.locals m)
    (hlk : ∀ (i : Nat) (x : Str) (v : V), X.N[i]? = some x → σ[i]? = some (some v) → Vis X.env.scope x → ∃ u, RelV v u ∧ Look X.env s.heap m x u)
    (hn' : h'.Ns X.env.locals (fun x => if x = n then v else m x)) (hs : Heap.SameBut X.env.locals s.heap h') : Inv X pins (σ.set i none) H { s with heap := h' } := by
  have neL : ∀ b o, X.s_0.heap.get? b = some o → b ≠ X.env.locals := fun b o e => Nat.ne_of_lt (Nat.lt_of_lt_of_le (Heap.lt_size e) I.ok.above)
  refine ⟨I.ok, I.os, I.bare, ⟨fun b o e n hb hx => ?_, fun b o e n hb hx => ?_, I.base.free, fun b o e hx => ?_, I.base.tups, I.base.frzs, I.base.tbls⟩, ⟨_, hn', fun j y v' e1 e2 e3 => ?_⟩, fun y c e => ?_, I.free, I.freeC, fun p hp => ?_, fun b ob e => ?_, by simpa using I.len⟩
  · exact (hs.2 b (neL b o e)).trans (I.base.keep b o e n hb hx)
  · obtain ⟨sl, e1⟩ := I.base.slot b o e n hb hx
    exact ⟨sl, (hs.2 b (neL b o e)).trans e1⟩
  · obtain ⟨o', e1⟩ := I.base.there b o e hx
    exact ⟨o', (hs.2 b (neL b o e)).trans e1⟩
  · by_cases hj : j = i
    · subst hj
      by_cases hlt : j < σ.length
      · rw [List.getElem?_set_self hlt] at e2; cases e2
      · rw [List.getElem?_eq_none (by simpa using hlt)] at e2; cases e2
    · rw [List.getElem?_set_ne (Ne.symm hj)] at e2
      obtain ⟨u', r', q⟩ := hlk j y v' e1 e2 e3
      refine ⟨u', r', ?_⟩
      rcases q with ⟨k, e⟩ | ⟨k, c, e, z⟩
      · have ny : y ≠ n := fun e => hj (nodup_ix hN e1 (e ▸ hi))
        exact .inl ⟨k, (if_neg ny).trans e⟩
      · exact .inr ⟨k, c, e, z.sameBut hs (I.cne y c e)⟩
  · obtain ⟨w', z⟩ := I.cell y c e
    exact ⟨w', z.sameBut hs (I.cne y c e)⟩
  · obtain ⟨e, n, ne, nf, d⟩ := I.pin p hp
    exact ⟨(hs.2 p.1 ne).trans e, n, ne, nf, d⟩
  · refine (I.hok b ob e).stay (fun c w' hc q => (hs.2 c ?_).trans q) (fun _ q => q) fun _ _ q => q
    intro z
    subst z
    rcases hc with hc | hc
    · rw [← hc, I.free] at e; cases e
    · rw [I.free] at hc; cases hc
end
end L2
namespace L2
open PySem PySem.Spec PyProof.Rows L2H HotX
/-- the context of a suite of an except clause, with a wish of its own for what is raised there -/
abbrev suiteE (X : Cx) (a : Addr) (pn : List (Addr × Obj)) (E : Value → Shared → Prop) : Cx := { X with A := X.A.mark (some (.ref a)), calm := false, pn := pn, xe := E }
theorem suiteE_of {X : Cx} {a : Addr} {pn pn' : List (Addr × Obj)} {E : Value → Shared → Prop} {σ : St} {H : Hp} {s : Shared} (I : Inv (X.suite a pn) pn' σ H s) : Inv (suiteE X a pn E) pn' σ H s := Inv.wish (X := X.suite a pn) I E
theorem ofSuiteE {X : Cx} {a : Addr} {pn pn' : List (Addr × Obj)} {E : Value → Shared → Prop} {σ : St} {H : Hp} {s : Shared} (I : Inv (suiteE X a pn E) pn' σ H s) : Inv (X.suite a pn) pn' σ H s := Inv.unwish (X := X.suite a pn) (E := E) I
/-- what the clause `except c as n` wishes, whose suite may raise -/
def wOneE (K : PySem.W.Frag) (c : Value) (i : Nat) (ts : WX → Addr → Value → Option Addr → TS) (Wout : WX) (D : Ends) : WX := fun cls d σ H =>
  ∃ b, PySem.W.exmOne K cls c = some b ∧
    (b = true → ∀ a, H a = none → ts (fun cls' d' σ' H' => Wout cls' d' (σ'.set i none) H') a cls d { nx := fun σ' H' => D.nx (σ'.set i none) H', rt := D.rt, bk := fun σ' H' => D.bk (σ'.set i none) H', ct := fun σ' H' => D.ct (σ'.set i none) H' } (σ.set i (some (.ref a))) H) ∧
    (b = false → Wout cls d σ H)
section
variable {X : Cx} {x n : Str} {i : Nat} {c : Value} {body suite : List Stmt} {b₀ : Stmt} {np pos pos' : Pos} {tb : WX → TS} {ts : WX → Addr → Value → Option Addr → TS} {Wout : WX}
theorem ps_try_oneE (hs : X.stack = X.env :: X.outer) (hf : X.env.frame = some X.env.locals) (hN : X.N.Nodup) (hi : X.N[i]? = some n) (hln : X.env.kindOf n = some .local) (hc : Names X x c)
    (hpa : ∀ hd : Option Value, PassesOwnAt (model X.prog X.w) (X.A.mark hd) X.A X.env X.xe) (tk : L3.Takes X Wout)
    (hb : ∀ (W : WX) (pn : List (Addr × Obj)) (xe : Value → Shared → Prop), L2N.Takes (X.tr pn xe) W → PassesOwn (model X.prog X.w) X.A X.env xe → PSs (X.tr pn xe) body (tb W))
    (hsu : ∀ (a : Addr) (oe : Obj) (cls : Value) (d : Option Addr) (pn : List (Addr × Obj)) (E : Value → Shared → Prop) (W : WX), L2N.Zn cls d oe → (∃ vs, oe.data = .fields vs) → L3.Takes (suiteE X a ((a, oe) :: pn) E) W → HotC (suiteE X a ((a, oe) :: pn) E) →
      PSs (suiteE X a ((a, oe) :: pn) E) (b₀ :: suite) (ts W a cls d)) :
    PS X (.Try body [.ExceptHandler (some (.Name x np)) (some n) (b₀ :: suite) pos'] [] [] pos) (fun D σ H => tb (wOneE X.K c i ts Wout D) D σ H) := by
  refine ⟨fun pins s σ H D I h => ?_⟩
  have ok := I.ok
  have hfr : X.A.frames = some (X.env :: X.outer) := by rw [ok.frames, hs]
  have hloc : Loc X.env.scope n := .inl hln
  refine wpAny_Try_except ?_
  refine wpAny_mono ((hb (wOneE X.K c i ts Wout D) (X.pn ++ pins) (fun e s₁ => wpAny (model X.prog X.w) X.A (noteFrame e X.env) (fun _ s₂ => wpAny (model X.prog X.w) X.A (setFlight e none) (fun _ s₃ =>
    wpAny (model X.prog X.w) X.A (handleBy e X.env [.ExceptHandler (some (.Name x np)) (some n) (b₀ :: suite) pos']) (SP X pins D) X.xe s₃) X.xe s₂) X.xe s₁) (fun u s' xx => ?_) PassesOwn.looking).run [] s σ H D (I.toTry _) h) (fun f s1 hsp => ?_) (fun e s1 he => he)
  · obtain ⟨a, B, sI, pins', σ', H', cls, d, rfl, J', nb, up, sky, na, os, ag, b, hb1, hyes, hno⟩ := xx
    have J : Inv X pins σ' H' sI := J'.ofTry ok
    have sky' : Sky B (X.env :: X.outer) a (L2N.Zn cls d) X.env.locals s'.heap := by rw [← hs]; exact sky
    show wpAny (model X.prog X.w) X.A (noteFrame (.ref a) X.env) _ _ _
    refine L2N.Sky.land L2N.Zn.steady hfr hf sky' fun h3 fl3 up3 => ?_
    have J3 : Inv X pins σ' H' { s' with heap := h3 } := J.landed nb fl3.1 (up.trans up3) os ag
    obtain ⟨oe3, vs3, he3, hz3, hd3⟩ := fl3.there
    have notFr : ∀ {h : Heap} {o : Obj} {vs : Array Value}, h.FunFrames B (X.env :: X.outer) → h.get? a = some o → o.data = .fields vs → a ∉ frs (X.env :: X.outer) := fun {h o vs} ff e dd hm => by
      obtain ⟨_, o', e', hnf⟩ := ff.mem hm
      rw [e] at e'; cases e'
      exact hnf _ dd
    have nfr := notFr fl3.2.2.1 he3 hd3
    have nL : a ≠ X.env.locals := fun z => nfr (List.mem_filterMap.mpr ⟨X.env, List.mem_cons_self, by rw [hf, z]⟩)
    have nF : a ∉ X.fs := fun hm => by
      obtain ⟨e, he, q⟩ := List.mem_filterMap.mp hm
      exact nfr (List.mem_filterMap.mpr ⟨e, List.mem_cons_of_mem _ he, q⟩)
    have S3 := J3.suite he3 hd3 na nL nF
    refine wpAny_handleBy_cons (codeAny_handlers_test ?_) (by intro q; cases q)
    have LT : PySem.W.Looks (model X.prog X.w) h3 (typeOf (.ref a)) cls := fun A Q E s k q => wpAny_typeOf_ref (k _ _ he3) (by rw [hz3.1]; exact q)
    have LM := PySem.W.exm_one (M := model X.prog X.w) (J3.kIn) LT hb1
    have test : ∀ {Q : Value → Shared → Prop} {E : Value → Shared → Prop}, Q c { s' with heap := h3 } → wpAny (model X.prog X.w) (X.A.mark (some (.ref a))) (eval (.Name x np) X.env) Q E { s' with heap := h3 } := fun {Q E} q => by
      obtain ⟨hg, hdbg, hm | ⟨hm, hv, hnn⟩⟩ := hc
      · exact ld_glob (X := X.suite a ((a, oe3) :: (X.pn ++ pins))) S3 hg hm q hdbg
      · exact ld_blt (X := X.suite a ((a, oe3) :: (X.pn ++ pins))) S3 hg hm hv q hnn hdbg
    refine test (LM.here ?_)
    cases b with
    | true =>
      refine codeAny_handlers_suite_as ?_
      refine HandSPX.lands_againZ fl3 fun h4 fl4 up4 => ?_
      have J4 : Inv X pins σ' H' { s' with heap := h4 } := J.landed nb fl4.1 ((up.trans up3).trans up4) os ag
      obtain ⟨oe4, vs4, he4, hz4, hd4⟩ := fl4.there
      have S4 := J4.suite he4 hd4 na nL nF
      refine store_ok (X := X.suite a ((a, oe4) :: (X.pn ++ pins))) (v := .ref a) S4 hN hi hloc rfl (fun s5 S5 => ?_) (.inr hln)
      let W6 : WX := fun cls' d' σ' H' => Wout cls' d' (σ'.set i none) H'
      let E6 : Value → Shared → Prop := L3.XE (X.suite a ((a, oe4) :: (X.pn ++ pins))) W6
      have tk6 : L3.Takes (suiteE X a ((a, oe4) :: (X.pn ++ pins)) E6) W6 := fun u2 s2 x2 => by
        obtain ⟨a2, B2, sI2, pn2, σ2, H2, cls2, d2, e2, I2, r2⟩ := x2
        exact ⟨a2, B2, sI2, pn2, σ2, H2, cls2, d2, e2, ofSuiteE I2, r2⟩
      have hot : HotC (suiteE X a ((a, oe4) :: (X.pn ++ pins)) E6) := ⟨(a, oe4), ⟨rfl, vs4, hd4, hz4.2.2 vs4 hd4⟩, List.mem_cons_self⟩
      refine wpAny_mono ((hsu a oe4 cls d (X.pn ++ pins) E6 W6 hz4 ⟨_, hd4⟩ tk6 hot).run [] s5 _ H' _ (suiteE_of S5) (hyes rfl a na)) (fun f s6 hsp => ?_) (fun u6 s6 x6 => ?_)
      · have end_ : ∀ {σ6 : St} {H6 : Hp} {Q : Shared → Prop}, Inv (suiteE X a ((a, oe4) :: (X.pn ++ pins)) E6) [] σ6 H6 s6 → (∀ s7, Inv X pins (σ6.set i none) H6 s7 → Q s7) →
            wpAny (model X.prog X.w) X.A (do bindName X.env n .none; unbindBehindTheSuite X.env n pos') (fun _ s7 => Q s7) X.xe s6 := fun {σ6 H6 Q} S6 hq => gone_ok ((ofSuiteE S6).unsuite ok) hN hi hln hq
        cases f with
        | next =>
          obtain ⟨σ6, H6, S6, q6⟩ := hsp
          exact end_ S6 fun s7 J7 => ⟨_, _, J7, q6⟩
        | brk =>
          obtain ⟨σ6, H6, S6, q6⟩ := hsp
          exact end_ S6 fun s7 J7 => ⟨_, _, J7, q6⟩
        | cont =>
          obtain ⟨σ6, H6, S6, q6⟩ := hsp
          exact end_ S6 fun s7 J7 => ⟨_, _, J7, q6⟩
        | ret u =>
          obtain ⟨v6, σ6, H6, S6, r6, q6⟩ := hsp
          exact end_ S6 fun s7 J7 => ⟨_, _, _, J7, r6, q6⟩
      · obtain ⟨a6, B6, sI6, pins6, σ6, H6, cls6, d6, rfl, I6, nb6, up6, sky6, na6, os6, ag6, w6⟩ := x6
        have hs' : (X.suite a ((a, oe4) :: (X.pn ++ pins))).stack = X.env :: X.outer := hs
        have sky6' : Sky B6 (X.env :: X.outer) a6 (L3.Zk B6 H6 cls6 d6) X.env.locals s6.heap := by rw [← hs]; exact sky6
        have hfr' : (X.A.mark (some (.ref a))).frames = some (X.env :: X.outer) := hfr
        refine Sky.noted L3.Zk.steady hfr' hf sky6' fun h7 hh7 up7 => ?_
        have K6 : Inv X pins σ6 H6 sI6 := Inv.unsuite (pn' := pins6) I6 ok
        obtain ⟨m, hn, hlk⟩ := id K6.loc
        have hn7 : h7.Ns X.env.locals m := (up6.trans up7).ns hn
        have hcls : (X.env.scope.kind == .class || (X.env.scope.kind == .module && X.env.locals != X.env.globals)) = false := by rw [ok.kind]; rfl
        refine wpAny_nameGoes_keeps (s := { s6 with heap := h7 }) hln hn7 hcls fun h8 v8 hn8 sb8 => ?_
        obtain ⟨oL7, _, _, eL7, dL7, _⟩ := id hn7
        obtain ⟨oL8, es8, ep8, eL8, dL8, rL8⟩ := id hn8
        obtain ⟨oLI, _, _, eLI, dLI, _⟩ := id hn
        have nf7 : ∀ vs, oL7.data ≠ .fields vs := fun vs q => by rw [dL7] at q; cases q
        have nf8 : ∀ vs, oL8.data ≠ .fields vs := fun vs q => by rw [dL8] at q; cases q
        have mL : X.env.locals ∈ frs (X.env :: X.outer) := List.mem_filterMap.mpr ⟨X.env, List.mem_cons_self, hf⟩
        have nBL : B6.get? X.env.locals = none := (hh7.2.2.1.mem mL).1
        obtain ⟨q1, q2, q3⟩ := held_but (L := X.env.locals) sb8 nBL ⟨oL8, eL8, nf8⟩ ⟨oL7, eL7, nf7⟩ hh7.1 hh7.2.2.1 hh7.2.2.2
        obtain ⟨oe8, vs8, T8, oT8, ts8, he8, hz8, hd8, h18, r8⟩ := id q3
        unfold PySem.passOn
        refine wpAny_bind (wpAny_field he8 hd8 h18 ?_)
        rw [if_neg (show ¬ ((Value.ref T8 == Value.none) = true) from by simp)]
        have fin : wpAny (model X.prog X.w) (X.A.mark (some (.ref a))) (setFlight (.ref a6) X.env.frame) (fun _ s4 => wpAny (model X.prog X.w) (X.A.mark (some (.ref a))) (throw (.ref a6) : Sem Flow) (fun _ _ => False) (notedBy (model X.prog X.w) (X.A.mark (some (.ref a))) X.env (cameBackBy (model X.prog X.w) X.A X.env X.xe)) s4)
            (notedBy (model X.prog X.w) (X.A.mark (some (.ref a))) X.env (cameBackBy (model X.prog X.w) X.A X.env X.xe)) { s6 with heap := h8, toks := s6.toks + 1 } := by
          rw [hf]
          refine HandSPX.setFlight_anyZ (fr := some X.env.locals) q1 q2 q3 fun h9 k1 k2 k3 k4 => wpAny_throw (hpa (some (.ref a)) _ _ (tk _ _ ?_))
          have fr : oL8.isFreed = false := by
            obtain ⟨c0, d0, t0, l0⟩ := oL8
            have q0 : t0 = _ := dL8
            rw [q0]
            rfl
          have gL : (sI6.heap.update X.env.locals (fun _ => oL8)).get? X.env.locals = some oL8 := Heap.get?_update_self (fun _ => oL8) eLI fr
          have gB : ∀ b, b ≠ X.env.locals → (sI6.heap.update X.env.locals (fun _ => oL8)).get? b = sI6.heap.get? b := fun b hb => Heap.get?_update_other _ _ (Ne.symm hb)
          have Kf : Inv X pins (σ6.set i none) H6 { sI6 with heap := sI6.heap.update X.env.locals (fun _ => oL8) } :=
            K6.lessR hN hi hn hlk ⟨oL8, es8, ep8, gL, dL8, rL8⟩ (Heap.SameBut.update _ _ _)
          refine ⟨a6, B6, { sI6 with heap := sI6.heap.update X.env.locals (fun _ => oL8) }, pins, σ6.set i none, H6, cls6, d6, rfl, Kf, fun b o e hb => ?_, fun b o e hd => ?_, .inr (.inr ⟨k1, hh7.2.1, by rw [hs]; exact k2, k3⟩), na6, os6, ag6, w6⟩
          · have bL : b ≠ X.env.locals := fun z => hb (by rw [z, hs]; exact mL)
            have e' : (sI6.heap.update X.env.locals (fun _ => oL8)).get? b = some o := e
            rw [gB b bL] at e'
            exact nb6 b o e' hb
          · have e' : (sI6.heap.update X.env.locals (fun _ => oL8)).get? b = some o := e
            by_cases bL : b = X.env.locals
            · subst bL
              rw [gL] at e'
              cases e'
              exact k4 _ _ eL8 nf8
            · rw [gB b bL] at e'
              obtain ⟨sl, z⟩ := (up6.trans up7) b o e' hd
              have z8 : h8.get? b = some { o with slots := sl } := (sb8.2 b bL).trans z
              obtain ⟨sl9, z9⟩ := k4 b _ z8 hd
              exact ⟨sl9, z9⟩
        first
          | exact wpAny_bind (wpAny_pure (wpAny_bind fin))
          | exact wpAny_bind fin
    | false =>
      show wpAny _ X.A (handleBy (.ref a) X.env []) _ _ _
      have flc : HandSPX.FlyingZ B (X.env :: X.outer) a (L3.Zk B H' cls d) h3 := flyingZ_imp (fun o z => L3.Zk.ofN z) fl3
      refine wpAny_handleBy_nil ?_
      obtain ⟨k1, k2, k3, oe, vs, T, oT, ts', he, hz, hd, h1, hr⟩ := id flc
      unfold PySem.passOn
      refine wpAny_bind (wpAny_field he hd h1 ?_)
      rw [if_neg (show ¬ ((Value.ref T == Value.none) = true) from by simp)]
      have fin : wpAny (model X.prog X.w) X.A (setFlight (.ref a) X.env.frame) (fun _ s4 => wpAny (model X.prog X.w) X.A (throw (.ref a) : Sem Flow) (SP X pins D) X.xe s4) X.xe { s' with heap := h3 } := by
        rw [hf]
        refine HandSPX.setFlight_upZ flc fun h4 hh4 up4 => wpAny_throw (tk _ _ ?_)
        exact ⟨a, B, sI, pins, σ', H', cls, d, rfl, J, nb, (up.trans up3).trans up4, .inr (.inr (by rw [hs]; exact hh4)), na, os, ag, hno rfl⟩
      first
        | exact wpAny_bind (wpAny_pure (wpAny_bind fin))
        | exact wpAny_bind fin
  · cases f with
    | next =>
      obtain ⟨σ', H', J', q⟩ := hsp
      exact wpAny_execs_nil ⟨σ', H', J'.ofTry ok, q⟩
    | brk =>
      obtain ⟨σ', H', J', q⟩ := hsp
      exact ⟨σ', H', J'.ofTry ok, q⟩
    | cont =>
      obtain ⟨σ', H', J', q⟩ := hsp
      exact ⟨σ', H', J'.ofTry ok, q⟩
    | ret u =>
      obtain ⟨v, σ', H', J', r, q⟩ := hsp
      exact ⟨v, σ', H', J'.ofTry ok, r, q⟩
end
end L2
namespace HotX
open PySem PySem.Spec PyProof.Rows
/-- the heap behind `from`: the cause stands in field 3, field 4 is True -/
def fromH (h : Heap) (a : Addr) (u : Value) : Heap := (h.update a (Obj.mapFields (·.setIfInBounds 3 u))).update a (Obj.mapFields (·.setIfInBounds 4 (.bool true)))
theorem fromH_at {h : Heap} {a : Addr} {oe : Obj} {vs : Array Value} {u : Value} (ha : h.get? a = some oe) (hd : oe.data = .fields vs) :
    (fromH h a u).get? a = some ((oe.mapFields (·.setIfInBounds 3 u)).mapFields (·.setIfInBounds 4 (.bool true))) ∧ ((oe.mapFields (·.setIfInBounds 3 u)).mapFields (·.setIfInBounds 4 (.bool true))).data = .fields ((vs.setIfInBounds 3 u).setIfInBounds 4 (.bool true)) := by
  have hd3 := Obj.data_mapFields hd (·.setIfInBounds 3 u)
  have ha3 := Heap.get?_update_self (Obj.mapFields (·.setIfInBounds 3 u)) ha (Obj.isFreed_of_fields hd3)
  have hd4 := Obj.data_mapFields hd3 (·.setIfInBounds 4 (.bool true))
  exact ⟨Heap.get?_update_self (Obj.mapFields (·.setIfInBounds 4 (.bool true))) ha3 (Obj.isFreed_of_fields hd4), hd4⟩
theorem fromH_other {h : Heap} {a b : Addr} {u : Value} (hne : a ≠ b) : (fromH h a u).get? b = h.get? b := by
  unfold fromH
  rw [Heap.get?_update_other _ _ hne, Heap.get?_update_other _ _ hne]
theorem raise_made_hotE {prog : Program} {w : World} {A : Around} {E : Value → Shared → Prop} {env : Env} {s : Shared} {x c : Sem Value} {Q : Flow → Shared → Prop} {x1 : Addr}
    (h : wpAny (model prog w) A x (fun v s₁ => ∃ a oe vs cls o1 v1 cls1, v = .ref a ∧ s₁.heap.get? a = some oe ∧ oe.cls = cls ∧ oe.data = .fields vs ∧ vs[1]? = some .none ∧ 4 < vs.size ∧ x1 ≠ a ∧ HotAt A x1 s₁.heap ∧
      s₁.heap.get? x1 = some o1 ∧ o1.cls = cls1 ∧ o1.data = .fields v1 ∧ PySem.W.Looks (model prog w) s₁.heap (isSubtype cls1 (.type "BaseException")) true ∧
      (∀ (Q' : Value → Shared → Prop), Q' (.ref x1) s₁ → wpAny (model prog w) A c Q' E s₁) ∧
      PySem.W.Looks (model prog w) s₁.heap (isSubtype cls (.type "BaseException")) true ∧ PySem.W.Looks (model prog w) (fromH s₁.heap a (.ref x1)) (typeOf cls) (.type "type") ∧
      E (.ref a) { s₁ with heap := (fromH s₁.heap a (.ref x1)).update a (Obj.mapFields (·.setIfInBounds 2 (.ref x1))) }) E s) :
    wpAny (model prog w) A (raiseStmt env (some x) (some c)) Q E s := by
  unfold raiseStmt
  dsimp only
  refine wpAny_bind (wpAny_mono h (fun v s₁ h₁ => ?_) fun _ _ x => x)
  obtain ⟨a, oe, vs, cls, o1, v1, cls1, rfl, ha, hcls, hd, h1, hi, hne, hot, ha1, hcls1, hd1, B1, hcs, L1, L3, hE⟩ := h₁
  have LT : PySem.W.Looks (model prog w) s₁.heap (typeOf (.ref a)) cls := fun A Q E s k q => wpAny_typeOf_ref (k _ _ ha) (by rw [hcls]; exact q)
  have LI : PySem.W.Looks (model prog w) s₁.heap (isInstance (.ref a) (.type "BaseException")) true := LT.andThen L1
  have LT1 : PySem.W.Looks (model prog w) s₁.heap (typeOf (.ref x1)) cls1 := fun A Q E s k q => wpAny_typeOf_ref (k _ _ ha1) (by rw [hcls1]; exact q)
  have LI1 : PySem.W.Looks (model prog w) s₁.heap (isInstance (.ref x1) (.type "BaseException")) true := LT1.andThen B1
  have hnt : ∀ {Q' : Bool → Shared → Prop}, Q' false s₁ → wpAny (model prog w) A (isType (.ref a)) Q' E s₁ := by
    intro Q' hq
    simp only [isType, loadHead]
    refine wpAny_bind (wpAny_loadPart ha ?_)
    rw [hd]; exact wpAny_pure hq
  have hnt1 : ∀ {Q' : Bool → Shared → Prop}, Q' false s₁ → wpAny (model prog w) A (isType (.ref x1)) Q' E s₁ := by
    intro Q' hq
    simp only [isType, loadHead]
    refine wpAny_bind (wpAny_loadPart ha1 ?_)
    rw [hd1]; exact wpAny_pure hq
  have hd3 := Obj.data_mapFields hd (·.setIfInBounds 3 (Value.ref x1))
  have ha3 := Heap.get?_update_self (Obj.mapFields (·.setIfInBounds 3 (Value.ref x1))) ha (Obj.isFreed_of_fields hd3)
  obtain ⟨ha4, hd4⟩ := fromH_at (u := Value.ref x1) ha hd
  have s3 : 3 < vs.size := by omega
  have s4 : 4 < (vs.setIfInBounds 3 (Value.ref x1)).size := by rw [set_size]; exact hi
  have s2 : 2 < ((vs.setIfInBounds 3 (Value.ref x1)).setIfInBounds 4 (Value.bool true)).size := by rw [set_size, set_size]; omega
  have h14 : ((vs.setIfInBounds 3 (Value.ref x1)).setIfInBounds 4 (Value.bool true))[1]? = some Value.none := set_other (by decide) (set_other (by decide) h1)
  have hcls4 : ((oe.mapFields (·.setIfInBounds 3 (Value.ref x1))).mapFields (·.setIfInBounds 4 (.bool true))).cls = cls := by rw [Obj.cls_mapFields, Obj.cls_mapFields]; exact hcls
  have LT4 : PySem.W.Looks (model prog w) (fromH s₁.heap a (.ref x1)) (typeOf (.ref a)) cls := fun A Q E s k q => wpAny_typeOf_ref (k _ _ ha4) (by rw [hcls4]; exact q)
  have hnt4 : ∀ {Q' : Bool → Shared → Prop}, Q' false { s₁ with heap := fromH s₁.heap a (.ref x1) } → wpAny (model prog w) A (isType (.ref a)) Q' E { s₁ with heap := fromH s₁.heap a (.ref x1) } := by
    intro Q' hq
    simp only [isType, loadHead]
    refine wpAny_bind (wpAny_loadPart ha4 ?_)
    rw [hd4]; exact wpAny_pure hq
  have hot4 : HotAt A x1 (fromH s₁.heap a (.ref x1)) := by
    obtain ⟨q1, o, vs', q2, q3, q4⟩ := hot
    exact ⟨q1, o, vs', by rw [fromH_other (Ne.symm hne)]; exact q2, q3, q4⟩
  have rest : wpAny (model prog w) A (do
      let b ← isType (.ref a)
      if b = true then do
        let e ← holding [.ref a] (raisedFor (.ref a) (.ref a))
        setFlight e none
        raiseNew e
      else do
        let e ← raisedInstance (.ref a)
        setFlight e none
        raiseNew e : Sem Flow) Q E { s₁ with heap := fromH s₁.heap a (.ref x1) } := by
    refine wpAny_bind (hnt4 ?_)
    simp only [Bool.false_eq_true, if_false]
    unfold raisedInstance
    refine wpAny_bind (wpAny_bind (LT4.here (wpAny_bind (L3.here ?_))))
    rw [if_pos (beq_self_eq_true _)]
    refine wpAny_pure ?_
    unfold setFlight
    refine wpAny_bind (wpAny_bind (wpAny_field ha4 hd4 h14 ?_))
    rw [if_neg (by decide)]
    refine wpAny_pure ?_
    exact raiseNew_hot hot4 hne ha4 hd4 s2 hE
  refine wpAny_bind (wpAny_holding (hcs _ (wpAny_bind (wpAny_pure ?_))))
  dsimp only
  refine wpAny_bind (wpAny_holding ?_)
  unfold excFromValue isExcClass
  refine wpAny_bind (wpAny_bind (hnt ?_))
  simp only [Bool.false_eq_true, if_false]
  refine wpAny_pure ?_
  simp only [Bool.false_eq_true, if_false]
  refine wpAny_bind (LI.here ?_)
  simp only [if_true]
  refine wpAny_pure ?_
  rw [if_neg (show ¬ ((Value.ref x1 == Value.none) = true) from by simp)]
  refine wpAny_bind (wpAny_holding (wpAny_bind (wpAny_bind (hnt1 ?_))))
  simp only [Bool.false_eq_true, if_false]
  refine wpAny_pure ?_
  simp only [Bool.false_eq_true, if_false]
  refine wpAny_bind (LI1.here ?_)
  simp only [if_true]
  refine wpAny_pure ?_
  exact wpAny_bind (wpAny_setField ha hd s3 (wpAny_bind (wpAny_setField ha3 hd3 s4 rest)))
end HotX
namespace L2
open PySem PySem.Spec PyProof.Rows L2H HotX
/-- an expression that makes an exception whose record has its fields -/
def PMk6 (X : Cx) (e : Expr) (t : St → Hp → XK → Prop) : Prop :=
  ∀ (pins : List (Addr × Obj)) (s : Shared) (σ : St) (H : Hp) (Q : XK), Inv X pins σ H s → t σ H Q → wpAny (model X.prog X.w) X.A (eval e X.env) (fun u s' => L2N.MkP X pins σ Q u s' ∧ Six u s') X.xe s
/-- raise X(..) from e, e what the clause holds -/
theorem ps_raiseFrom {X : Cx} {W : WX} {e : Expr} {t : St → Hp → XK → Prop} {n : Str} {i : Nat} {a1 : Addr} {o1 : Obj} {v1 : Array Value} {np pos : Pos} (hh : X.A.handled = some (.ref a1)) (hp : (a1, o1) ∈ X.pn) (d1 : o1.data = .fields v1) (c1 : v1[2]? = some .none)
    (B1 : ∀ (M : Model) (h : Heap), X.K.In h → PySem.W.Looks M h (isSubtype o1.cls (.type "BaseException")) true) (hi : X.N[i]? = some n) (hln : X.env.kindOf n = some .local) (hlv : X.env.scope.names.lookup n = some .local) (hdb : (n == ("__debug__" : Str)) = false)
    (tk : L3.Takes X W) (he : PMk6 X e t) :
    PS X (.Raise (some e) (some (.Name n np)) pos) (fun _ σ H => σ[i]? = some (some (.ref a1)) ∧ t σ H fun cls d H' => W cls d σ H') := by
  refine ⟨fun pins s σ H D I ⟨eσ, h⟩ => ?_⟩
  show wpAny _ _ (do standAt pos; raiseStmt X.env (some (do let v ← eval e X.env; standAt pos; pure v)) (some (do let v ← eval (.Name n np) X.env; standAt pos; pure v))) _ _ _
  refine wpAny_bind (wpAny_standAt (raise_made_hotE (x1 := a1) (wpAny_bind (wpAny_mono (he pins s σ H _ I h) (fun u s1 hu => wpAny_bind (wpAny_standAt (wpAny_pure ?_))) fun _ _ x => x))))
  obtain ⟨⟨a, oe, vs, sI, H', cls, d, rfl, J, k, hne, ha, hz, hd, h1, na, os, ag, r, q⟩, h5⟩ := hu
  have hi5 : 4 < vs.size := h5 a oe vs rfl ha hd
  have k4 : ∀ b u, sI.heap.get? b = some u → (fromH s1.heap a (.ref a1)).get? b = some u := fun b u z => by
    have nab : a ≠ b := fun y => by
      rw [← y, hne] at z
      cases z
    rw [fromH_other nab]
    exact k b u z
  obtain ⟨r1, _⟩ := r (model X.prog X.w) s1.heap (J.kIn.keeps k)
  obtain ⟨_, r2⟩ := r (model X.prog X.w) (fromH s1.heap a (.ref a1)) (J.kIn.keeps k4)
  have P1 := (J.pin (a1, o1) (List.mem_append_left _ hp)).1
  have nap : a1 ≠ a := fun z => by
    rw [z, hne] at P1
    cases P1
  obtain ⟨ha4, hd4⟩ := fromH_at (u := Value.ref a1) ha hd
  have h12 : (((vs.setIfInBounds 3 (Value.ref a1)).setIfInBounds 4 (Value.bool true)).setIfInBounds 2 (Value.ref a1))[1]? = some Value.none := set_other (by decide) (set_other (by decide) (set_other (by decide) h1))
  have h22 : (((vs.setIfInBounds 3 (Value.ref a1)).setIfInBounds 4 (Value.bool true)).setIfInBounds 2 (Value.ref a1))[2]? = some (Value.ref a1) := by
    have l2 : 2 < ((vs.setIfInBounds 3 (Value.ref a1)).setIfInBounds 4 (Value.bool true)).size := by rw [set_size, set_size]; omega
    rw [Array.getElem?_setIfInBounds_self_of_lt l2]
  obtain ⟨m, hn, hlk⟩ := id J.loc
  have hn1 : s1.heap.Ns X.env.locals m := (Heap.UpToSlots.of_keeps k).ns hn
  have hm : m n = some (.ref a1) := by
    obtain ⟨u, ru, q⟩ := hlk i n (.ref a1) hi eσ (.inl hlv)
    have eu : u = Value.ref a1 := ru
    rcases q with ⟨_, e⟩ | ⟨k2, _⟩
    · rw [eu] at e; exact e
    · rw [hln] at k2
      rcases k2 with z | z <;> cases z
  refine ⟨a, oe, vs, cls, o1, v1, o1.cls, rfl, ha, hz.1, hd, h1, hi5, nap, ⟨hh, o1, v1, k _ _ P1, d1, c1⟩, k _ _ P1, rfl, d1, B1 _ _ (J.kIn.keeps k), fun Q' q' => ?_, r1, r2, tk _ _ (L3.XE.made J (fun b u z => ?_) hne (Heap.get?_update_self _ ha4 (Obj.isFreed_of_fields (Obj.data_mapFields hd4 _)))
    ⟨by rw [Obj.cls_mapFields, Obj.cls_mapFields, Obj.cls_mapFields]; exact hz.1, by rw [HandSPX.dict_mapFields, HandSPX.dict_mapFields, HandSPX.dict_mapFields]; exact hz.2.1⟩ (Obj.data_mapFields hd4 _) h12 h22 (.inr ⟨(a1, o1), List.mem_append_left _ hp, v1, rfl, d1, c1⟩) na os ag q)⟩
  · exact wpAny_bind (wpAny_Name (wpAny_loadName_local J.ok.kind hln hn1 hm (wpAny_bind (wpAny_standAt (wpAny_pure q')))) hdb)
  · have nab : a ≠ b := fun y => by
      rw [← y, hne] at z
      cases z
    show ((fromH s1.heap a (.ref a1)).update a (Obj.mapFields (·.setIfInBounds 2 (.ref a1)))).get? b = some u
    rw [Heap.get?_update_other _ _ nab]
    exact k4 b u z
end L2
/-! ZRG: d[k] that may be a KeyError, a clause whose suite raises, raise X(..) from e, by own evaluators. -/
namespace L2
open PySem PySem.Spec PyProof.Rows
theorem PMk6.pmk {X : Cx} {e : Expr} {t : St → Hp → XK → Prop} (h : PMk6 X e t) : L2N.PMk X e t := fun pins s σ H Q I q => thn (h pins s σ H Q I q) fun _ _ x => x.1
/-- d[k], or a KeyError where nothing is handled -/
theorem pe_dgetXN {X : Cx} {W : WX} {o i : Expr} {td ty : TE} {pos : Pos} (hc : X.calm = true) (hu : X.A.units + 1 < cLine) (tk : L2N.Takes X W) (ho : PE X o td) (hi : PE X i ty) (hs : NoSl i) : PE X (.Subscript o i pos) (tDGetX W td ty) := by
  refine ⟨fun pins s σ H Q I h => ?_⟩
  refine subD_of PySem.F.slot_dict_getitem.lookup hs (thn (ho.run pins s σ H _ I h) fun u s1 ⟨x, H1, I1, rx, q1⟩ => thn (hi.run pins s1 σ H1 _ I1 q1) fun iv s2 ⟨y, H2, I2, ry, a, ov, ex, g, qs, qn⟩ => ?_)
  subst ex
  obtain rfl : u = Value.ref a := rx
  refine ⟨dict_typeIs I2 g, ?_⟩
  cases ov with
  | some v => exact d_getItem hu I2 g ry fun w' s3 I3 rw' => ⟨v, H2, I3, rw', qs v rfl⟩
  | none => exact d_missing hu (I2.ok.hd hc) I2 g ry fun h' e t' ne => L2N.takes_newN (t' := t') tk I2 ne (qn rfl)
end L2
namespace Z
open PySem PySem.Spec PyProof.Rows L2
/-- an expression that may end with an error of the built-in class T (then: none) -/
def repO (K : PySem.W.Frag) (B : List Addr) (al : List Addr) (H : Hp) (o : Option Val) (v : Option V) : Prop := match o, v with
  | some w, some v => Rep K al B H w v
  | none, none => True
  | _, _ => False
def tEo (K : PySem.W.Frag) (T : String) (W : WX) (m : En → M (Option Val)) : TE := fun sg H Q => ∃ al B ro h, Sim K al B ro h sg H ∧
  Po K B (repO K B) sg al H (m ro h) W (fun ov H' => (∀ v, ov = some v → Q v H') ∧ (ov = none → ∀ d, W (.type T) d sg H'))
def bDGetO (w1 w2 : Val) : M (Option Val) := fun h => match w1 with
  | .ref n => match h[n]? with
    | some (.dic kvs) => match keyOf w2 with
      | some k => .ok (dval kvs k) h
      | none => .bad
    | _ => .bad
  | _ => .bad
def sDGetO (mo mi : SE) : En → M (Option Val) := fun ro => bind (mo ro) fun d => bind (mi ro) fun k => bDGetO d k
section
variable {X : Cx} {W : WX} {o i : Expr} {pos : Pos} {mo mi : SE}
theorem oe_dgetO {k : Nat} (hc : X.calm = true) (hr : Room k X.A) (tk : L2N.Takes X W) (ho : PE X o (tE X.K W mo)) (hi : PE X i (tE X.K W mi)) (hs : NoSl i) : PE X (.Subscript o i pos) (tEo X.K "KeyError" W (sDGetO mo mi)) := by
  refine PE.weak (pe_dgetXN hc (hu_of hr) tk ho hi hs) ?_
  rintro sg H Q ⟨al, B, ro, h, S, p⟩
  refine ⟨al, B, ro, h, S, Po.mono (Po.bind p) fun v1 H1 ⟨al1, h1, w1, st1, hr1, r1, p1⟩ => ?_⟩
  refine ⟨al1, B, ro, h1, S.step st1 hr1, Po.mono (Po.bind p1) fun v2 H2 ⟨al2, h2, w2, st2, hr2, r2, p2⟩ => ?_⟩
  have r1' := r1.step st2
  unfold bDGetO at p2
  split at p2
  · rename_i n
    split at p2
    · rename_i kvs e1
      split at p2
      · rename_i key ek
        have rr := r1'
        cases r1' with
        | @ref _ a q =>
          obtain ⟨_, _, kws, hd, dr⟩ := own_dic hr2 rr e1
          have ey := keyOf_rep ek r2
          subst ey
          cases ew : dval kvs key with
          | some w =>
            rw [ew] at p2
            obtain ⟨v, ev, rv⟩ := dr.get.1 w ew
            have q2 := p2 al2 H2 (some v) (Stp.refl _ _) hr2 rv
            exact ⟨a, some v, rfl, by rw [← ev]; exact DGet.k hd, q2.1, fun z => (by cases z)⟩
          | none =>
            rw [ew] at p2
            have en := dr.get.2 ew
            have q2 := p2 al2 H2 none (Stp.refl _ _) hr2 trivial
            exact ⟨a, none, rfl, by rw [← en]; exact DGet.k hd, fun v' e => (by cases e), fun _ => q2.2 rfl⟩
      · exact p2.elim
    · exact p2.elim
  · exact p2.elim
end
/-! ### a clause whose suite may raise -/
def goneX (i : Nat) : SO → SO
  | .bad => .bad
  | .go f ro h => .go f (ro.set i none) h
noncomputable def nTryO (m : En → M (Option Val)) (k : Val → SS) (i : Nat) (ms : Addr → SS) : SS := fun ro h => match m ro h with
  | .ok (some w) h1 => k w ro h1
  | .ok none h1 => uni2 fun a _ => goneX i (ms a (ro.set i (some (.glo a))) h1)
  | _ => .bad
theorem gone_ps {K : PySem.W.Frag} {W : WX} {D : Ends} {al B : List Addr} {H : Hp} {i : Nat} {o : SO} (p : Ps K B al H (goneX i o) W D) :
    Ps K B al H o (fun cls d sg H => W cls d (sg.set i none) H) { nx := fun σ' H' => D.nx (σ'.set i none) H', rt := D.rt, bk := fun σ' H' => D.bk (σ'.set i none) H', ct := fun σ' H' => D.ct (σ'.set i none) H' } := by
  cases o with
  | bad => exact p
  | go f ro h =>
    intro al' sg' H' st S
    have q := p al' (sg'.set i none) H' st (S.unset i)
    cases f with
    | nx => exact q
    | brk => exact q
    | ct => exact q
    | ret w => exact q
    | ex e => exact q
theorem tryO_wish {K : PySem.W.Frag} {W : WX} {D : Ends} {al B : List Addr} {sg : L2.St} {H : Hp} {T : String} {m : En → M (Option Val)} {k : Val → SS} {i : Nat} {ms : Addr → SS} {ro : En} {h : HH} {Q : V → Hp → Prop} {W2 : WX} (S : Sim K al B ro h sg H)
    (p : Ps K B al H (nTryO m k i ms ro h) W D)
    (hk : ∀ w v al1 h1 H1, Stp al H al1 H1 → HR K al1 B H1 h1 → Rep K al1 B H1 w v → Ps K B al1 H1 (k w ro h1) W D → Q v H1)
    (hw : ∀ d H1, (∀ a, H1 a = none → tS K (fun cls d sg H => W cls d (sg.set i none) H) (ms a) { nx := fun σ' H' => D.nx (σ'.set i none) H', rt := D.rt, bk := fun σ' H' => D.bk (σ'.set i none) H', ct := fun σ' H' => D.ct (σ'.set i none) H' } (sg.set i (some (.ref a))) H1) → W2 (.type T) d sg H1) :
    Po K B (repO K B) sg al H (m ro h) W2 (fun ov H' => (∀ v, ov = some v → Q v H') ∧ (ov = none → ∀ d, W2 (.type T) d sg H')) := by
  unfold nTryO at p
  cases e : m ro h with
  | bad => rw [e] at p; exact p.elim
  | ex x h1 => rw [e] at p; exact p.elim
  | ok ow h1 =>
    rw [e] at p
    intro al1 H1 ov st hr r
    cases ow with
    | some w =>
      cases ov with
      | none => exact r.elim
      | some v =>
        refine ⟨fun v' ev => ?_, fun z => (by cases z)⟩
        cases ev
        exact hk w v al1 h1 H1 st hr r (Ps.step p st)
    | none =>
      cases ov with
      | some v => exact r.elim
      | none =>
        refine ⟨fun v' ev => (by cases ev), fun _ d => hw d H1 fun a ha => ?_⟩
        have S1 := (S.step st hr).set i (w := .glo a) (v := .ref a) (.glo a)
        refine ⟨al1, B, ro.set i (some (.glo a)), h1, S1, gone_ps ?_⟩
        dsimp only at p
        cases e3 : uni2 fun a _ => goneX i (ms a (ro.set i (some (.glo a))) h1) with
        | bad => rw [e3] at p; exact p.elim
        | go f3 ro3 h3 =>
          rw [e3] at p
          rw [uni2_a e3 a a]
          exact Ps.step (o := .go f3 ro3 h3) p st
section
variable {X : Cx} {W : WX} {pos : Pos} {x n : Str} {i : Nat} {T : String} {suite : List Stmt} {b₀ : Stmt} {np pos' : Pos} {e : Expr} {m : En → M (Option Val)} {ms : Addr → SS}
theorem os_tryAsgO {y : Str} {j : Nat} {yp ap : Pos} (hs : X.stack = X.env :: X.outer) (hf : X.env.frame = some X.env.locals) (hN : X.N.Nodup) (hi : X.N[i]? = some n) (hln : X.env.kindOf n = some .local) (hc : Names X x (.type T))
    (hj : X.N[j]? = some y) (hy : Loc X.env.scope y) (hyl : X.env.scope.names.lookup y = some .local) (hsw : swapsWith e (some (.Name y yp)) ap.line X.env = pure false)
    (hpa : ∀ hd : Option Value, PassesOwnAt (model X.prog X.w) (X.A.mark hd) X.A X.env X.xe) (tk : L3.Takes X W) (ht : PySem.W.exmOne X.K (.type T) (.type T) = some true)
    (he : ∀ (W : WX) (pn : List (Addr × Obj)) (xe : Value → Shared → Prop), L2N.Takes (X.tr pn xe) W → PE (X.tr pn xe) e (tEo X.K T W m))
    (hsu : ∀ (a : Addr) (oe : Obj) (d : Option Addr) (pn : List (Addr × Obj)) (E : Value → Shared → Prop) (W : WX), L2N.Zn (.type T) d oe → (∃ vs, oe.data = .fields vs) → L3.Takes (suiteE X a ((a, oe) :: pn) E) W →
      PSs (suiteE X a ((a, oe) :: pn) E) (b₀ :: suite) (tS X.K W (ms a))) :
    PS X (.Try [.Assign [.Name y yp] e ap] [.ExceptHandler (some (.Name x np)) (some n) (b₀ :: suite) pos'] [] [] pos) (tS X.K W (nTryO m (fun w ro h => .go .nx (ro.set j (some w)) h) i ms)) := by
  have body := fun (W : WX) (pn : List (Addr × Obj)) (xe : Value → Shared → Prop) (t : L2N.Takes (X.tr pn xe) W) (_ : PassesOwn (model X.prog X.w) X.A X.env xe) => pss_one (ps_set (X := X.tr pn xe) (pos' := yp) (pos := ap) hN hj hy (he W pn xe t) hsw (.inr hyl))
  refine PS.weak (ps_try_oneE (ts := fun W a cls d D σ H => cls = .type T ∧ tS X.K W (ms a) D σ H) hs hf hN hi hln hc hpa tk body (fun a oe cls d pn E W hz hd tk2 _ => ⟨fun pins s σ H D I ⟨ec, p⟩ => ?_⟩)) ?_
  · subst ec
    exact (hsu a oe d pn E W hz hd tk2).run pins s σ H D I p
  · rintro D sg H ⟨al, B, ro, h, S, p⟩
    refine ⟨al, B, ro, h, S, tryO_wish S p (fun w v al1 h1 H1 st hr r q => q al1 _ H1 (Stp.refl _ _) ((S.step st hr).set j r)) fun d H1 q => ⟨true, ht, fun _ a ha => ⟨rfl, q a ha⟩, fun z => (by cases z)⟩⟩
end
/-! ### raise X(..) from e -/
def isExS (a1 : Addr) (w : Option (Option Val)) : Bool := match w with
  | some (some (.glo b)) => decide (b = a1)
  | some (some (.exn b _ _ _)) => decide (b = a1)
  | _ => false
def nRaiseFr (i : Nat) (a1 : Addr) (C : Addr) (f : Str) (m : SE) : SS := fun ro h => if isExS a1 ro[i]? = true then sbind (m ro h) ro fun w h1 => .go (.ex ⟨.ref C, [(f, w)]⟩) ro h1 else .bad
theorem isExS_sim {K : PySem.W.Frag} {al B : List Addr} {ro : En} {h : HH} {sg : L2.St} {H : Hp} {i : Nat} {a1 : Addr} (S : Sim K al B ro h sg H) (e : isExS a1 ro[i]? = true) : sg[i]? = some (some (.ref a1)) := by
  unfold isExS at e
  split at e
  · rename_i b q
    obtain ⟨v, ev, r⟩ := S.env i _ q
    have eb := of_decide_eq_true e
    subst eb
    cases r
    exact ev
  · rename_i b _ _ _ q
    obtain ⟨v, ev, r⟩ := S.env i _ q
    have eb := of_decide_eq_true e
    subst eb
    cases r
    exact ev
  · cases e
end Z
/-! ZI: own instances: attributes read and stored, methods called, instances made. -/
namespace Z
open PySem PySem.Spec PyProof.Rows L2
/-! ### attributes -/
def lkA (f : Str) : List (Str × Val) → Option Val
  | [] => none
  | (g, w) :: r => if g = f then some w else lkA f r
def putA (f : Str) (w : Val) : List (Str × Val) → List (Str × Val)
  | [] => [(f, w)]
  | (g, x) :: r => if g = f then (g, w) :: r else (g, x) :: putA f w r
section
variable {K : PySem.W.Frag} {al B : List Addr} {H : Hp}
def FRs (K : PySem.W.Frag) (al B : List Addr) (H : Hp) (fs : List (Str × Val)) (gs : List (Str × V)) : Prop := fs.map (·.1) = gs.map (·.1) ∧ Reps K al B H (fs.map (·.2)) (gs.map (·.2))
theorem FRs.split {kv : Str × Val} {r : List (Str × Val)} {gs : List (Str × V)} (d : FRs K al B H (kv :: r) gs) : ∃ v r', gs = (kv.1, v) :: r' ∧ Rep K al B H kv.2 v ∧ FRs K al B H r r' := by
  obtain ⟨e, q⟩ := d
  cases gs with
  | nil => cases e
  | cons p r' =>
    obtain ⟨k, v⟩ := p
    rw [List.map_cons, List.map_cons] at e q
    obtain ⟨e1, e2⟩ := List.cons.inj e
    cases q with
    | cons a b => exact ⟨v, r', by rw [show kv.1 = k from e1], a, e2, b⟩
theorem FRs.cons {k : Str} {w : Val} {v : V} {r : List (Str × Val)} {r' : List (Str × V)} (a : Rep K al B H w v) (d : FRs K al B H r r') : FRs K al B H ((k, w) :: r) ((k, v) :: r') :=
  ⟨by rw [List.map_cons, List.map_cons, d.1], .cons a d.2⟩
theorem look_cons (f g : Str) (v : V) (r : List (Str × V)) : List.lookup f ((g, v) :: r) = if g = f then some v else List.lookup f r := by
  by_cases h : g = f
  · have hb : (f == g) = true := beq_iff_eq.mpr h.symm
    simp only [List.lookup, hb, if_pos h]
  · have hb : (f == g) = false := beq_eq_false_iff_ne.mpr (Ne.symm h)
    simp only [List.lookup, hb, if_neg h]
theorem FRs.get {f : Str} : ∀ {fs : List (Str × Val)} {gs : List (Str × V)}, FRs K al B H fs gs → (∀ w, lkA f fs = some w → ∃ v, gs.lookup f = some v ∧ Rep K al B H w v) ∧ (lkA f fs = none → gs.lookup f = none)
  | [], gs, d => by
    obtain ⟨e, q⟩ := d
    cases gs with
    | nil => exact ⟨fun w e => (by cases e), fun _ => rfl⟩
    | cons p r => cases e
  | (g, w) :: r, gs, d => by
    obtain ⟨v, r', rfl, a, d'⟩ := d.split
    obtain ⟨i1, i2⟩ := FRs.get (f := f) d'
    unfold lkA
    dsimp only
    rw [look_cons]
    by_cases c : g = f
    · rw [if_pos c, if_pos c]
      exact ⟨fun w' e => (by cases e; exact ⟨v, rfl, a⟩), fun e => (by cases e)⟩
    · rw [if_neg c, if_neg c]
      exact ⟨i1, i2⟩
theorem FRs.put {f : Str} {w : Val} {v : V} (a : Rep K al B H w v) : ∀ {fs : List (Str × Val)} {gs : List (Str × V)}, FRs K al B H fs gs → FRs K al B H (putA f w fs) (putF f v gs)
  | [], gs, d => by
    obtain ⟨e, q⟩ := d
    cases gs with
    | nil => exact .cons a ⟨rfl, .nil⟩
    | cons p r => cases e
  | (g, x) :: r, gs, d => by
    obtain ⟨y, r', rfl, b, d'⟩ := d.split
    unfold putA putF
    dsimp only
    by_cases c : g = f
    · rw [if_pos c, if_pos c]
      exact .cons a d'
    · rw [if_neg c, if_neg c]
      exact .cons b (FRs.put a d')
theorem FRs.len {fs : List (Str × Val)} {gs : List (Str × V)} (d : FRs K al B H fs gs) : fs.length = gs.length := by
  have := congrArg List.length d.1
  rwa [List.length_map, List.length_map] at this
theorem FRs.mono {al' : List Addr} {H' : Hp} (s : Stp al H al' H') {fs : List (Str × Val)} {gs : List (Str × V)} (d : FRs K al B H fs gs) : FRs K al' B H' fs gs := ⟨d.1, d.2.step s⟩
end
def bAttr (C : Addr) (f : Str) (w : Val) : M Val := fun h => match w with
  | .ref n => match h[n]? with
    | some (.ins D fs) => if D = C then match lkA f fs with
        | some w => .ok w h
        | none => .bad
      else .bad
    | _ => .bad
  | _ => .bad
def sAttr (C : Addr) (f : Str) (m : SE) : SE := fun ro => bind (m ro) (bAttr C f)
def mAttrS (C : Addr) (f : Str) (x w : Val) : M Unit := fun h => match x with
  | .ref n => match h[n]? with
    | some (.ins D fs) => if D = C ∧ fs.length < 1000 then .ok () (h.set n (.ins C (putA f w fs))) else .bad
    | _ => .bad
  | _ => .bad
def nAttr (C : Addr) (f : Str) (mo mv : SE) : SS := fun ro h => sbind (mv ro h) ro fun w h1 => sbind (mo ro h1) ro fun x h2 => sbind (mAttrS C f x w h2) ro fun _ h3 => .go .nx ro h3
section
variable {X : Cx} {W : WX} {o e value : Expr} {f : Str} {pos pos' : Pos} {C : Addr} {m mo mv : SE}
end
/-! ### methods -/
def isInsM (C : Addr) (m : Str) (x : Val) (h : HH) : Bool := match x with
  | .ref n => match h[n]? with
    | some (.ins D fs) => decide (D = C) && (lkA m fs).isNone
    | _ => false
  | _ => false
def sMeth (C : Addr) (m : Str) (F : List Val → M Val) (n np : Nat) (gW : List Val → List Val → List Val) (mo : SE) (ra : En → M (List Val)) : SE := fun ro h => obind (mo ro h) fun x h1 => if isInsM C m x h1 = true then obind (ra ro h1) fun ws h2 => if ws.length + 1 = n ∧ (gW (x :: ws) []).length = np then F (gW (x :: ws) []) h2 else .bad else .bad
section
variable {X : Cx} {W : WX} {o e : Expr} {es : List Expr} {m : Str} {p pos apos : Pos} {C f : Addr} {mo : SE} {k n np : Nat} {fd : FuncData} {ps : List Str} {F : List Val → M Val} {gW : List Val → List Val → List Val} {ra : En → M (List Val)}
end
/-! ### instances made -/
theorem RmG.make {k : Nat} {A : Around} (r : RmG (k + 1) A) (C : Addr) (us : List Value) (kw : List (Str × Value)) : RmG k (A.under (.builtin "type.__call__" ⟨.ref C :: us, kw⟩)) := ⟨r.toRoom.make C us kw, r.gd⟩
theorem RmW.make {k : Nat} {A : Around} (r : RmW (k + 1) A) (C : Addr) (us : List Value) (kw : List (Str × Value)) : RmW k (A.under (.builtin "type.__call__" ⟨.ref C :: us, kw⟩)) := ⟨r.toRoomH.make C us kw, r.gd⟩
def nonOr (x : Val) (v : Val) : M Val := fun h => match v with
  | .non => .ok x h
  | _ => .bad
def sMake (C : Addr) (F : List Val → M Val) (n np : Nat) (gW : List Val → List Val → List Val) (ra : En → M (List Val)) : SE := fun ro h => obind (ra ro h) fun ws h1 => if ws.length + 1 = n ∧ (gW (.ref h1.length :: ws) []).length = np then obind (F (gW (.ref h1.length :: ws) []) (h1 ++ [.ins C []])) (nonOr (.ref h1.length)) else .bad
section
variable {X : Cx} {W : WX} {e : Expr} {es : List Expr} {x : Str} {p pos : Pos} {C f : Addr} {k n np : Nat} {fd : FuncData} {ps : List Str} {F : List Val → M Val} {gW : List Val → List Val → List Val} {ra : En → M (List Val)}
end
end Z
/-! ZI2: attributes as targets, lists of comprehensions that are own lists. -/
namespace L2
open PySem PySem.Spec PyProof.Rows
end L2
namespace Z
open PySem PySem.Spec PyProof.Rows L2
/-! ### an own list by a comprehension -/
end Z
/-! ZX2: a, b, *rest = a tuple. -/
namespace Z
open PySem PySem.Spec PyProof.Rows L2
section
variable {prog : Program} {w : World} {A : Around} {E : Value → Shared → Prop} {s : Shared}
end
/-- a, b, *rest = a tuple -/
def gSt2 (g : List Val → En → HH → SO) : GM := fun w ro h => match w with
  | .tup (x :: y :: ys) => g [x, y, .lst ys] ro h
  | _ => .bad
end Z
/-! ZKC: written values of any depth, written dicts of such; facts for clauses that name a built-in error. -/
namespace Z
open PySem PySem.Spec PyProof.Rows L2
def CV (K : PySem.W.Frag) (u : Value) (w : Val) : Prop := ∃ v, RelV v u ∧ ∀ al B H, Rep K al B H w v
inductive CVs (K : PySem.W.Frag) : List Value → List Val → Prop
  | nil : CVs K [] []
  | cons {u : Value} {w : Val} {us : List Value} {ws : List Val} : CV K u w → CVs K us ws → CVs K (u :: us) (w :: ws)
theorem CVs.len {K : PySem.W.Frag} : ∀ {us : List Value} {ws : List Val}, CVs K us ws → us.length = ws.length
  | [], [], _ => rfl
  | _, _, .cons a r => by rw [List.length_cons, List.length_cons, r.len]
/-! ### written dicts of written values -/
/-! ### clauses that name a built-in error -/
theorem bx_KeyError {c : Value} (e : c = .type "KeyError") {K : PySem.W.Frag} : ∀ (M : Model) (h : Heap), K.In h → PySem.W.Looks M h (isSubtype c (.type "BaseException")) true := fun M h _ => by
  rw [e]
  exact PySem.W.Looks.of_pure PySem.W.kr_isExc_KeyError
theorem dpn_of {k : Nat} {A : Around} {v : Option Value} (r : Room k A) : (A.mark v).depth + 1 < recursionLimit := by
  have := r.dp
  show A.depth + 1 < recursionLimit
  omega
end Z
/-! ZI3: x += e, o.f += e, of ints. -/
namespace Z
open PySem PySem.Spec PyProof.Rows L2
def augI (sub : Bool) (x y : Val) : M Val := fun h => match x, y with
  | .int i, .int j => .ok (.int (if sub = true then i - j else i + j)) h
  | _, _ => .bad
def nAug (sub : Bool) (i : Nat) (m : SE) : SS := fun ro h => sbind (sVar i ro h) ro fun x h1 => sbind (m ro h1) ro fun y h2 => sbind (augI sub x y h2) ro fun z h3 => .go .nx (ro.set i (some z)) h3
section
variable {X : Cx} {W : WX} {pos : Pos}
end
end Z
/-! ZZ: zip of two tuples or of two lists, walked. -/
namespace Z
open PySem PySem.Spec PyProof.Rows L2
end Z
/-! ZP: zip of two sequences (lists or tuples, in any mix): made, asked, collected. -/
namespace ZP
open PySem PySem.W PySem.Calls PyProof.Rows
/-- an iterator over a list (true) or over a tuple (false) -/
def SIt (b : Bool) (h : Heap) (it l : Addr) (i : Nat) : Prop := if b then h.IsListIter it l i else h.IsTupleIter it l i
def SSq (b : Bool) (h : Heap) (l : Addr) (xs : Array Value) : Prop := if b then h.IsList l xs else h.IsTuple l xs
theorem SIt.at {b : Bool} {h h' : Heap} {it l : Addr} {i : Nat} (x : SIt b h it l i) (k : ∀ o, h.get? it = some o → h'.get? it = some o) : SIt b h' it l i := by
  cases b
  · obtain ⟨o, e, r⟩ := (x : h.IsTupleIter it l i); exact ⟨o, k o e, r⟩
  · obtain ⟨o, e, r⟩ := (x : h.IsListIter it l i); exact ⟨o, k o e, r⟩
theorem SSq.at {b : Bool} {h h' : Heap} {l : Addr} {xs : Array Value} (x : SSq b h l xs) (k : ∀ o, h.get? l = some o → h'.get? l = some o) : SSq b h' l xs := by
  cases b
  · obtain ⟨o, e, r⟩ := (x : h.IsTuple l xs); exact ⟨o, k o e, r⟩
  · obtain ⟨o, e, r⟩ := (x : h.IsList l xs); exact ⟨o, k o e, r⟩
theorem SIt.extBut {b : Bool} {h h' : Heap} {it l z : Addr} {i : Nat} (x : SIt b h it l i) (e : Heap.ExtBut z h h') (n : it ≠ z) : SIt b h' it l i := x.at fun o q => e it o n q
theorem SSq.extBut {b : Bool} {h h' : Heap} {l z : Addr} {xs : Array Value} (x : SSq b h l xs) (e : Heap.ExtBut z h h') (n : l ≠ z) : SSq b h' l xs := x.at fun o q => e l o n q
theorem SIt.lt {b : Bool} {h : Heap} {it l : Addr} {i : Nat} (x : SIt b h it l i) : it < h.objs.size := by
  cases b
  · obtain ⟨o, e, r⟩ := (x : h.IsTupleIter it l i); exact Heap.lt_size e
  · obtain ⟨o, e, r⟩ := (x : h.IsListIter it l i); exact Heap.lt_size e
theorem SSq.lt {b : Bool} {h : Heap} {l : Addr} {xs : Array Value} (x : SSq b h l xs) : l < h.objs.size := by
  cases b
  · obtain ⟨o, e, r⟩ := (x : h.IsTuple l xs); exact Heap.lt_size e
  · obtain ⟨o, e, r⟩ := (x : h.IsList l xs); exact Heap.lt_size e
section
variable {prog : Program} {w : World} {A : Around} {E : Value → Shared → Prop} {s : Shared}
theorem next_item {b : Bool} {it l : Addr} {i : Nat} {items : Array Value} {x : Value} {Q : Value → Shared → Prop} (hit : SIt b s.heap it l i) (hl : SSq b s.heap l items) (hx : items[i]? = some x)
    (hQ : ∀ h', SIt b h' it l (i + 1) → Heap.SameBut it s.heap h' → Q x { s with heap := h' }) : wpAny (model prog w) A (Builtin.SmallTypes.nextOf (.ref it)) Q E s := by
  cases b
  · exact RZ.nextOf_tuple_item hit hl hx hQ
  · exact wpAny_nextOf_list_item hit hl hx hQ
theorem next_end {b : Bool} {it l : Addr} {i : Nat} {items : Array Value} {Q : Value → Shared → Prop} (hh : A.handled = none) (hit : SIt b s.heap it l i) (hl : SSq b s.heap l items) (hx : items[i]? = none)
    (hE : ∀ h' e, Heap.ExtBut it s.heap h' → (∃ o, h'.get? e = some o ∧ o.cls = .type "StopIteration") → E (.ref e) { s with heap := h' }) : wpAny (model prog w) A (Builtin.SmallTypes.nextOf (.ref it)) Q E s := by
  cases b
  · exact RZ.nextOf_tuple_end hh hit hl hx hE
  · exact wpAny_nextOf_list_end hh hit hl hx hE

theorem zip_item {b1 b2 : Bool} {z TI TO i1 i2 l1 l2 : Addr} {k1 k2 : Nat} {xs ys : Array Value} {x y a b : Value} {Q : Value → Shared → Prop} (D : ZipApart z TI TO i1 i2 l1 l2)
    (hz : IsZip s.heap z TI TO .none) (hTI : IsPair s.heap TI (.ref i1) (.ref i2)) (hTO : IsPair s.heap TO a b)
    (h1 : SIt b1 s.heap i1 l1 k1) (h2 : SIt b2 s.heap i2 l2 k2) (hl1 : SSq b1 s.heap l1 xs) (hl2 : SSq b2 s.heap l2 ys) (hx : xs[k1]? = some x) (hy : ys[k2]? = some y)
    (hQ : ∀ h', IsZip h' z TI TO (rawInt s.heap.objs.size) → IsPair h' TO x y → SIt b1 h' i1 l1 (k1 + 1) → SIt b2 h' i2 l2 (k2 + 1) → IsPair h' s.heap.objs.size x y → h'.objs.size = s.heap.objs.size + 1 →
      (∀ c o, c ≠ z → c ≠ TO → c ≠ i1 → c ≠ i2 → s.heap.get? c = some o → h'.get? c = some o) → Q (.ref s.heap.objs.size) { s with heap := h' }) :
    wpAny (model prog w) A (Builtin.«zip.__next__» ⟨[.ref z], []⟩) (fun fin s' => ∃ v, fin = .done (.ret v) ∧ Q v s') E s := by
  show wpAny _ _ (field (.ref z) 2 >>= _) _ _ _
  refine wpAny_bind (wpAny_field hz rfl (x := .bool false) rfl ?_)
  show wpAny _ _ (field (.ref z) 3 >>= _) _ _ _
  refine wpAny_bind (wpAny_field hz rfl (x := .ref TI) rfl ?_)
  refine wpAny_bind (wpAny_seqItems hTI rfl ?_)
  show wpAny _ _ (Builtin.SmallTypes.ownedTupleIsFree (.ref z) >>= _) _ _ _
  refine wpAny_bind ?_
  unfold Builtin.SmallTypes.ownedTupleIsFree
  refine wpAny_bind (wpAny_field hz rfl (x := .none) rfl (wpAny_pure ?_))
  simp only [if_true]
  refine wpAny_bind (wpAny_rule ?_)
  refine wpAny_bind (wpAny_field hz rfl (x := .ref TO) rfl ?_)
  refine wpAny_bind (wpAny_setField_rec hz (by simp) fun h₁ hz₁ hs₁ => ?_)
  replace hz₁ : IsZip h₁ z TI TO .ellipsis := hz₁
  refine wpAny_bind ?_
  simp only [List.zipIdx_cons, List.zipIdx_nil, List.forIn_cons, List.forIn_nil]
  refine wpAny_bind (wpAny_bind (wpAny_onRaise ?_))
  show wpAny _ _ (Builtin.SmallTypes.nextOf (.ref i1) >>= _) _ _ _
  refine wpAny_bind (next_item (h1.extBut hs₁.extBut D.i1z) (hl1.extBut hs₁.extBut D.l1z) hx fun h₂ h1₂ hs₂ => wpAny_pure ?_)
  have hTO₂ : IsPair h₂ TO a b := hs₂.extBut _ _ D.TOi1 (hs₁.extBut _ _ D.TOz hTO)
  refine wpAny_bind (wpAny_seqItems hTO₂ rfl ?_)
  refine wpAny_bind (wpAny_updateSeq_pair hTO₂ fun h₃ hTO₃ hs₃ => ?_)
  replace hTO₃ : IsPair h₃ TO x b := hTO₃
  refine wpAny_bind (wpAny_letGo (wpAny_pure ?_))
  refine wpAny_bind (wpAny_bind (wpAny_onRaise ?_))
  show wpAny _ _ (Builtin.SmallTypes.nextOf (.ref i2) >>= _) _ _ _
  refine wpAny_bind (next_item (((h2.extBut hs₁.extBut D.i2z).extBut hs₂.extBut D.i12.symm).extBut hs₃.extBut D.TOi2.symm)
    (((hl2.extBut hs₁.extBut D.l2z).extBut hs₂.extBut D.l2i1).extBut hs₃.extBut D.l2TO) hy fun h₄ h2₄ hs₄ => wpAny_pure ?_)
  have hTO₄ : IsPair h₄ TO x b := hs₄.extBut _ _ D.TOi2 hTO₃
  refine wpAny_bind (wpAny_seqItems hTO₄ rfl ?_)
  refine wpAny_bind (wpAny_updateSeq_pair hTO₄ fun h₅ hTO₅ hs₅ => ?_)
  replace hTO₅ : IsPair h₅ TO x y := hTO₅
  refine wpAny_bind (wpAny_letGo (wpAny_pure (wpAny_pure ?_)))
  refine wpAny_bind (wpAny_seqItems hTO₅ rfl ?_)
  refine wpAny_bind (wpAny_newTuple ?_)
  have hsz : h₅.objs.size = s.heap.objs.size := by rw [hs₅.1, hs₄.1, hs₃.1, hs₂.1, hs₁.1]
  have hz₅ : IsZip h₅ z TI TO .ellipsis := hs₅.extBut _ _ D.TOz.symm (hs₄.extBut _ _ D.i2z.symm (hs₃.extBut _ _ D.TOz.symm (hs₂.extBut _ _ D.i1z.symm hz₁)))
  have hk₅ : ∀ c o, c ≠ z → c ≠ TO → c ≠ i1 → c ≠ i2 → s.heap.get? c = some o → h₅.get? c = some o := fun c o c1 c2 c3 c4 e =>
    hs₅.extBut _ _ c2 (hs₄.extBut _ _ c4 (hs₃.extBut _ _ c2 (hs₂.extBut _ _ c3 (hs₁.extBut _ _ c1 e))))
  have h1₅ : SIt b1 h₅ i1 l1 (k1 + 1) := ((h1₂.extBut hs₃.extBut D.TOi1.symm).extBut hs₄.extBut D.i12).extBut hs₅.extBut D.TOi1.symm
  have h2₅ : SIt b2 h₅ i2 l2 (k2 + 1) := h2₄.extBut hs₅.extBut D.TOi2.symm
  have hzlt : z < h₅.objs.size := Heap.lt_size hz₅
  show wpAny _ _ (Builtin.SmallTypes.ownedTupleHandOut (.ref z) (.ref h₅.objs.size) >>= _) _ _ _
  refine wpAny_bind ?_
  unfold Builtin.SmallTypes.ownedTupleHandOut
  have hz₆ : IsZip (h₅.push { cls := .type "tuple", data := .seq #[x, y] }) z TI TO .ellipsis := Heap.get?_push_of_some _ hz₅
  refine wpAny_bind (wpAny_setField_rec hz₆ (by simp) fun h₇ hz₇ hs₇ => ?_)
  replace hz₇ : IsZip h₇ z TI TO (rawInt h₅.objs.size) := hz₇
  refine wpAny_setField_rec hz₇ (by simp) fun h₈ hz₈ hs₈ => ?_
  replace hz₈ : IsZip h₈ z TI TO (rawInt h₅.objs.size) := hz₈
  have up : ∀ c o, c ≠ z → h₅.get? c = some o → h₈.get? c = some o := fun c o c1 e => hs₈.extBut _ _ c1 (hs₇.extBut _ _ c1 (Heap.get?_push_of_some _ e))
  have hT₈ : IsPair h₈ h₅.objs.size x y := hs₈.extBut _ _ (Nat.ne_of_gt hzlt) (hs₇.extBut _ _ (Nat.ne_of_gt hzlt) (Heap.get?_push_size _ rfl))
  have hz8 : h₈.objs.size = h₅.objs.size + 1 := by rw [hs₈.1, hs₇.1, Heap.size_push]
  rw [hsz] at hz₈ hT₈ hz8
  refine wpAny_pure ⟨_, rfl, ?_⟩
  show Q (.ref h₅.objs.size) _
  rw [hsz]
  exact hQ h₈ hz₈ (up _ _ D.TOz hTO₅) (h1₅.at fun o e => up _ o D.i1z e) (h2₅.at fun o e => up _ o D.i2z e) hT₈ hz8 fun c o c1 c2 c3 c4 e => up c o c1 (hk₅ c o c1 c2 c3 c4 e)

theorem zip_end {b1 b2 : Bool} {z TI TO i1 i2 l1 l2 : Addr} {k1 k2 : Nat} {xs ys : Array Value} {a b : Value} {Q : Fin → Shared → Prop} (hh : A.handled = none) (D : ZipApart z TI TO i1 i2 l1 l2)
    (hz : IsZip s.heap z TI TO .none) (hTI : IsPair s.heap TI (.ref i1) (.ref i2)) (hTO : IsPair s.heap TO a b)
    (h1 : SIt b1 s.heap i1 l1 k1) (h2 : SIt b2 s.heap i2 l2 k2) (hl1 : SSq b1 s.heap l1 xs) (hl2 : SSq b2 s.heap l2 ys) (hend : xs[k1]? = none ∨ ys[k2]? = none)
    (hE : ∀ h' e, (∀ c o, c ≠ z → c ≠ TO → c ≠ i1 → c ≠ i2 → s.heap.get? c = some o → h'.get? c = some o) → (∃ o, h'.get? e = some o ∧ o.cls = .type "StopIteration") → E (.ref e) { s with heap := h' }) :
    wpAny (model prog w) A (Builtin.«zip.__next__» ⟨[.ref z], []⟩) Q E s := by
  show wpAny _ _ (field (.ref z) 2 >>= _) _ _ _
  refine wpAny_bind (wpAny_field hz rfl (x := .bool false) rfl ?_)
  show wpAny _ _ (field (.ref z) 3 >>= _) _ _ _
  refine wpAny_bind (wpAny_field hz rfl (x := .ref TI) rfl ?_)
  refine wpAny_bind (wpAny_seqItems hTI rfl ?_)
  show wpAny _ _ (Builtin.SmallTypes.ownedTupleIsFree (.ref z) >>= _) _ _ _
  refine wpAny_bind ?_
  unfold Builtin.SmallTypes.ownedTupleIsFree
  refine wpAny_bind (wpAny_field hz rfl (x := .none) rfl (wpAny_pure ?_))
  simp only [if_true]
  refine wpAny_bind (wpAny_rule ?_)
  refine wpAny_bind (wpAny_field hz rfl (x := .ref TO) rfl ?_)
  refine wpAny_bind (wpAny_setField_rec hz (by simp) fun h₁ hz₁ hs₁ => ?_)
  replace hz₁ : IsZip h₁ z TI TO .ellipsis := hz₁
  refine wpAny_bind ?_
  simp only [List.zipIdx_cons, List.zipIdx_nil, List.forIn_cons, List.forIn_nil]
  refine wpAny_bind (wpAny_bind (wpAny_onRaise ?_))
  show wpAny _ _ (Builtin.SmallTypes.nextOf (.ref i1) >>= _) _ _ _
  cases hx : xs[k1]? with
  | none =>
    refine wpAny_bind (next_end hh (h1.extBut hs₁.extBut D.i1z) (hl1.extBut hs₁.extBut D.l1z) hx fun h₂ e hs₂ he => ?_)
    obtain ⟨oe, hoe, hce⟩ := he
    have hz₂ : IsZip h₂ z TI TO .ellipsis := hs₂ _ _ D.i1z.symm hz₁
    have hez : e ≠ z := fun x => by subst x; rw [hz₂] at hoe; cases hoe; simp at hce
    refine wpAny_setField_rec hz₂ (by simp) fun h₃ _ hs₃ => hE h₃ e (fun c o c1 _ c3 _ x => hs₃.extBut _ _ c1 (hs₂ _ _ c3 (hs₁.extBut _ _ c1 x))) ⟨oe, hs₃.extBut _ _ hez hoe, hce⟩
  | some x =>
    have hy : ys[k2]? = none := by rcases hend with h | h; rw [hx] at h; cases h; exact h
    refine wpAny_bind (next_item (h1.extBut hs₁.extBut D.i1z) (hl1.extBut hs₁.extBut D.l1z) hx fun h₂ h1₂ hs₂ => wpAny_pure ?_)
    have hTO₂ : IsPair h₂ TO a b := hs₂.extBut _ _ D.TOi1 (hs₁.extBut _ _ D.TOz hTO)
    refine wpAny_bind (wpAny_seqItems hTO₂ rfl ?_)
    refine wpAny_bind (wpAny_updateSeq_pair hTO₂ fun h₃ hTO₃ hs₃ => ?_)
    refine wpAny_bind (wpAny_letGo (wpAny_pure ?_))
    refine wpAny_bind (wpAny_bind (wpAny_onRaise ?_))
    show wpAny _ _ (Builtin.SmallTypes.nextOf (.ref i2) >>= _) _ _ _
    refine wpAny_bind (next_end hh (((h2.extBut hs₁.extBut D.i2z).extBut hs₂.extBut D.i12.symm).extBut hs₃.extBut D.TOi2.symm)
      (((hl2.extBut hs₁.extBut D.l2z).extBut hs₂.extBut D.l2i1).extBut hs₃.extBut D.l2TO) hy fun h₄ e hs₄ he => ?_)
    obtain ⟨oe, hoe, hce⟩ := he
    have hz₄ : IsZip h₄ z TI TO .ellipsis := hs₄ _ _ D.i2z.symm (hs₃.extBut _ _ D.TOz.symm (hs₂.extBut _ _ D.i1z.symm hz₁))
    have hez : e ≠ z := fun x => by subst x; rw [hz₄] at hoe; cases hoe; simp at hce
    refine wpAny_setField_rec hz₄ (by simp) fun h₅ _ hs₅ => hE h₅ e (fun c o c1 c2 c3 c4 x => hs₅.extBut _ _ c1 (hs₄ _ _ c4 (hs₃.extBut _ _ c2 (hs₂.extBut _ _ c3 (hs₁.extBut _ _ c1 x))))) ⟨oe, hs₅.extBut _ _ hez hoe, hce⟩

theorem zip_itemH {b1 b2 : Bool} {z TI TO T i1 i2 l1 l2 : Addr} {f : Bool} {oT : Obj} {k1 k2 : Nat} {xs ys : Array Value} {x y : Value} {Q : Value → Shared → Prop} (D : ZipApart z TI TO i1 i2 l1 l2)
    (hz : IsZipHeld s.heap z TI TO T f) (hT : s.heap.get? T = some oT) (hTI : IsPair s.heap TI (.ref i1) (.ref i2))
    (h1 : SIt b1 s.heap i1 l1 k1) (h2 : SIt b2 s.heap i2 l2 k2) (hl1 : SSq b1 s.heap l1 xs) (hl2 : SSq b2 s.heap l2 ys) (hx : xs[k1]? = some x) (hy : ys[k2]? = some y)
    (hQ : ∀ h', IsZipHeld h' z TI TO T true → SIt b1 h' i1 l1 (k1 + 1) → SIt b2 h' i2 l2 (k2 + 1) → IsPair h' s.heap.objs.size x y → h'.objs.size = s.heap.objs.size + 1 →
      (∀ c o, c ≠ z → c ≠ i1 → c ≠ i2 → s.heap.get? c = some o → h'.get? c = some o) → Q (.ref s.heap.objs.size) { s with heap := h' }) :
    wpAny (model prog w) A (Builtin.«zip.__next__» ⟨[.ref z], []⟩) (fun fin s' => ∃ v, fin = .done (.ret v) ∧ Q v s') E s := by
  show wpAny _ _ (field (.ref z) 2 >>= _) _ _ _
  refine wpAny_bind (wpAny_field hz rfl (x := .bool false) rfl ?_)
  show wpAny _ _ (field (.ref z) 3 >>= _) _ _ _
  refine wpAny_bind (wpAny_field hz rfl (x := .ref TI) rfl ?_)
  refine wpAny_bind (wpAny_seqItems hTI rfl ?_)
  show wpAny _ _ (Builtin.SmallTypes.ownedTupleIsFree (.ref z) >>= _) _ _ _
  refine wpAny_bind (wpAny_tupleHeld_zip hz hT fun h₁ hz₁ hs₁ => ?_)
  simp only [Bool.false_eq_true, if_false]
  refine wpAny_bind ?_
  rw [← Array.forIn_toList]
  simp only [List.forIn_cons, List.forIn_nil]
  refine wpAny_bind (wpAny_bind (wpAny_holding ?_))
  show wpAny _ _ (Builtin.SmallTypes.nextOf (.ref i1) >>= _) _ _ _
  refine wpAny_bind (next_item (s := { s with heap := h₁ }) (h1.extBut hs₁.extBut D.i1z) (hl1.extBut hs₁.extBut D.l1z) hx fun h₂ h1₂ hs₂ => wpAny_pure ?_)
  refine wpAny_pure ?_
  refine wpAny_bind (wpAny_bind (wpAny_holding ?_))
  show wpAny _ _ (Builtin.SmallTypes.nextOf (.ref i2) >>= _) _ _ _
  refine wpAny_bind (next_item (s := { s with heap := h₂ }) ((h2.extBut hs₁.extBut D.i2z).extBut hs₂.extBut D.i12.symm) ((hl2.extBut hs₁.extBut D.l2z).extBut hs₂.extBut D.l2i1) hy fun h₃ h2₃ hs₃ => wpAny_pure ?_)
  refine wpAny_pure (wpAny_pure ?_)
  show wpAny _ _ (newTuple [x, y] >>= _) _ _ _
  refine wpAny_bind (wpAny_newTuple ?_)
  have hsz : h₃.objs.size = s.heap.objs.size := by rw [hs₃.1, hs₂.1, hs₁.1]
  have hz₃ : IsZipHeld h₃ z TI TO T true := hs₃.extBut _ _ D.i2z.symm (hs₂.extBut _ _ D.i1z.symm hz₁)
  have hk : ∀ c o, c ≠ z → c ≠ i1 → c ≠ i2 → s.heap.get? c = some o → h₃.get? c = some o := fun c o c1 c2 c3 e => hs₃.extBut _ _ c3 (hs₂.extBut _ _ c2 (hs₁.extBut _ _ c1 e))
  have h1₃ : SIt b1 h₃ i1 l1 (k1 + 1) := h1₂.extBut hs₃.extBut D.i12
  refine wpAny_pure ⟨_, rfl, ?_⟩
  show Q (.ref h₃.objs.size) _
  have hp : IsPair (h₃.push { cls := .type "tuple", data := .seq #[x, y] }) h₃.objs.size x y := Heap.get?_push_size _ rfl
  have hz4 : (h₃.push { cls := .type "tuple", data := .seq #[x, y] }).objs.size = h₃.objs.size + 1 := Heap.size_push ..
  rw [hsz] at hp hz4 ⊢
  exact hQ _ (Heap.get?_push_of_some _ hz₃) (h1₃.at fun o e => Heap.get?_push_of_some _ e) (h2₃.at fun o e => Heap.get?_push_of_some _ e) hp hz4 fun c o c1 c2 c3 e => Heap.get?_push_of_some _ (hk c o c1 c2 c3 e)

theorem zip_endH {b1 b2 : Bool} {z TI TO T i1 i2 l1 l2 : Addr} {f : Bool} {oT : Obj} {k1 k2 : Nat} {xs ys : Array Value} {Q : Fin → Shared → Prop} (hh : A.handled = none) (D : ZipApart z TI TO i1 i2 l1 l2)
    (hz : IsZipHeld s.heap z TI TO T f) (hT : s.heap.get? T = some oT) (hTI : IsPair s.heap TI (.ref i1) (.ref i2))
    (h1 : SIt b1 s.heap i1 l1 k1) (h2 : SIt b2 s.heap i2 l2 k2) (hl1 : SSq b1 s.heap l1 xs) (hl2 : SSq b2 s.heap l2 ys) (hend : xs[k1]? = none ∨ ys[k2]? = none)
    (hE : ∀ h' e, (∀ c o, c ≠ z → c ≠ i1 → c ≠ i2 → s.heap.get? c = some o → h'.get? c = some o) → (∃ o, h'.get? e = some o ∧ o.cls = .type "StopIteration") → E (.ref e) { s with heap := h' }) :
    wpAny (model prog w) A (Builtin.«zip.__next__» ⟨[.ref z], []⟩) Q E s := by
  show wpAny _ _ (field (.ref z) 2 >>= _) _ _ _
  refine wpAny_bind (wpAny_field hz rfl (x := .bool false) rfl ?_)
  show wpAny _ _ (field (.ref z) 3 >>= _) _ _ _
  refine wpAny_bind (wpAny_field hz rfl (x := .ref TI) rfl ?_)
  refine wpAny_bind (wpAny_seqItems hTI rfl ?_)
  show wpAny _ _ (Builtin.SmallTypes.ownedTupleIsFree (.ref z) >>= _) _ _ _
  refine wpAny_bind (wpAny_tupleHeld_zip hz hT fun h₁ hz₁ hs₁ => ?_)
  simp only [Bool.false_eq_true, if_false]
  refine wpAny_bind ?_
  rw [← Array.forIn_toList]
  simp only [List.forIn_cons, List.forIn_nil]
  refine wpAny_bind (wpAny_bind (wpAny_holding ?_))
  show wpAny _ _ (Builtin.SmallTypes.nextOf (.ref i1) >>= _) _ _ _
  cases hx : xs[k1]? with
  | none =>
    refine wpAny_bind (next_end (s := { s with heap := h₁ }) hh (h1.extBut hs₁.extBut D.i1z) (hl1.extBut hs₁.extBut D.l1z) hx fun h₂ e hs₂ he => ?_)
    exact hE h₂ e (fun c o c1 c2 _ x => hs₂ _ _ c2 (hs₁.extBut _ _ c1 x)) he
  | some x =>
    have hy : ys[k2]? = none := by rcases hend with h | h; rw [hx] at h; cases h; exact h
    refine wpAny_bind (next_item (s := { s with heap := h₁ }) (h1.extBut hs₁.extBut D.i1z) (hl1.extBut hs₁.extBut D.l1z) hx fun h₂ h1₂ hs₂ => wpAny_pure ?_)
    refine wpAny_pure ?_
    refine wpAny_bind (wpAny_bind (wpAny_holding ?_))
    show wpAny _ _ (Builtin.SmallTypes.nextOf (.ref i2) >>= _) _ _ _
    refine wpAny_bind (next_end (s := { s with heap := h₂ }) hh ((h2.extBut hs₁.extBut D.i2z).extBut hs₂.extBut D.i12.symm) ((hl2.extBut hs₁.extBut D.l2z).extBut hs₂.extBut D.l2i1) hy fun h₃ e hs₃ he => ?_)
    exact hE h₃ e (fun c o c1 c2 c3 x => hs₃ _ _ c3 (hs₂.extBut _ _ c2 (hs₁.extBut _ _ c1 x))) he
end
end ZP
/-! ZP2: a zip collected. -/
namespace ZP
open PySem PySem.W PySem.Calls PyProof.Rows
/-- a zip amid: its tuple in, or out (beyond S) -/
def Zst (h : Heap) (S z TI TO : Addr) : Prop := (IsZip h z TI TO .none ∧ ∃ a b, IsPair h TO a b) ∨ ∃ T f oT, IsZipHeld h z TI TO T f ∧ h.get? T = some oT ∧ S < T
theorem Zst.at {h h' : Heap} {S z TI TO : Addr} (x : Zst h S z TI TO) (n : z < S) (n2 : TO < S) (k : ∀ b o, b ≠ S → h.get? b = some o → h'.get? b = some o) : Zst h' S z TI TO := by
  rcases x with ⟨a, p, q, b⟩ | ⟨T, f, oT, a, b, c⟩
  · exact .inl ⟨k z _ (Nat.ne_of_lt n) a, p, q, k TO _ (Nat.ne_of_lt n2) b⟩
  · exact .inr ⟨T, f, oT, k z _ (Nat.ne_of_lt n) a, k T _ (Nat.ne_of_gt c) b, c⟩
structure Low (S z TI TO i1 i2 l1 l2 : Addr) : Prop where
  z : z < S
  TI : TI < S
  TO : TO < S
  i1 : i1 < S
  i2 : i2 < S
  l1 : l1 < S
  l2 : l2 < S
section
variable {prog : Program} {w : World} {A : Around} {E : Value → Shared → Prop} {s : Shared}
theorem nxt {b1 b2 : Bool} {S z TI TO i1 i2 l1 l2 : Addr} {k1 k2 : Nat} {xs ys : Array Value} {x y : Value} {Q : Option Value → Shared → Prop} (D : ZipApart z TI TO i1 i2 l1 l2) (L : Low S z TI TO i1 i2 l1 l2)
    (hz : Zst s.heap S z TI TO) (hS : S < s.heap.objs.size) (hTI : IsPair s.heap TI (.ref i1) (.ref i2))
    (h1 : SIt b1 s.heap i1 l1 k1) (h2 : SIt b2 s.heap i2 l2 k2) (hl1 : SSq b1 s.heap l1 xs) (hl2 : SSq b2 s.heap l2 ys) (hx : xs[k1]? = some x) (hy : ys[k2]? = some y)
    (hQ : ∀ h', Zst h' S z TI TO → SIt b1 h' i1 l1 (k1 + 1) → SIt b2 h' i2 l2 (k2 + 1) → IsPair h' s.heap.objs.size x y → h'.objs.size = s.heap.objs.size + 1 →
      (∀ c o, c ≠ z → c ≠ TO → c ≠ i1 → c ≠ i2 → s.heap.get? c = some o → h'.get? c = some o) → Q (some (.ref s.heap.objs.size)) { s with heap := h' }) :
    wpAny (model prog w) A (pyNext (.ref z)) Q E s := by
  unfold pyNext
  rcases hz with ⟨hz, a, b, hTO⟩ | ⟨T, f, oT, hz, hT, hST⟩
  · have hTy : s.TypeIs (.ref z) "zip" := ⟨_, hz, rfl⟩
    exact wpAny_bind (wpAny_attempt (wpAny_callSpecial?_slot (name := Str.ofString "__next__") hTy F.slot_zip_next
      (wpAny_call_entry F.slot_zip_next hTy F.entry_zip_next
        (zip_item D hz hTI hTO h1 h2 hl1 hl2 hx hy fun h' a1 a2 a3 a4 a5 a6 a7 => wpAny_pure (hQ h' (.inr ⟨_, false, _, a1, a5, hS⟩) a3 a4 a5 a6 a7)) (F.args_zip_next_1 _))))
  · have hTy : s.TypeIs (.ref z) "zip" := ⟨_, hz, rfl⟩
    exact wpAny_bind (wpAny_attempt (wpAny_callSpecial?_slot (name := Str.ofString "__next__") hTy F.slot_zip_next
      (wpAny_call_entry F.slot_zip_next hTy F.entry_zip_next
        (zip_itemH D hz hT hTI h1 h2 hl1 hl2 hx hy fun h' a1 a3 a4 a5 a6 a7 => wpAny_pure (hQ h' (.inr ⟨T, true, oT, a1, a7 T oT (Nat.ne_of_gt (Nat.lt_trans L.z hST)) (Nat.ne_of_gt (Nat.lt_trans L.i1 hST)) (Nat.ne_of_gt (Nat.lt_trans L.i2 hST)) hT, hST⟩) a3 a4 a5 a6 fun c o c1 _ c3 c4 e => a7 c o c1 c3 c4 e)) (F.args_zip_next_1 _))))
theorem fin {b1 b2 : Bool} {S z TI TO i1 i2 l1 l2 : Addr} {k1 k2 : Nat} {xs ys : Array Value} {Q : Option Value → Shared → Prop} (hh : A.handled = none) (D : ZipApart z TI TO i1 i2 l1 l2)
    (hz : Zst s.heap S z TI TO) (hTI : IsPair s.heap TI (.ref i1) (.ref i2))
    (h1 : SIt b1 s.heap i1 l1 k1) (h2 : SIt b2 s.heap i2 l2 k2) (hl1 : SSq b1 s.heap l1 xs) (hl2 : SSq b2 s.heap l2 ys) (hend : xs[k1]? = none ∨ ys[k2]? = none)
    (hQ : ∀ h', (∀ c o, c ≠ z → c ≠ TO → c ≠ i1 → c ≠ i2 → s.heap.get? c = some o → h'.get? c = some o) → Q none { s with heap := h' }) : wpAny (model prog w) A (pyNext (.ref z)) Q E s := by
  unfold pyNext
  rcases hz with ⟨hz, a, b, hTO⟩ | ⟨T, f, oT, hz, hT, hST⟩
  · have hTy : s.TypeIs (.ref z) "zip" := ⟨_, hz, rfl⟩
    refine wpAny_bind (wpAny_attempt (wpAny_callSpecial?_slot (name := Str.ofString "__next__") hTy F.slot_zip_next
      (wpAny_call_entry F.slot_zip_next hTy F.entry_zip_next (zip_end hh D hz hTI hTO h1 h2 hl1 hl2 hend fun h' e hk he => ?_) (F.args_zip_next_1 _))))
    obtain ⟨o, ho, hc⟩ := he
    refine wpAny_bind (wpAny_isInstance (T := "StopIteration") (b := true) ⟨o, ho, hc⟩ isSubtype_stop ?_)
    exact wpAny_pure (hQ _ hk)
  · have hTy : s.TypeIs (.ref z) "zip" := ⟨_, hz, rfl⟩
    refine wpAny_bind (wpAny_attempt (wpAny_callSpecial?_slot (name := Str.ofString "__next__") hTy F.slot_zip_next
      (wpAny_call_entry F.slot_zip_next hTy F.entry_zip_next (zip_endH hh D hz hT hTI h1 h2 hl1 hl2 hend fun h' e hk he => ?_) (F.args_zip_next_1 _))))
    obtain ⟨o, ho, hc⟩ := he
    refine wpAny_bind (wpAny_isInstance (T := "StopIteration") (b := true) ⟨o, ho, hc⟩ isSubtype_stop ?_)
    exact wpAny_pure (hQ _ fun c o c1 _ c3 c4 e => hk c o c1 c3 c4 e)
end
/-- the tuples made -/
structure Mk (xs ys : Array Value) (lo : Addr) (h : Heap) (as : List Addr) : Prop where
  rise : as.Pairwise (· < ·)
  above : ∀ a ∈ as, lo < a
  pairs : ∀ (j : Nat) (a : Addr), as[j]? = some a → ∃ x y, xs[j]? = some x ∧ ys[j]? = some y ∧ IsPair h a x y
theorem Mk.there {xs ys : Array Value} {lo : Addr} {h : Heap} {as : List Addr} (g : Mk xs ys lo h as) {a : Addr} (ha : a ∈ as) : a < h.objs.size := by
  obtain ⟨j, hj⟩ := List.mem_iff_getElem?.mp ha
  obtain ⟨_, _, _, _, e⟩ := g.pairs j a hj
  exact Heap.lt_size e
section
variable {prog : Program} {w : World} {A : Around} {s : Shared} {R : Result → Shared → Prop} {b1 b2 : Bool} {S z TI TO i1 i2 l1 l2 : Addr} {xs ys : Array Value} {n : Nat}
theorem loop (hh : A.handled = none) (D : ZipApart z TI TO i1 i2 l1 l2) (L : Low S z TI TO i1 i2 l1 l2) (l1z : l1 ≠ z) (l1TO : l1 ≠ TO) (l1i1 : l1 ≠ i1) (l1i2 : l1 ≠ i2) (l2z : l2 ≠ z) (l2TO : l2 ≠ TO) (l2i1 : l2 ≠ i1) (l2i2 : l2 ≠ i2)
    (hne : n = min xs.size ys.size) (hn : n ≤ sizeLine) (res : Value) {h₁ : Heap}
    (hR : ∀ h' tk acc c as, (∀ b o, b ≠ S → b ≠ z → b ≠ TO → b ≠ i1 → b ≠ i2 → h₁.get? b = some o → h'.get? b = some o) → h'.get? S = some { cls := .type "list", dict := none, data := .seq acc c, slots := #[] } → as.length = n → Mk xs ys S h' as →
      acc.toList = as.map Value.ref → R (.ok (.ret res)) { s with heap := h', toks := tk }) :
    ∀ (k i : Nat) (h : Heap) (tk c : Nat) (acc : Array Value) (as : List Addr), n - i = k → i ≤ n → Zst h S z TI TO → IsPair h TI (.ref i1) (.ref i2) → SIt b1 h i1 l1 i → SIt b2 h i2 l2 i → SSq b1 h l1 xs → SSq b2 h l2 ys →
      (∀ b o, b ≠ S → b ≠ z → b ≠ TO → b ≠ i1 → b ≠ i2 → h₁.get? b = some o → h.get? b = some o) →
      h.get? S = some { cls := .type "list", dict := none, data := .seq acc c, slots := #[] } → acc.toList = as.map Value.ref → as.length = i → Mk xs ys S h as →
      codeAny (model prog w) A (.builtin "list.extend.loop" ⟨[.ref S, .ref z, res], []⟩) R { s with heap := h, toks := tk } := by
  have SI : S ≠ z ∧ S ≠ TO ∧ S ≠ i1 ∧ S ≠ i2 := ⟨Nat.ne_of_gt L.z, Nat.ne_of_gt L.TO, Nat.ne_of_gt L.i1, Nat.ne_of_gt L.i2⟩
  have far : ∀ a, S < a → a ≠ z ∧ a ≠ TO ∧ a ≠ i1 ∧ a ≠ i2 := fun a h => ⟨Nat.ne_of_gt (Nat.lt_trans L.z h), Nat.ne_of_gt (Nat.lt_trans L.TO h), Nat.ne_of_gt (Nat.lt_trans L.i1 h), Nat.ne_of_gt (Nat.lt_trans L.i2 h)⟩
  intro k
  induction k with
  | zero =>
    intro i h tk c acc as hk hi hst hTI h1 h2 hl1 hl2 hkeep hS hacc hal hG
    refine codeAny_builtin PySem.F.entry_extend_loop ?_
    rw [Around.under_plainId PySem.F.plain_extend_loop _]
    show wpAny _ A.in1 (pyNext (.ref z) >>= _) _ _ _
    have hend : xs[i]? = none ∨ ys[i]? = none := by
      rw [Array.getElem?_eq_none_iff, Array.getElem?_eq_none_iff]
      omega
    refine wpAny_bind (fin (s := { s with heap := h, toks := tk }) (A := A.in1) hh D hst hTI h1 h2 hl1 hl2 hend fun h' he => ?_)
    refine wpAny_pure (hR h' tk acc c as (fun b o g1 g2 g3 g4 g5 e => he b o g2 g3 g4 g5 (hkeep b o g1 g2 g3 g4 g5 e)) (he S _ SI.1 SI.2.1 SI.2.2.1 SI.2.2.2 hS) (by omega) ⟨hG.rise, hG.above, fun j a hj => ?_⟩ hacc)
    obtain ⟨x, y, e1, e2, e3⟩ := hG.pairs j a hj
    obtain ⟨f1, f2, f3, f4⟩ := far a (hG.above a (List.mem_of_getElem? hj))
    exact ⟨x, y, e1, e2, he a _ f1 f2 f3 f4 e3⟩
  | succ k ih =>
    intro i h tk c acc as hk hi hst hTI h1 h2 hl1 hl2 hkeep hS hacc hal hG
    have hlt : i < n := by omega
    have hlx : i < xs.size := by omega
    have hly : i < ys.size := by omega
    have hsz : acc.size = i := by rw [← Array.length_toList, hacc, List.length_map, hal]
    have hSl : S < h.objs.size := Heap.lt_size hS
    refine codeAny_builtin PySem.F.entry_extend_loop ?_
    rw [Around.under_plainId PySem.F.plain_extend_loop _]
    show wpAny _ A.in1 (pyNext (.ref z) >>= _) _ _ _
    refine wpAny_bind (nxt (s := { s with heap := h, toks := tk }) D L hst hSl hTI h1 h2 hl1 hl2 (Array.getElem?_eq_getElem hlx) (Array.getElem?_eq_getElem hly) fun h' hst' g1 g2 ht hz hkp => ?_)
    dsimp only at ht hz hkp ⊢
    have hS' := hkp S _ SI.1 SI.2.1 SI.2.2.1 SI.2.2.2 hS
    have up : ∀ b o, b ≠ S → h'.get? b = some o → (h'.update S (Obj.mapSeq (·.push (Value.ref h.objs.size)))).get? b = some o := fun b o hb e => (Heap.get?_update_other _ _ (Ne.symm hb)).trans e
    show wpAny _ A.in1 (updateSeq S (·.push (Value.ref h.objs.size)) >>= _) _ _ _
    refine wpAny_bind ?_
    refine wpAny_updateSeq hS' rfl (wpAny_pure ⟨plainId_quiet PySem.F.plain_extend_loop _, ih (i + 1) _ tk _ (acc.push (Value.ref h.objs.size)) (as ++ [h.objs.size]) (by omega) hlt
      (hst'.at L.z L.TO up) (up _ _ (Nat.ne_of_lt L.TI) (hkp _ _ D.TIz D.TITO D.TIi1 D.TIi2 hTI)) (g1.at fun o e => up _ _ (Nat.ne_of_lt L.i1) e) (g2.at fun o e => up _ _ (Nat.ne_of_lt L.i2) e)
      (hl1.at fun o e => up _ _ (Nat.ne_of_lt L.l1) (hkp _ _ l1z l1TO l1i1 l1i2 e)) (hl2.at fun o e => up _ _ (Nat.ne_of_lt L.l2) (hkp _ _ l2z l2TO l2i1 l2i2 e))
      (fun b o f1 f2 f3 f4 f5 e => up b o f1 (hkp b o f2 f3 f4 f5 (hkeep b o f1 f2 f3 f4 f5 e))) (Heap.get?_update_self _ hS' rfl) (by rw [Array.toList_push, hacc, List.map_append]; rfl) (by rw [List.length_append, hal]; rfl) ⟨?_, ?_, ?_⟩⟩) (by rw [hsz]; omega) (by show (acc.push (Value.ref h.objs.size)).size ≤ sizeLine + 1; rw [Array.size_push, hsz]; omega)
    · refine List.pairwise_append.mpr ⟨hG.rise, List.pairwise_singleton _ _, fun a ha b hb => ?_⟩
      rw [List.mem_singleton.mp hb]
      exact hG.there ha
    · intro a ha
      rcases List.mem_append.mp ha with ha | ha
      · exact hG.above a ha
      · rw [List.mem_singleton.mp ha]; exact hSl
    · intro j b hj
      rcases Nat.lt_trichotomy j as.length with q | q | q
      · rw [List.getElem?_append_left q] at hj
        obtain ⟨x, y, e1, e2, e3⟩ := hG.pairs j b hj
        have hb := hG.above b (List.mem_of_getElem? hj)
        obtain ⟨f1, f2, f3, f4⟩ := far b hb
        exact ⟨x, y, e1, e2, up b _ (Nat.ne_of_gt hb) (hkp b _ f1 f2 f3 f4 e3)⟩
      · subst q
        have hb : h.objs.size = b := by simpa using hj
        subst hb
        subst hal
        exact ⟨_, _, Array.getElem?_eq_getElem hlx, Array.getElem?_eq_getElem hly, up _ _ (Nat.ne_of_gt hSl) ht⟩
      · have hnone : (as ++ [h.objs.size])[j]? = none := List.getElem?_eq_none (by rw [List.length_append, List.length_singleton]; omega)
        rw [hnone] at hj; cases hj
end
end ZP
/-! ZP3: a zip collected; zip made; sorted of a zip. -/
namespace ZP
open PySem PySem.W PySem.Calls PyProof.Rows
section
variable {prog : Program} {w : World} {A : Around} {E : Value → Shared → Prop} {s : Shared} {b1 b2 : Bool} {z TI TO i1 i2 l1 l2 : Addr} {xs ys : Array Value} {n : Nat}
end

/-! ### made -/
abbrev tyI (b : Bool) : String := if b then "list_iterator" else "tuple_iterator"
abbrev itO (b : Bool) (l : Addr) : Obj := { cls := .type (tyI b), data := .fields #[.ref l, .int 0 0] }
abbrev zH1 (b1 : Bool) (h : Heap) (l1 : Addr) : Heap := h.push (itO b1 l1)
abbrev zH2 (b1 b2 : Bool) (h : Heap) (l1 l2 : Addr) : Heap := (zH1 b1 h l1).push (itO b2 l2)
abbrev zH3 (b1 b2 : Bool) (h : Heap) (l1 l2 : Addr) : Heap := (zH2 b1 b2 h l1 l2).push { cls := .type "tuple", data := .seq #[.ref h.objs.size, .ref (zH1 b1 h l1).objs.size] }
abbrev zH4 (b1 b2 : Bool) (h : Heap) (l1 l2 : Addr) : Heap := (zH3 b1 b2 h l1 l2).push { cls := .type "tuple", data := .seq #[.none, .none] }
abbrev zH5 (b1 b2 : Bool) (h : Heap) (l1 l2 : Addr) : Heap := (zH4 b1 b2 h l1 l2).push { cls := .type "zip", data := .fields #[.none, .bool false, .bool false, .ref (zH2 b1 b2 h l1 l2).objs.size, .ref (zH3 b1 b2 h l1 l2).objs.size] }
section
variable {prog : Program} {w : World} {A : Around} {E : Value → Shared → Prop} {s : Shared} {b1 b2 : Bool}
end
end ZP
/-! ZZM: zip of a tuple and a list, walked. -/
namespace ZP
open PySem PySem.W PySem.Calls PyProof.Rows
theorem SIt.obj {b : Bool} {h : Heap} {it l : Addr} {i : Nat} (x : SIt b h it l i) : ∃ o, h.get? it = some o ∧ ∀ v, o.data ≠ .cell v := by
  cases b
  · obtain ⟨o, e, _, d⟩ := (show h.IsTupleIter it l i from x)
    exact ⟨o, e, fun v q => by rw [d] at q; cases q⟩
  · obtain ⟨o, e, _, d⟩ := (show h.IsListIter it l i from x)
    exact ⟨o, e, fun v q => by rw [d] at q; cases q⟩
end ZP
namespace Z
open PySem PySem.Spec PyProof.Rows L2
section
variable {prog : Program} {w : World} {A : Around} {E : Value → Shared → Prop} {s : Shared} {b1 b2 : Bool}
end
end Z
/-! ZNA: sorted's name. -/
namespace Z
open PySem PySem.Spec PyProof.Rows L2
theorem zb_OverflowError : bootBuiltins "OverflowError" = some (.type "OverflowError") := by decide +kernel
/-! ### turns, one by one -/
section
variable {g : GM} {body : SS} {x : Itm} {k i : Nat} {ro ro1 ro2 : En} {h h1 h2 : HH} {w v : Val} {e : Ex}
theorem nxt_st {xs : List Val} : nxt (.st xs) i h = some xs[i]? := rfl
end
end Z
namespace PySem
namespace NX_NoPart
open PySem.W PySem.Calls PyProof.Rows PySem.HandSPX
/-! ### the text of __init__ -/
def iA (p1 p2 : Pos) : Arguments := { posonlyargs := [], args := [{ arg := "self", annotation := none, pos := p1 }, { arg := "name", annotation := none, pos := p2 }], vararg := none, kwonlyargs := [], kw_defaults := [], kwarg := none, defaults := [] }
def iB (q1 q2 q3 q4 : Pos) : List Stmt := [.Assign [.Attribute (.Name "self" q1) "name" q2] (.Name "name" q3) q4]
def iS : Scope := { kind := .function, names := [(PySem.Str.ofString "self", .local), (PySem.Str.ofString "name", .local)], isGenerator := false, isCoroutine := false, more := [] }
/-- what the written part says of NoPart, at C, and of its __init__, at fI -/
structure XTxt (K : Frag) (mg : Str → Option Value) (C fI : Addr) : Prop where
  gC : mg "NoPart" = some (.ref C)
  cls : ∃ nm q N bs bm sn sub ab col dd k0 k1 k2 k3 k5, K.lookup C = some (excClassObj nm q C N bs bm true sn sub ab col dd k0 k1 k2 k3 k5 "LookupError.__new__") ∧ refsT tlKeyError bm = true
  sa : findIn K (.ref C) "__setattr__" = some (some (.builtin "object.__setattr__"))
  ga : findIn K (.ref C) "__getattribute__" = some (some (.builtin "BaseException.__getattribute__"))
  gg : findIn K (.ref C) "__getattr__" = some none
  noN : findIn K (.ref C) "name" = some none
  iC : findIn K (.ref C) "__init__" = some (some (.ref fI))
  tC : typeIn K (.ref fI) = some (.type "function")
  kC : keepIn K (.ref C) = true
  exC : subIn K (.ref C) (.type "BaseException") = some true
  tyC : typeIn K (.ref C) = some (.type "type")
  hdC : hasDictIn K C = true
  te : exmOne K (.ref C) (.ref C) = some true
  fn : ∃ (oc : Value) (od : Option Addr) (doc pm : Value) (an : Option Addr) (cdv ct : Value) (osl : Array (Option Value)) (p1 p2 q1 q2 q3 q4 : Pos),
    K.lookup fI = some ⟨oc, od, .func (fnOf "__init__" "NoPart.__init__" (iA p1 p2) (iB q1 q2 q3 q4) iS .none .none doc pm an cdv ct), osl⟩ ∧ codeIn K cdv "NoPart.__init__" = true
theorem one_size (v : Value) : [v].length ≤ sizeLine := by
  rw [sizeLine_eq]
  exact (by decide : 1 ≤ 16777216)
theorem kept_but {K : Frag} {h h' : Heap} {x : Addr} (X : K.In h) (hx : K.lookup x = none) (k : ∀ b o, b ≠ x → h.get? b = some o → h'.get? b = some o) : K.In h' := fun a o e =>
  k a o (fun z => by rw [z, hx] at e; cases e) (X a o e)
theorem ldC {M : Model} {s : Shared} {name : Str} {scope : Scope} {L a : Addr} {cd : Value} {m : Str → Option Value} {x : Str} {pos : Pos} {v : Value} {Q : Value → Shared → Prop} {A : Around} {E : Value → Shared → Prop} (hn : s.heap.Ns L m) (hv : m x = some v) (h : Q v s)
    (hk : scope.kind = .function := by rfl) (hl : (envOfC name scope L a cd).kindOf x = some .local := by rfl) (hd : (x == ("__debug__" : Str)) = false := by decide) :
    wpAny M A (eval (.Name x pos) (envOfC name scope L a cd)) Q E s := wpAny_Name (wpAny_loadName_local hk hl hn hv h) hd
/-- what __init__ leaves of a fresh exception at x -/
structure InitEnd (h h' : Heap) (x C dx t1 : Addr) (v : Value) : Prop where
  keep : ∀ b o, b ≠ x → h.get? b = some o → h'.get? b = some o
  obj : h'.get? x = some { cls := .ref C, dict := some dx, data := .fields #[.ref t1, .none, .none, .none, .bool false, .none] }
  dbig : h.objs.size ≤ dx
  dne : dx ≠ x
  ns : h'.Ns1 dx (fun y => if y = "name" then some v else none)
/-- a made NoPart -/
structure OwnMade (h h' : Heap) (e C d : Addr) (v : Value) : Prop where
  keep : ∀ b o, h.get? b = some o → h'.get? b = some o
  new : h.objs.size ≤ e
  obj : ∃ oe vs, h'.get? e = some oe ∧ oe.cls = .ref C ∧ oe.dict = some d ∧ oe.data = .fields vs ∧ vs[1]? = some .none ∧ vs[2]? = some .none ∧ 4 < vs.size
  dbig : h.objs.size ≤ d
  dne : d ≠ e
  ns : h'.Ns1 d (fun y => if y = "name" then some v else none)
section
variable {prog : Program} {w : World} {A : Around} {E : Value → Shared → Prop} {R : Result → Shared → Prop} {s : Shared} {K : Frag} {mg : Str → Option Value} {C fI : Addr}
theorem x_init (T : XTxt K mg C fI) {x t0 : Addr} {v : Value} (X : K.In s.heap) (hlim : s.heap.NoLimit) (hx : s.heap.get? x = some (excO C t0)) (hnx : K.lookup x = none) (hroom : A.depth < recursionLimit)
    (hq : ∀ h' tk dx, InitEnd s.heap h' x C dx t0 v → R (.ok (.ret .none)) { s with heap := h', toks := tk }) :
    codeAny (model prog w) A (.call (.ref fI) ⟨[.ref x, v], []⟩) R s := by
  obtain ⟨oc, od, doc, pm, an, cdv, ct, osl, p1, p2, q1, q2, q3, q4, ho, hcd⟩ := T.fn
  obtain ⟨nm, q, N, bs, bm, sn, sub, ab, col, dd, k0, k1, k2, k3, k5, hC, hbm⟩ := T.cls
  have hcl : clsIn K C = some { name := nm, bases := bs, mro := .ref C :: bm, ns := N, qualname := q, hasDict := true, slotNames := sn, subclasses := sub, abstract := ab, collection := col, hasDel := false } := by unfold clsIn; rw [hC] <;> rfl
  refine Att.call_fn (binds := [("self", .ref x), ("name", v)]) X hlim ho hcd hroom (BindsTo.of_eq (by first | rfl | with_unfolding_all rfl)) (by first | rfl | decide | with_unfolding_all rfl) (fun s₁ IC => ?_) rfl rfl rfl
  obtain ⟨h₁, tk₁, rfl⟩ := IC.toInCall.same
  have k : ∀ b o, s.heap.get? b = some o → h₁.get? b = some o := IC.toInCall.keep
  have hn := IC.toInCall.ns
  have hxL : s.heap.objs.size ≠ x := Nat.ne_of_gt (Heap.lt_size hx)
  have X₁ : K.In h₁ := X.keeps k
  have hx₁ := k _ _ hx
  -- self.by = by
  show wpAny _ _ (execs _ _) _ _ _
  refine wpAny_execs_cons (plainObj_wpAny_Assign_Attribute ?_)
  refine ldC (v := v) hn (by first | rfl | with_unfolding_all rfl | kernel_rfl) (ldC (v := .ref x) hn (by first | rfl | with_unfolding_all rfl | kernel_rfl) ?_)
  refine set_plain X₁ (ox := excO C t0) (od := none) ⟨hx₁, rfl, rfl, trivial⟩ T.sa ?_
  refine exc_osaT tlKeyError_pass (by decide) (by decide) X₁ hx₁ hcl (show refsT tlKeyError (.ref C :: bm) = true from hbm) rfl T.noN (fun h₃ tk₃ dx k₃ dn dne hx₃ hn₃ => ?_)
  show wpAny _ _ (execs _ _) _ _ _
  have z : s.heap.objs.size < h₁.objs.size := hn.lt
  exact wpAny_execs_nil (hq h₃ tk₃ dx ⟨fun b o hb e => k₃ b o hb (k b o e), hx₃, Nat.le_of_lt (Nat.lt_of_lt_of_le z dn), dne, hn₃⟩)
theorem x_made (T : XTxt K mg C fI) {v : Value} (X : K.In s.heap) (hlim : s.heap.NoLimit) (hroom : A.depth + 1 < recursionLimit)
    (hq : ∀ h' tk e d, OwnMade s.heap h' e C d v → R (.ok (.ret (.ref e))) { s with heap := h', toks := tk }) :
    codeAny (model prog w) A (.call (.ref C) ⟨[v], []⟩) R s := by
  obtain ⟨nm, q, N, bs, bm, sn, sub, ab, col, dd, k0, k1, k2, k3, k5, hC, hbm⟩ := T.cls
  obtain ⟨hp, g, dr, tk, os⟩ := s
  have k : ∀ b o, hp.get? b = some o → ((hp.push (kdv_tup [v])).push (excO C hp.objs.size)).get? b = some o := fun b o e => Heap.get?_push_of_some _ (Heap.get?_push_of_some _ e)
  have hget : ((hp.push (kdv_tup [v])).push (excO C hp.objs.size)).get? (hp.objs.size + 1) = some (excO C hp.objs.size) := by heap_get
  have hnx : K.lookup (hp.objs.size + 1) = none := by
    cases e : K.lookup (hp.objs.size + 1) with
    | none => rfl
    | some o =>
      have z : hp.get? (hp.objs.size + 1) = some o := X _ _ e
      exact absurd (Nat.lt_of_succ_lt (Heap.lt_size z)) (Nat.lt_irrefl _)
  refine callK F.excBase_LookupError (asksK hbm) (X _ _ hC) (looks_findIn X T.iC) (fun self => bind_fn X self T.tC) (one_size v) ?_
  refine x_init (s := ⟨(hp.push (kdv_tup [v])).push (excO C hp.objs.size), g, dr, tk, os⟩) T (X.keeps k) (hlim.keeps k) hget hnx ?_ fun h' tk' dx ⟨k', hx, dn, dne, hns⟩ => ?_
  · show A.depth + 1 < recursionLimit
    exact hroom
  · have old : ∀ b o, hp.get? b = some o → h'.get? b = some o := fun b o e => k' b o (Nat.ne_of_lt (Nat.lt_succ_of_lt (Heap.lt_size e))) (k b o e)
    have z : hp.objs.size + 1 + 1 ≤ dx := by
      first
        | (simpa only [Heap.size_push] using dn)
        | exact dn
        | (have q := dn; rw [Heap.size_push, Heap.size_push] at q; exact q)
    exact ⟨rfl, hq h' tk' (hp.objs.size + 1) dx ⟨old, Nat.le_succ _, ⟨_, _, hx, rfl, rfl, rfl, rfl, rfl, (show 4 < 6 from by decide)⟩, Nat.le_trans (Nat.le_trans (Nat.le_succ _) (Nat.le_succ _)) z, dne, hns⟩⟩
end
end NX_NoPart
end PySem
namespace L2
open PySem PySem.Spec PyProof.Rows
theorem relO_nt_NoPart {v : V} {v' : Value} (r : RelV v v') (f : Str) : RelO (List.lookup f [(("name" : Str), v)]) (if f = "name" then some v' else none) := by
  by_cases hw : f = "name"
  · subst hw
    rw [if_pos rfl]
    have q : List.lookup ("name" : Str) [(("name" : Str), v)] = some v := by simp [List.lookup]
    rw [q]
    exact r
  · rw [if_neg hw]
    have qw : (f == ("name" : Str)) = false := by simpa using hw
    have q2 : List.lookup f [(("name" : Str), v)] = none := by simp [List.lookup, qw]
    rw [q2]
    trivial
section
variable {X : Cx} {C fI : Addr}
/-- NoPart(e) -/
def tMkNt_NoPart (C : Addr) (ta : TA) : St → Hp → XK → Prop := fun σ H Q => ta σ H fun vs H1 => ∃ v, vs = [v] ∧ ∀ d, H1 d = none → Q (.ref C) (some d) (upd H1 d (.xd [(("name" : Str), v)]))
theorem pmk6_nt_NoPart {a : Expr} {ta : TA} {p pos : Pos} (T : PySem.NX_NoPart.XTxt X.K X.mg C fI) (hdp : X.A.depth + 1 < recursionLimit) (ha : PA X [a] ta) (hg : Gl X "NoPart" := by rfl)
    (he : starEach (a :: []) X.env = (false, eval a X.env) :: starEach [] X.env := by rfl) (hpl : (backTo pos (starEach [] X.env)).any (·.1) = false := by rfl) :
    PMk6 X (.Call (.Name "NoPart" p) [a] [] pos) (tMkNt_NoPart C ta) := by
  intro pins s σ H Q I h
  refine wpAny_Call_Name_kw (ld_glob I hg T.gC ?_)
  refine PySem.W.callWith_K (h₀ := X.base) I.ok.mod.kin T.kC (thn (ha.run pos pins s σ H _ I h) fun us s1 hh => ?_) he hpl
  obtain ⟨vs, H1, I1, r1, v, ev, q1⟩ := hh
  subst ev
  refine ⟨I1.kIn, ?_⟩
  cases r1 with
  | cons rv rn =>
    rename_i v' us'
    cases rn
    show wpAny _ _ (call (.ref C) [v']) _ _ _
    have hlim := I1.nolimit
    obtain ⟨hp, g, dr, tk, os⟩ := s1
    refine wpAny_call (PySem.NX_NoPart.x_made T I1.kIn hlim hdp fun h' tk' e d M => ?_)
    show L2N.MkP X pins σ Q (.ref e) ⟨h', g, dr, tk', os⟩ ∧ L2H.Six (.ref e) ⟨h', g, dr, tk', os⟩
    obtain ⟨oe, fv, hoe, hc, hd, hdat, h1, h2c, h5⟩ := M.obj
    have hns := M.ns
    obtain ⟨G', g1, g2⟩ := restrict h' fun b => decide (b ≠ e)
    have gk : ∀ b, b ≠ e → G'.get? b = h'.get? b := fun b hb => g1 b (decide_eq_true hb)
    have ge : G'.get? e = none := g2 e (by simp)
    have old : ∀ b o, hp.get? b = some o → G'.get? b = some o := fun b o q => (gk b (Nat.ne_of_lt (Nat.lt_of_lt_of_le (Heap.lt_size q) M.new))).trans (M.keep b o q)
    have ob : ObjOk X.prog X.w (upd H1 d (.xd [(("name" : Str), v)])) G' d (.xd [(("name" : Str), v)]) :=
      ⟨_, hns.at (fun o q => (gk d M.dne).trans q), fun f => relO_nt_NoPart rv f⟩
    have J : Inv X pins σ (upd H1 d (.xd [(("name" : Str), v)])) ⟨G', g, dr, tk', os⟩ := I1.laid (t' := tk') old M.dbig ob
    refine ⟨⟨e, oe, fv, ⟨G', g, dr, tk', os⟩, _, .ref C, some d, rfl, J, fun b o q => ?_, ge, hoe, ⟨hc, hd, fun ws e => (by rw [hdat] at e; cases e; exact h2c)⟩, hdat, h1, ?_, rfl, I1.bare, raises_own T.exC T.tyC, q1 d (I1.hok.fresh M.dbig)⟩, fun a2 oe2 vs2 ea hg hd2 => (by cases ea; have z : some oe = some oe2 := hoe.symm.trans hg; cases z; rw [hdat] at hd2; cases hd2; exact h5)⟩
    · by_cases hb : b = e
      · have q' : G'.get? b = some o := q
        rw [hb, ge] at q'; cases q'
      · exact (gk b hb).symm.trans q
    · rw [upd_ne (Ne.symm M.dne)]
      exact I1.hok.fresh M.new
theorem pmk_nt_NoPart {a : Expr} {ta : TA} {p pos : Pos} {k : Nat} (T : PySem.NX_NoPart.XTxt X.K X.mg C fI) (hr : Room k X.A) (ha : PA X [a] ta) (hg : Gl X "NoPart" := by rfl)
    (he : starEach (a :: []) X.env = (false, eval a X.env) :: starEach [] X.env := by rfl) (hpl : (backTo pos (starEach [] X.env)).any (·.1) = false := by rfl) :
    L2N.PMk X (.Call (.Name "NoPart" p) [a] [] pos) (tMkNt_NoPart C ta) := (pmk6_nt_NoPart T (by have := hr.dp; omega) ha hg he hpl).pmk
/-- raise NoPart(e) -/
def tRaiseNt_NoPart (C : Addr) (W : WX) (ta : TA) : TS := fun _ σ H => tMkNt_NoPart C ta σ H fun cls d H' => W cls d σ H'
theorem ps_raiseNt_NoPart {a : Expr} {ta : TA} {W : WX} {p pos pos2 : Pos} {k : Nat} (hc : X.calm = true) (T : PySem.NX_NoPart.XTxt X.K X.mg C fI) (hr : Room k X.A) (tk : L3.Takes X W) (ha : PA X [a] ta) (hg : Gl X "NoPart" := by rfl)
    (he : starEach (a :: []) X.env = (false, eval a X.env) :: starEach [] X.env := by rfl) (hpl : (backTo pos (starEach [] X.env)).any (·.1) = false := by rfl) :
    PS X (.Raise (some (.Call (.Name "NoPart" p) [a] [] pos)) none pos2) (tRaiseNt_NoPart C W ta) := L2N.ps_raise hc tk.toN (pmk_nt_NoPart T hr ha hg he hpl)
end
end L2
namespace Z
open PySem PySem.Spec PyProof.Rows L2
section
variable {X : Cx} {W : WX} {pos : Pos}
theorem os_raiseNt_NoPart {a : Expr} {C fI : Addr} {k : Nat} {p pos2 : Pos} {m : SE} (hc : X.calm = true) (T : PySem.NX_NoPart.XTxt X.K X.mg C fI) (hr : Room k X.A) (tk : L3.Takes X W) (ha : PE X a (tE X.K W m)) (hg : Gl X "NoPart")
    (he : starEach (a :: []) X.env = (false, eval a X.env) :: starEach [] X.env) (hpl : (backTo pos (starEach [] X.env)).any (·.1) = false) :
    PS X (.Raise (some (.Call (.Name "NoPart" p) [a] [] pos)) none pos2) (tS X.K W (nRaiseF C "name" m)) := by
  refine PS.weak (ps_raiseNt_NoPart hc T hr tk (pa_cons ha pa_nil he) hg he hpl) ?_
  rintro D sg H ⟨al, B, ro, h, S, p⟩
  refine ⟨al, B, ro, h, S, Po.mono (Ps.bind S p) fun v H1 ⟨al1, h1, w, st, hr1, r, q⟩ => ?_⟩
  refine ⟨v, rfl, fun d hd => ?_⟩
  have st2 : Stp al1 H1 al1 (upd H1 d (.xd [(("name" : Str), v)])) := Stp.lay hd
  exact q al1 sg _ st2 ((S.step st hr1).step st2 (hr1.lay hd)) _ _ ⟨rfl, fun z => (by cases z), fun _ => ⟨d, _, rfl, upd_same, (hr1.fresh hd).1, (hr1.fresh hd).2, rfl, .cons (r.step st2) .nil⟩⟩
theorem os_raiseFrom_NoPart {a : Expr} {C fI : Addr} {p pos2 : Pos} {m : SE} {n : Str} {i : Nat} {a1 : Addr} {o1 : Obj} {v1 : Array Value} {np : Pos} (T : PySem.NX_NoPart.XTxt X.K X.mg C fI) (hdp : X.A.depth + 1 < recursionLimit)
    (hh : X.A.handled = some (.ref a1)) (hp : (a1, o1) ∈ X.pn) (d1 : o1.data = .fields v1) (c1 : v1[2]? = some .none) (B1 : ∀ (M : Model) (h : Heap), X.K.In h → PySem.W.Looks M h (isSubtype o1.cls (.type "BaseException")) true)
    (hi : X.N[i]? = some n) (hln : X.env.kindOf n = some .local) (hlv : X.env.scope.names.lookup n = some .local) (hdb : (n == ("__debug__" : Str)) = false) (tk : L3.Takes X W) (ha : PE X a (tE X.K W m)) (hg : Gl X "NoPart")
    (he : starEach (a :: []) X.env = (false, eval a X.env) :: starEach [] X.env) (hpl : (backTo pos (starEach [] X.env)).any (·.1) = false) :
    PS X (.Raise (some (.Call (.Name "NoPart" p) [a] [] pos)) (some (.Name n np)) pos2) (tS X.K W (nRaiseFr i a1 C "name" m)) := by
  refine PS.weak (ps_raiseFrom hh hp d1 c1 B1 hi hln hlv hdb tk (pmk6_nt_NoPart T hdp (pa_cons ha pa_nil he) hg he hpl)) ?_
  rintro D sg H ⟨al, B, ro, h, S, p⟩
  unfold nRaiseFr at p
  split at p
  · rename_i e1
    refine ⟨isExS_sim S e1, al, B, ro, h, S, Po.mono (Ps.bind S p) fun v H1 ⟨al1, h1, w, st, hr1, r, q⟩ => ?_⟩
    refine ⟨v, rfl, fun d hd => ?_⟩
    have st2 : Stp al1 H1 al1 (upd H1 d (.xd [(("name" : Str), v)])) := Stp.lay hd
    exact q al1 sg _ st2 ((S.step st hr1).step st2 (hr1.lay hd)) _ _ ⟨rfl, fun z => (by cases z), fun _ => ⟨d, _, rfl, upd_same, (hr1.fresh hd).1, (hr1.fresh hd).2, rfl, .cons (r.step st2) .nil⟩⟩
  · exact p.elim
end
theorem fld_NoPart {K : PySem.W.Frag} {mg : Str → Option Value} {C fI : Addr} (T : PySem.NX_NoPart.XTxt K mg C fI) : XfC K C := ⟨T.ga, T.gg, T.exC, T.hdC⟩
end Z
namespace PySem
namespace NX_Unsound
open PySem.W PySem.Calls PyProof.Rows PySem.HandSPX PySem.NtX
def iA (p1 p2 p3 : Pos) : Arguments := { posonlyargs := [], args := [{ arg := "self", annotation := none, pos := p1 }, { arg := "part", annotation := none, pos := p2 }, { arg := "paper", annotation := none, pos := p3 }], vararg := none, kwonlyargs := [], kw_defaults := [], kwarg := none, defaults := [] }
def iB (q1 q2 q3 q4 r1 r2 r3 r4 : Pos) : List Stmt := [.Assign [.Attribute (.Name "self" q1) "part" q2] (.Name "part" q3) q4, .Assign [.Attribute (.Name "self" r1) "paper" r2] (.Name "paper" r3) r4]
def iS : Scope := { kind := .function, names := [(PySem.Str.ofString "self", .local), (PySem.Str.ofString "part", .local), (PySem.Str.ofString "paper", .local)], isGenerator := false, isCoroutine := false, more := [] }
structure XTxt (K : Frag) (mg : Str → Option Value) (C fI : Addr) : Prop where
  gC : mg "Unsound" = some (.ref C)
  cls : ∃ nm q N bs bm sn sub ab col dd k0 k1 k2 k3 k5, K.lookup C = some (excClassObj nm q C N bs bm true sn sub ab col dd k0 k1 k2 k3 k5 "ValueError.__new__") ∧ refsVE bm = true
  sa : findIn K (.ref C) "__setattr__" = some (some (.builtin "object.__setattr__"))
  ga : findIn K (.ref C) "__getattribute__" = some (some (.builtin "BaseException.__getattribute__"))
  gg : findIn K (.ref C) "__getattr__" = some none
  noN : findIn K (.ref C) "part" = some none
  noM : findIn K (.ref C) "paper" = some none
  iC : findIn K (.ref C) "__init__" = some (some (.ref fI))
  tC : typeIn K (.ref fI) = some (.type "function")
  kC : keepIn K (.ref C) = true
  exC : subIn K (.ref C) (.type "BaseException") = some true
  tyC : typeIn K (.ref C) = some (.type "type")
  hdC : hasDictIn K C = true
  te : exmOne K (.ref C) (.ref C) = some true
  fn : ∃ (oc : Value) (od : Option Addr) (doc pm : Value) (an : Option Addr) (cdv ct : Value) (osl : Array (Option Value)) (p1 p2 p3 q1 q2 q3 q4 r1 r2 r3 r4 : Pos),
    K.lookup fI = some ⟨oc, od, .func (fnOf "__init__" "Unsound.__init__" (iA p1 p2 p3) (iB q1 q2 q3 q4 r1 r2 r3 r4) iS .none .none doc pm an cdv ct), osl⟩ ∧ codeIn K cdv "Unsound.__init__" = true
theorem two_size (v w : Value) : [v, w].length ≤ sizeLine := by
  rw [sizeLine_eq]
  exact (by decide : 2 ≤ 16777216)
structure InitEnd (h h' : Heap) (x C dx t1 : Addr) (v w : Value) : Prop where
  keep : ∀ b o, b ≠ x → h.get? b = some o → h'.get? b = some o
  obj : h'.get? x = some { cls := .ref C, dict := some dx, data := .fields #[.ref t1, .none, .none, .none, .bool false, .none] }
  dbig : h.objs.size ≤ dx
  dne : dx ≠ x
  ns : h'.Ns1 dx (fun y => if y = "paper" then some w else if y = "part" then some v else none)
structure OwnMade (h h' : Heap) (e C d : Addr) (v w : Value) : Prop where
  keep : ∀ b o, h.get? b = some o → h'.get? b = some o
  new : h.objs.size ≤ e
  obj : ∃ oe vs, h'.get? e = some oe ∧ oe.cls = .ref C ∧ oe.dict = some d ∧ oe.data = .fields vs ∧ vs[1]? = some .none ∧ vs[2]? = some .none
  dbig : h.objs.size ≤ d
  dne : d ≠ e
  ns : h'.Ns1 d (fun y => if y = "paper" then some w else if y = "part" then some v else none)
section
variable {prog : Program} {w : World} {A : Around} {E : Value → Shared → Prop} {R : Result → Shared → Prop} {s : Shared} {K : Frag} {mg : Str → Option Value} {C fI : Addr}
theorem x_init (T : XTxt K mg C fI) {x t0 : Addr} {v v2 : Value} (X : K.In s.heap) (hlim : s.heap.NoLimit) (hx : s.heap.get? x = some (excO C t0)) (hnx : K.lookup x = none) (hroom : A.depth < recursionLimit)
    (hq : ∀ h' tk dx, InitEnd s.heap h' x C dx t0 v v2 → R (.ok (.ret .none)) { s with heap := h', toks := tk }) :
    codeAny (model prog w) A (.call (.ref fI) ⟨[.ref x, v, v2], []⟩) R s := by
  obtain ⟨oc, od, doc, pm, an, cdv, ct, osl, p1, p2, p3, q1, q2, q3, q4, r1, r2, r3, r4, ho, hcd⟩ := T.fn
  obtain ⟨nm, q, N, bs, bm, sn, sub, ab, col, dd, k0, k1, k2, k3, k5, hC, hbm⟩ := T.cls
  have hcl : clsIn K C = some { name := nm, bases := bs, mro := .ref C :: bm, ns := N, qualname := q, hasDict := true, slotNames := sn, subclasses := sub, abstract := ab, collection := col, hasDel := false } := by unfold clsIn; rw [hC] <;> rfl
  refine Att.call_fn (binds := [("self", .ref x), ("part", v), ("paper", v2)]) X hlim ho hcd hroom (BindsTo.of_eq (by first | rfl | with_unfolding_all rfl)) (by first | rfl | decide | with_unfolding_all rfl) (fun s₁ IC => ?_) rfl rfl rfl
  obtain ⟨h₁, tk₁, rfl⟩ := IC.toInCall.same
  have k : ∀ b o, s.heap.get? b = some o → h₁.get? b = some o := IC.toInCall.keep
  have hn := IC.toInCall.ns
  have hxL : s.heap.objs.size ≠ x := Nat.ne_of_gt (Heap.lt_size hx)
  have X₁ : K.In h₁ := X.keeps k
  have hx₁ := k _ _ hx
  show wpAny _ _ (execs _ _) _ _ _
  refine wpAny_execs_cons (plainObj_wpAny_Assign_Attribute ?_)
  refine ldC (v := v) hn (by first | rfl | with_unfolding_all rfl | kernel_rfl) (ldC (v := .ref x) hn (by first | rfl | with_unfolding_all rfl | kernel_rfl) ?_)
  refine set_plain X₁ (ox := excO C t0) (od := none) ⟨hx₁, rfl, rfl, trivial⟩ T.sa ?_
  refine exc_osa X₁ hx₁ hcl (show refsVE (.ref C :: bm) = true from hbm) rfl T.noN (fun h₃ tk₃ dx k₃ dn dne hx₃ hn₃ => ?_)
  have z : s.heap.objs.size < h₁.objs.size := hn.lt
  have X₃ : K.In h₃ := kept_but X₁ hnx k₃
  have hnL : h₃.Ns s.heap.objs.size _ := hn.at fun o q => k₃ _ _ hxL q
  have w1 : Within (fun y => if y = ("part" : Str) then some v else none) ["part"] := fun y hy => by
    by_cases c : y = "part"
    · rw [c]; exact List.mem_singleton.mpr rfl
    · exact absurd (if_neg c) hy
  obtain ⟨oD, esD, epD, hoD, hdD, _⟩ := hn₃.count w1
  show wpAny _ _ (execs _ _) _ _ _
  refine wpAny_execs_cons (plainObj_wpAny_Assign_Attribute ?_)
  refine ldC (v := v2) hnL (by first | rfl | with_unfolding_all rfl | kernel_rfl) (ldC (v := .ref x) hnL (by first | rfl | with_unfolding_all rfl | kernel_rfl) ?_)
  refine set_plain X₃ (ox := { cls := .ref C, dict := some dx, data := .fields #[.ref t0, .none, .none, .none, .bool false, .none] }) (od := some oD) ⟨hx₃, rfl, rfl, hoD⟩ T.sa ?_
  refine PySem.OEX.osa_old X₃ hx₃ hn₃ w1 (by decide) hcl (show refsVE (.ref C :: bm) = true from hbm) rfl T.noM (fun h₅ tk₅ k₅ hn₅ => ?_)
  show wpAny _ _ (execs _ _) _ _ _
  refine wpAny_execs_nil (hq h₅ tk₅ dx ⟨fun b o hb e => k₅ b o ?_ (k₃ b o hb (k b o e)), k₅ x _ (Ne.symm dne) hx₃, Nat.le_of_lt (Nat.lt_of_lt_of_le z dn), dne, hn₅⟩)
  have l1 := Heap.lt_size e
  exact Nat.ne_of_lt (Nat.lt_trans l1 (Nat.lt_of_lt_of_le z dn))
theorem x_made (T : XTxt K mg C fI) {v v2 : Value} (X : K.In s.heap) (hlim : s.heap.NoLimit) (hroom : A.depth + 1 < recursionLimit)
    (hq : ∀ h' tk e d, OwnMade s.heap h' e C d v v2 → R (.ok (.ret (.ref e))) { s with heap := h', toks := tk }) :
    codeAny (model prog w) A (.call (.ref C) ⟨[v, v2], []⟩) R s := by
  obtain ⟨nm, q, N, bs, bm, sn, sub, ab, col, dd, k0, k1, k2, k3, k5, hC, hbm⟩ := T.cls
  obtain ⟨hp, g, dr, tk, os⟩ := s
  have k : ∀ b o, hp.get? b = some o → ((hp.push (kdv_tup [v, v2])).push (excO C hp.objs.size)).get? b = some o := fun b o e => Heap.get?_push_of_some _ (Heap.get?_push_of_some _ e)
  have hget : ((hp.push (kdv_tup [v, v2])).push (excO C hp.objs.size)).get? (hp.objs.size + 1) = some (excO C hp.objs.size) := by heap_get
  have hnx : K.lookup (hp.objs.size + 1) = none := by
    cases e : K.lookup (hp.objs.size + 1) with
    | none => rfl
    | some o =>
      have z : hp.get? (hp.objs.size + 1) = some o := X _ _ e
      exact absurd (Nat.lt_of_succ_lt (Heap.lt_size z)) (Nat.lt_irrefl _)
  refine call_own F.excBase_ValueError (fun X => refsVE_contains X bm hbm) (X _ _ hC) (looks_findIn X T.iC) (fun self => bind_fn X self T.tC) (two_size v v2) ?_
  refine x_init (s := ⟨(hp.push (kdv_tup [v, v2])).push (excO C hp.objs.size), g, dr, tk, os⟩) T (X.keeps k) (hlim.keeps k) hget hnx ?_ fun h' tk' dx ⟨k', hx, dn, dne, hns⟩ => ?_
  · show A.depth + 1 < recursionLimit
    exact hroom
  · have old : ∀ b o, hp.get? b = some o → h'.get? b = some o := fun b o e => k' b o (Nat.ne_of_lt (Nat.lt_succ_of_lt (Heap.lt_size e))) (k b o e)
    have z : hp.objs.size + 1 + 1 ≤ dx := by
      first
        | (simpa only [Heap.size_push] using dn)
        | exact dn
        | (have q := dn; rw [Heap.size_push, Heap.size_push] at q; exact q)
    exact ⟨rfl, hq h' tk' (hp.objs.size + 1) dx ⟨old, Nat.le_succ _, ⟨_, _, hx, rfl, rfl, rfl, rfl, rfl⟩, Nat.le_trans (Nat.le_trans (Nat.le_succ _) (Nat.le_succ _)) z, dne, hns⟩⟩
end
end NX_Unsound
end PySem
namespace L2
open PySem PySem.Spec PyProof.Rows
section
variable {X : Cx} {C fI : Addr}
end
end L2
namespace Z
open PySem PySem.Spec PyProof.Rows L2
section
variable {X : Cx} {W : WX} {pos : Pos}
def nRaise_Unsound (C : Addr) (m m2 : SE) : SS := fun ro h => sbind (m ro h) ro fun w h1 => sbind (m2 ro h1) ro fun w2 h2 => .go (.ex ⟨.ref C, [("part", w), ("paper", w2)]⟩) ro h2
end
end Z
/-! ZP4: pairs of a text and an int in order; sorted(zip(texts, ints)). -/
namespace ZP
open PySem PySem.W PySem.Calls PyProof.Rows SrtO Srt
/-- a pair of a text and an int -/
def PSI (h : Heap) (v : Value) (k : Str × Int) : Prop := ∃ a o t u n, v = .ref a ∧ h.get? a = some o ∧ o.cls = .type "tuple" ∧ o.data = .seq #[.str k.1 t, .int k.2 u] n
theorem PSI.keeps {h h' : Heap} {v : Value} {k : Str × Int} (p : PSI h v k) (g : ∀ b o, h.get? b = some o → o.cls = .type "tuple" → h'.get? b = some o) : PSI h' v k := by
  obtain ⟨a, o, t, u, n, e, ho, hc, hd⟩ := p
  exact ⟨a, o, t, u, n, e, g _ _ ho hc, hc, hd⟩
section
variable {prog : Program} {w : World} {A : Around} {E : Value → Shared → Prop} {s : Shared}
end
end ZP
/-! ZIX: list.index of flat things; // by negative great numbers. -/
namespace Z
open PySem PySem.Spec PyProof.Rows L2
/-! ### // -/
def CDivNW (_ j : Int) : Prop := j ≠ 0 ∧ j.natAbs.log2 < 9000
instance {i j : Int} : Decidable (CDivNW i j) := by unfold CDivNW; infer_instance
/-! ### index -/
def idxF (y : Val) : List Val → Nat → Option Nat
  | [], _ => none
  | x :: xs, j => if eqF x y = true then some j else idxF y xs (j + 1)
def mIdxL (w : Val) (ws : List Val) : M Val := fun h => match w, ws with
  | .lst xs, [y] => if flat y = true ∧ xs.all flat = true then match idxF y xs 0 with
    | some j => .ok (.int (j : Nat)) h
    | none => .bad
    else .bad
  | _, _ => .bad
theorem idx_rep {K : PySem.W.Frag} {al B : List Addr} {H : Hp} {y : Val} {v : V} (ry : Rep K al B H y v) (fy : flat y = true) : ∀ {xs : List Val} {vs : List V} {k j : Nat}, Reps K al B H xs vs → xs.all flat = true → idxF y xs k = some j →
    ∃ z, k ≤ j ∧ vs[j - k]? = some z ∧ eqV z v = true ∧ ∀ (m : Nat) (z' : V), m < j - k → vs[m]? = some z' → eqV z' v = false
  | [], _, k, j, .nil, _, e => by cases e
  | x :: xs, _, k, j, .cons (v := u) (vs := vs) a r, f, e => by
    rw [List.all_cons, Bool.and_eq_true] at f
    have e' : (if eqF x y = true then some k else idxF y xs (k + 1)) = some j := e
    have er : eqF x y = eqV u v := (eqF_rep a ry f.1 fy).symm
    by_cases c : eqF x y = true
    · rw [if_pos c] at e'
      cases e'
      exact ⟨u, Nat.le_refl _, by rw [Nat.sub_self]; rfl, by rw [← er]; exact c, fun m z' l _ => by omega⟩
    · rw [if_neg c] at e'
      obtain ⟨z, h1, h2, h3, h4⟩ := idx_rep ry fy r f.2 e'
      refine ⟨z, by omega, by rw [show j - k = (j - (k + 1)) + 1 by omega]; exact h2, h3, fun m z' l e2 => ?_⟩
      cases m with
      | zero =>
        have : u = z' := by simpa using e2
        subst this
        rw [← er]
        simpa using c
      | succ m => exact h4 m z' (by omega) (by simpa using e2)
section
variable {X : Cx} {W : WX} {o e : Expr} {mo m : SE} {ra : En → M (List Val)} {apos cpos pos : Pos}
theorem oe_idxL (ho : PE X o (tE X.K W mo)) (ha : PA X [e] (tA X.K W ra)) (hbase : attributeBase o "index" X.env (eval o X.env) = eval o X.env)
    (hfew : ((backTo cpos (starEach [e] X.env)).all (fun x => !x.1) && (backToKw cpos (keywordEach [] X.env)).all (fun x => x.1.isSome) && decide (([e] : List Expr).length + ([] : List Keyword).length + (if ([] : List Keyword).isEmpty then 0 else 1) < 30)) = true)
    (hline : (apos.endLine == cpos.line) = true) (hs : starEach [e] X.env = (false, eval e X.env) :: starEach [] X.env) (hplain : (backTo cpos (starEach [] X.env)).any (·.1) = false) :
    PE X (.Call (.Attribute o "index" apos) [e] [] cpos) (tE X.K W (sMtI mIdxL mo ra)) := by
  refine PE.weak (pe_bm PySem.F.plainAttrs_list PySem.F.slot_list_index PySem.F.type_list_index mt_index ho ha hbase hfew hline hs hplain) ?_
  rintro sg H Q ⟨al, B, ro, h, S, p⟩
  refine ⟨al, B, ro, h, S, Po.mono (Po.bind p) fun v H1 ⟨al1, h1, w, st, hr, r1, q⟩ => ?_⟩
  cases r1 with
  | lst a l s =>
    refine ⟨.inl ⟨rfl, _, SqL.of a.1⟩, al1, B, ro, h1, S.step st hr, Po.mono (Po.bind q) fun vs H2 ⟨al2, h2, ws, st2, hr2, rs, q2⟩ => ?_⟩
    unfold mIdxL at q2
    split at q2
    · rename_i e1
      cases e1
      obtain ⟨y, rfl, ry⟩ := rs.one
      split at q2
      · rename_i c
        split at q2
        · rename_i j ej
          obtain ⟨z, _, g2, g3, g4⟩ := idx_rep ry c.1 (s.step st2) c.2 ej
          refine ⟨_, _, y, j, z, rfl, rfl, SqL.of (a.step st2).1, flat_rep ry c.1, flats_rep (s.step st2) c.2, g2, g3, g4, ?_⟩
          exact Po.now q2 hr2 (.int _)
        · exact q2.elim
      · exact q2.elim
    · exact q2.elim
  | _ => exact q.elim
end
end Z
namespace PySem
namespace NX_NoRow
open PySem.W PySem.Calls PyProof.Rows PySem.HandSPX
/-! ### the text of __init__ -/
def iA (p1 p2 : Pos) : Arguments := { posonlyargs := [], args := [{ arg := "self", annotation := none, pos := p1 }, { arg := "row", annotation := none, pos := p2 }], vararg := none, kwonlyargs := [], kw_defaults := [], kwarg := none, defaults := [] }
def iB (q1 q2 q3 q4 : Pos) : List Stmt := [.Assign [.Attribute (.Name "self" q1) "row" q2] (.Name "row" q3) q4]
def iS : Scope := { kind := .function, names := [(PySem.Str.ofString "self", .local), (PySem.Str.ofString "row", .local)], isGenerator := false, isCoroutine := false, more := [] }
/-- what the written part says of NoRow, at C, and of its __init__, at fI -/
structure XTxt (K : Frag) (mg : Str → Option Value) (C fI : Addr) : Prop where
  gC : mg "NoRow" = some (.ref C)
  cls : ∃ nm q N bs bm sn sub ab col dd k0 k1 k2 k3 k5, K.lookup C = some (excClassObj nm q C N bs bm true sn sub ab col dd k0 k1 k2 k3 k5 "IndexError.__new__") ∧ refsT tlIndexError bm = true
  sa : findIn K (.ref C) "__setattr__" = some (some (.builtin "object.__setattr__"))
  ga : findIn K (.ref C) "__getattribute__" = some (some (.builtin "BaseException.__getattribute__"))
  gg : findIn K (.ref C) "__getattr__" = some none
  noN : findIn K (.ref C) "row" = some none
  iC : findIn K (.ref C) "__init__" = some (some (.ref fI))
  tC : typeIn K (.ref fI) = some (.type "function")
  kC : keepIn K (.ref C) = true
  exC : subIn K (.ref C) (.type "BaseException") = some true
  tyC : typeIn K (.ref C) = some (.type "type")
  hdC : hasDictIn K C = true
  te : exmOne K (.ref C) (.ref C) = some true
  fn : ∃ (oc : Value) (od : Option Addr) (doc pm : Value) (an : Option Addr) (cdv ct : Value) (osl : Array (Option Value)) (p1 p2 q1 q2 q3 q4 : Pos),
    K.lookup fI = some ⟨oc, od, .func (fnOf "__init__" "NoRow.__init__" (iA p1 p2) (iB q1 q2 q3 q4) iS .none .none doc pm an cdv ct), osl⟩ ∧ codeIn K cdv "NoRow.__init__" = true
theorem one_size (v : Value) : [v].length ≤ sizeLine := by
  rw [sizeLine_eq]
  exact (by decide : 1 ≤ 16777216)
theorem kept_but {K : Frag} {h h' : Heap} {x : Addr} (X : K.In h) (hx : K.lookup x = none) (k : ∀ b o, b ≠ x → h.get? b = some o → h'.get? b = some o) : K.In h' := fun a o e =>
  k a o (fun z => by rw [z, hx] at e; cases e) (X a o e)
theorem ldC {M : Model} {s : Shared} {name : Str} {scope : Scope} {L a : Addr} {cd : Value} {m : Str → Option Value} {x : Str} {pos : Pos} {v : Value} {Q : Value → Shared → Prop} {A : Around} {E : Value → Shared → Prop} (hn : s.heap.Ns L m) (hv : m x = some v) (h : Q v s)
    (hk : scope.kind = .function := by rfl) (hl : (envOfC name scope L a cd).kindOf x = some .local := by rfl) (hd : (x == ("__debug__" : Str)) = false := by decide) :
    wpAny M A (eval (.Name x pos) (envOfC name scope L a cd)) Q E s := wpAny_Name (wpAny_loadName_local hk hl hn hv h) hd
/-- what __init__ leaves of a fresh exception at x -/
structure InitEnd (h h' : Heap) (x C dx t1 : Addr) (v : Value) : Prop where
  keep : ∀ b o, b ≠ x → h.get? b = some o → h'.get? b = some o
  obj : h'.get? x = some { cls := .ref C, dict := some dx, data := .fields #[.ref t1, .none, .none, .none, .bool false, .none] }
  dbig : h.objs.size ≤ dx
  dne : dx ≠ x
  ns : h'.Ns1 dx (fun y => if y = "row" then some v else none)
/-- a made NoRow -/
structure OwnMade (h h' : Heap) (e C d : Addr) (v : Value) : Prop where
  keep : ∀ b o, h.get? b = some o → h'.get? b = some o
  new : h.objs.size ≤ e
  obj : ∃ oe vs, h'.get? e = some oe ∧ oe.cls = .ref C ∧ oe.dict = some d ∧ oe.data = .fields vs ∧ vs[1]? = some .none ∧ vs[2]? = some .none
  dbig : h.objs.size ≤ d
  dne : d ≠ e
  ns : h'.Ns1 d (fun y => if y = "row" then some v else none)
section
variable {prog : Program} {w : World} {A : Around} {E : Value → Shared → Prop} {R : Result → Shared → Prop} {s : Shared} {K : Frag} {mg : Str → Option Value} {C fI : Addr}
theorem x_init (T : XTxt K mg C fI) {x t0 : Addr} {v : Value} (X : K.In s.heap) (hlim : s.heap.NoLimit) (hx : s.heap.get? x = some (excO C t0)) (hnx : K.lookup x = none) (hroom : A.depth < recursionLimit)
    (hq : ∀ h' tk dx, InitEnd s.heap h' x C dx t0 v → R (.ok (.ret .none)) { s with heap := h', toks := tk }) :
    codeAny (model prog w) A (.call (.ref fI) ⟨[.ref x, v], []⟩) R s := by
  obtain ⟨oc, od, doc, pm, an, cdv, ct, osl, p1, p2, q1, q2, q3, q4, ho, hcd⟩ := T.fn
  obtain ⟨nm, q, N, bs, bm, sn, sub, ab, col, dd, k0, k1, k2, k3, k5, hC, hbm⟩ := T.cls
  have hcl : clsIn K C = some { name := nm, bases := bs, mro := .ref C :: bm, ns := N, qualname := q, hasDict := true, slotNames := sn, subclasses := sub, abstract := ab, collection := col, hasDel := false } := by unfold clsIn; rw [hC] <;> rfl
  refine Att.call_fn (binds := [("self", .ref x), ("row", v)]) X hlim ho hcd hroom (BindsTo.of_eq (by first | rfl | with_unfolding_all rfl)) (by first | rfl | decide | with_unfolding_all rfl) (fun s₁ IC => ?_) rfl rfl rfl
  obtain ⟨h₁, tk₁, rfl⟩ := IC.toInCall.same
  have k : ∀ b o, s.heap.get? b = some o → h₁.get? b = some o := IC.toInCall.keep
  have hn := IC.toInCall.ns
  have hxL : s.heap.objs.size ≠ x := Nat.ne_of_gt (Heap.lt_size hx)
  have X₁ : K.In h₁ := X.keeps k
  have hx₁ := k _ _ hx
  -- self.by = by
  show wpAny _ _ (execs _ _) _ _ _
  refine wpAny_execs_cons (plainObj_wpAny_Assign_Attribute ?_)
  refine ldC (v := v) hn (by first | rfl | with_unfolding_all rfl | kernel_rfl) (ldC (v := .ref x) hn (by first | rfl | with_unfolding_all rfl | kernel_rfl) ?_)
  refine set_plain X₁ (ox := excO C t0) (od := none) ⟨hx₁, rfl, rfl, trivial⟩ T.sa ?_
  refine exc_osaT tlIndexError_pass (by decide) (by decide) X₁ hx₁ hcl (show refsT tlIndexError (.ref C :: bm) = true from hbm) rfl T.noN (fun h₃ tk₃ dx k₃ dn dne hx₃ hn₃ => ?_)
  show wpAny _ _ (execs _ _) _ _ _
  have z : s.heap.objs.size < h₁.objs.size := hn.lt
  exact wpAny_execs_nil (hq h₃ tk₃ dx ⟨fun b o hb e => k₃ b o hb (k b o e), hx₃, Nat.le_of_lt (Nat.lt_of_lt_of_le z dn), dne, hn₃⟩)
theorem x_made (T : XTxt K mg C fI) {v : Value} (X : K.In s.heap) (hlim : s.heap.NoLimit) (hroom : A.depth + 1 < recursionLimit)
    (hq : ∀ h' tk e d, OwnMade s.heap h' e C d v → R (.ok (.ret (.ref e))) { s with heap := h', toks := tk }) :
    codeAny (model prog w) A (.call (.ref C) ⟨[v], []⟩) R s := by
  obtain ⟨nm, q, N, bs, bm, sn, sub, ab, col, dd, k0, k1, k2, k3, k5, hC, hbm⟩ := T.cls
  obtain ⟨hp, g, dr, tk, os⟩ := s
  have k : ∀ b o, hp.get? b = some o → ((hp.push (kdv_tup [v])).push (excO C hp.objs.size)).get? b = some o := fun b o e => Heap.get?_push_of_some _ (Heap.get?_push_of_some _ e)
  have hget : ((hp.push (kdv_tup [v])).push (excO C hp.objs.size)).get? (hp.objs.size + 1) = some (excO C hp.objs.size) := by heap_get
  have hnx : K.lookup (hp.objs.size + 1) = none := by
    cases e : K.lookup (hp.objs.size + 1) with
    | none => rfl
    | some o =>
      have z : hp.get? (hp.objs.size + 1) = some o := X _ _ e
      exact absurd (Nat.lt_of_succ_lt (Heap.lt_size z)) (Nat.lt_irrefl _)
  refine call_own F.excBase_IndexError (fun X => refsT_contains X bm hbm) (X _ _ hC) (looks_findIn X T.iC) (fun self => bind_fn X self T.tC) (one_size v) ?_
  refine x_init (s := ⟨(hp.push (kdv_tup [v])).push (excO C hp.objs.size), g, dr, tk, os⟩) T (X.keeps k) (hlim.keeps k) hget hnx ?_ fun h' tk' dx ⟨k', hx, dn, dne, hns⟩ => ?_
  · show A.depth + 1 < recursionLimit
    exact hroom
  · have old : ∀ b o, hp.get? b = some o → h'.get? b = some o := fun b o e => k' b o (Nat.ne_of_lt (Nat.lt_succ_of_lt (Heap.lt_size e))) (k b o e)
    have z : hp.objs.size + 1 + 1 ≤ dx := by
      first
        | (simpa only [Heap.size_push] using dn)
        | exact dn
        | (have q := dn; rw [Heap.size_push, Heap.size_push] at q; exact q)
    exact ⟨rfl, hq h' tk' (hp.objs.size + 1) dx ⟨old, Nat.le_succ _, ⟨_, _, hx, rfl, rfl, rfl, rfl, rfl⟩, Nat.le_trans (Nat.le_trans (Nat.le_succ _) (Nat.le_succ _)) z, dne, hns⟩⟩
end
end NX_NoRow
end PySem
namespace L2
open PySem PySem.Spec PyProof.Rows
theorem relO_nt_NoRow {v : V} {v' : Value} (r : RelV v v') (f : Str) : RelO (List.lookup f [(("row" : Str), v)]) (if f = "row" then some v' else none) := by
  by_cases hw : f = "row"
  · subst hw
    rw [if_pos rfl]
    have q : List.lookup ("row" : Str) [(("row" : Str), v)] = some v := by simp [List.lookup]
    rw [q]
    exact r
  · rw [if_neg hw]
    have qw : (f == ("row" : Str)) = false := by simpa using hw
    have q2 : List.lookup f [(("row" : Str), v)] = none := by simp [List.lookup, qw]
    rw [q2]
    trivial
section
variable {X : Cx} {C fI : Addr}
/-- NoRow(e) -/
def tMkNt_NoRow (C : Addr) (ta : TA) : St → Hp → XK → Prop := fun σ H Q => ta σ H fun vs H1 => ∃ v, vs = [v] ∧ ∀ d, H1 d = none → Q (.ref C) (some d) (upd H1 d (.xd [(("row" : Str), v)]))
theorem pmk_nt_NoRow {a : Expr} {ta : TA} {p pos : Pos} {k : Nat} (T : PySem.NX_NoRow.XTxt X.K X.mg C fI) (hr : Room k X.A) (ha : PA X [a] ta) (hg : Gl X "NoRow" := by rfl)
    (he : starEach (a :: []) X.env = (false, eval a X.env) :: starEach [] X.env := by rfl) (hpl : (backTo pos (starEach [] X.env)).any (·.1) = false := by rfl) :
    L2N.PMk X (.Call (.Name "NoRow" p) [a] [] pos) (tMkNt_NoRow C ta) := by
  intro pins s σ H Q I h
  refine wpAny_Call_Name_kw (ld_glob I hg T.gC ?_)
  refine PySem.W.callWith_K (h₀ := X.base) I.ok.mod.kin T.kC (thn (ha.run pos pins s σ H _ I h) fun us s1 hh => ?_) he hpl
  obtain ⟨vs, H1, I1, r1, v, ev, q1⟩ := hh
  subst ev
  refine ⟨I1.kIn, ?_⟩
  cases r1 with
  | cons rv rn =>
    rename_i v' us'
    cases rn
    show wpAny _ _ (call (.ref C) [v']) _ _ _
    have hlim := I1.nolimit
    obtain ⟨hp, g, dr, tk, os⟩ := s1
    refine wpAny_call (PySem.NX_NoRow.x_made T I1.kIn hlim (by have := hr.dp; omega) fun h' tk' e d M => ?_)
    show L2N.MkP X pins σ Q (.ref e) ⟨h', g, dr, tk', os⟩
    obtain ⟨oe, fv, hoe, hc, hd, hdat, h1, h2c⟩ := M.obj
    have hns := M.ns
    obtain ⟨G', g1, g2⟩ := restrict h' fun b => decide (b ≠ e)
    have gk : ∀ b, b ≠ e → G'.get? b = h'.get? b := fun b hb => g1 b (decide_eq_true hb)
    have ge : G'.get? e = none := g2 e (by simp)
    have old : ∀ b o, hp.get? b = some o → G'.get? b = some o := fun b o q => (gk b (Nat.ne_of_lt (Nat.lt_of_lt_of_le (Heap.lt_size q) M.new))).trans (M.keep b o q)
    have ob : ObjOk X.prog X.w (upd H1 d (.xd [(("row" : Str), v)])) G' d (.xd [(("row" : Str), v)]) :=
      ⟨_, hns.at (fun o q => (gk d M.dne).trans q), fun f => relO_nt_NoRow rv f⟩
    have J : Inv X pins σ (upd H1 d (.xd [(("row" : Str), v)])) ⟨G', g, dr, tk', os⟩ := I1.laid (t' := tk') old M.dbig ob
    refine ⟨e, oe, fv, ⟨G', g, dr, tk', os⟩, _, .ref C, some d, rfl, J, fun b o q => ?_, ge, hoe, ⟨hc, hd, fun ws e => (by rw [hdat] at e; cases e; exact h2c)⟩, hdat, h1, ?_, rfl, I1.bare, raises_own T.exC T.tyC, q1 d (I1.hok.fresh M.dbig)⟩
    · by_cases hb : b = e
      · have q' : G'.get? b = some o := q
        rw [hb, ge] at q'; cases q'
      · exact (gk b hb).symm.trans q
    · rw [upd_ne (Ne.symm M.dne)]
      exact I1.hok.fresh M.new
/-- raise NoRow(e) -/
def tRaiseNt_NoRow (C : Addr) (W : WX) (ta : TA) : TS := fun _ σ H => tMkNt_NoRow C ta σ H fun cls d H' => W cls d σ H'
theorem ps_raiseNt_NoRow {a : Expr} {ta : TA} {W : WX} {p pos pos2 : Pos} {k : Nat} (hc : X.calm = true) (T : PySem.NX_NoRow.XTxt X.K X.mg C fI) (hr : Room k X.A) (tk : L3.Takes X W) (ha : PA X [a] ta) (hg : Gl X "NoRow" := by rfl)
    (he : starEach (a :: []) X.env = (false, eval a X.env) :: starEach [] X.env := by rfl) (hpl : (backTo pos (starEach [] X.env)).any (·.1) = false := by rfl) :
    PS X (.Raise (some (.Call (.Name "NoRow" p) [a] [] pos)) none pos2) (tRaiseNt_NoRow C W ta) := L2N.ps_raise hc tk.toN (pmk_nt_NoRow T hr ha hg he hpl)
end
end L2
namespace Z
open PySem PySem.Spec PyProof.Rows L2
section
variable {X : Cx} {W : WX} {pos : Pos}
theorem os_raiseNt_NoRow {a : Expr} {C fI : Addr} {k : Nat} {p pos2 : Pos} {m : SE} (hc : X.calm = true) (T : PySem.NX_NoRow.XTxt X.K X.mg C fI) (hr : Room k X.A) (tk : L3.Takes X W) (ha : PE X a (tE X.K W m)) (hg : Gl X "NoRow")
    (he : starEach (a :: []) X.env = (false, eval a X.env) :: starEach [] X.env) (hpl : (backTo pos (starEach [] X.env)).any (·.1) = false) :
    PS X (.Raise (some (.Call (.Name "NoRow" p) [a] [] pos)) none pos2) (tS X.K W (nRaiseF C "row" m)) := by
  refine PS.weak (ps_raiseNt_NoRow hc T hr tk (pa_cons ha pa_nil he) hg he hpl) ?_
  rintro D sg H ⟨al, B, ro, h, S, p⟩
  refine ⟨al, B, ro, h, S, Po.mono (Ps.bind S p) fun v H1 ⟨al1, h1, w, st, hr1, r, q⟩ => ?_⟩
  refine ⟨v, rfl, fun d hd => ?_⟩
  have st2 : Stp al1 H1 al1 (upd H1 d (.xd [(("row" : Str), v)])) := Stp.lay hd
  exact q al1 sg _ st2 ((S.step st hr1).step st2 (hr1.lay hd)) _ _ ⟨rfl, fun z => (by cases z), fun _ => ⟨d, _, rfl, upd_same, (hr1.fresh hd).1, (hr1.fresh hd).2, rfl, .cons (r.step st2) .nil⟩⟩
end
theorem fld_NoRow {K : PySem.W.Frag} {mg : Str → Option Value} {C fI : Addr} (T : PySem.NX_NoRow.XTxt K mg C fI) : XfC K C := ⟨T.ga, T.gg, T.exC, T.hdC⟩
end Z
/-! ZLO: len(x) by an own __len__. -/
namespace Z
open PySem PySem.Spec PyProof.Rows L2
theorem RmG.in1 {k : Nat} {A : Around} (r : RmG (k + 1) A) : RmG k A.in1 := ⟨r.toRoom.in1, r.gd⟩
section
variable {X : Cx} {W : WX} {a : Expr} {ma : SE} {k : Nat} {C f : Addr} {fd : FuncData} {ps : List Str} {F : List Val → M Val} {p pos : Pos}
end
end Z
/-! ZLH: a list comprehension over a list while an exception is handled. -/
namespace HotY
open PySem PySem.Spec PyProof.Rows HotX
section
variable {prog : Program} {w : World} {A : Around} {E : Value → Shared → Prop} {s : Shared} {h0 : Heap}
theorem next_list_endW {x1 it t : Addr} {i : Nat} {items : Array Value} {Q : Option Value → Shared → Prop} (hot : HotB A x1 h0) (old : ∀ b o, h0.get? b = some o → b ≠ it → s.heap.get? b = some o) (hx1 : x1 ≠ it) (hx2 : ∀ (o : Obj) (vs : Array Value) (x2 : Addr), h0.get? x1 = some o → o.data = .fields vs → vs[2]? = some (.ref x2) → x2 ≠ it)
    (hit : s.heap.IsListIter it t i) (ht : s.heap.IsList t items) (hx : items[i]? = none) (hQ : ∀ h', Heap.ExtBut it s.heap h' → Q none { s with heap := h' }) : wpAny (model prog w) A (pyNext (.ref it)) Q E s := by
  obtain ⟨o, ho, hc, hd⟩ := id hit
  obtain ⟨ol, hol, _, nl, hdl⟩ := ht
  unfold pyNext
  refine wpAny_bind (wpAny_attempt (wpAny_callSpecial?_slot (name := Str.ofString "__next__") hit.typeIs slot_listiter_next (wpAny_call_entry slot_listiter_next hit.typeIs entry_listiter_next ?_ (args_listiter_next _))))
  show wpAny _ _ (field (.ref it) 0 >>= _) _ _ s
  refine wpAny_bind (wpAny_field ho hd (x := .ref t) rfl ?_)
  show wpAny _ _ (if (Value.ref t == Value.none) = true then _ else _) _ _ s
  rw [if_neg (show ¬ ((Value.ref t == Value.none) = true) from Bool.false_ne_true)]
  show wpAny _ _ (field (.ref it) 1 >>= _) _ _ s
  refine wpAny_bind (wpAny_field ho hd (x := .int i 0) rfl ?_)
  show wpAny _ _ (seqItems? (.ref t) >>= _) _ _ s
  refine wpAny_bind (wpAny_seqItems hol hdl ?_)
  simp only [Int.toNat_natCast, hx]
  refine wpAny_bind (wpAny_rule (wpAny_bind (wpAny_setField ho hd (by simp) ?_)))
  show wpAny _ _ (newExc (.type "StopIteration") [] >>= _) _ _ _
  refine wpAny_bind ?_
  simp only [newExc, newTuple]
  refine wpAny_bind (wpAny_newObj_type ?_ (by size_fits))
  refine wpAny_bind (m := firstArgMember _ _) (wpAny_of_eq (a := Value.none) (by first | rfl | (simp only [firstArgMember]; rfl)) ?_)
  refine wpAny_newObj_type ?_ (by size_fits)
  -- the heap without what is walked
  obtain ⟨hh, o1, v1, c1, q1, q2, q3, q4⟩ := id hot
  have kept : ∀ (f : Obj → Obj) (p1 : Obj), ∀ b o, h0.get? b = some o → b ≠ it → ((s.heap.update it f).push p1).get? b = some o := fun f p1 b o e hb => by
    refine Heap.get?_push_of_some _ ?_
    rw [Heap.get?_update_other _ _ (Ne.symm hb)]
    exact old b o e hb
  have hot' : ∀ {g : Heap}, (∀ b o, h0.get? b = some o → b ≠ it → g.get? b = some o) → HotB A x1 g := fun {g} k => by
    refine ⟨hh, o1, v1, c1, k _ _ q1 hx1, q2, q3, ?_⟩
    rcases q4 with e | ⟨x2, o2, v2, e5, e6, e7, e8⟩
    · exact .inl e
    · subst e5
      exact .inr ⟨x2, o2, v2, rfl, k _ _ e6 (hx2 o1 v1 x2 q1 q2 q3), e7, e8⟩
  refine raiseNew_hot2 (hot' (kept _ _)) (fun b o e => Heap.get?_push_of_some _ e) (by
      rcases q : ((s.heap.update it _).push _).get? ((s.heap.update it _).push _).objs.size with _ | u
      · rfl
      · exact absurd (Heap.lt_size q) (Nat.lt_irrefl _)) (Heap.get?_push_size _ rfl) rfl (by first | (simp; done) | (simp; omega) | (simp only [Array.size_append]; simp; omega)) ?_
  refine wpAny_bind (wpAny_isInstance (T := "StopIteration") (b := true) ⟨_, Heap.get?_update_self _ (Heap.get?_push_size _ rfl) rfl, rfl⟩ isSubtype_stop ?_)
  refine wpAny_pure (hQ _ fun b o hb e => ?_)
  have e1 : ∀ (f : Obj → Obj) (o1 : Obj), ((s.heap.update it f).push o1).get? b = some o := fun f o1 => by
    refine Heap.get?_push_of_some _ ?_
    rw [Heap.get?_update_other _ _ (Ne.symm hb)]
    exact e
  rw [Heap.get?_update_other _ _ (Nat.ne_of_gt (Heap.lt_size (e1 _ _)))]
  exact Heap.get?_push_of_some _ (e1 _ _)
end
end HotY
namespace Z
open PySem PySem.Spec PyProof.Rows L2 HotY
/-- the block of a comprehension that keeps the handled exception's objects -/
abbrev blkW (X : Cx) (s : Shared) (H : Hp) (scope : Scope) (cenv : Env) (fp : List Addr) : Cx := { X.blk s H scope cenv fp with pn := X.pn }
theorem ok_pn {X : Cx} {pn : List (Addr × Obj)} (o : X.Ok) : Cx.Ok { X with pn := pn } := ⟨o.mod, o.kind, o.glob, o.blt, o.above, o.inj, o.has, o.cab, o.hd, o.frames, o.stk, o.exf, o.bs, o.bsz, o.noex, o.exfs, o.funs, o.frf⟩
theorem inv_pn {X : Cx} {pn pins : List (Addr × Obj)} {sg : L2.St} {H : Hp} {s : Shared} (I : Inv { X with pn := [] } pins sg H s) (h : ∀ p ∈ pn, s.heap.get? p.1 = some p.2 ∧ H p.1 = none ∧ p.1 ≠ X.env.locals ∧ p.1 ∉ X.fs ∧ ∀ v, p.2.data ≠ .cell v) : Inv { X with pn := pn } pins sg H s :=
  ⟨ok_pn (X := { X with pn := [] }) (pn := pn) I.ok, I.os, I.bare, I.base, I.loc, I.cell, I.free, I.freeC, fun p hp => (List.mem_append.mp hp).elim (h p) fun z => I.pin p (List.mem_append_right _ z), I.hok, I.len⟩
theorem hot_list_end {X : Cx} {pins : List (Addr × Obj)} {sg : L2.St} {H : Hp} {s : Shared} {E : Value → Shared → Prop} {it a : Addr} {i : Nat} {its : List Value} {Q : Option Value → Shared → Prop} (hw : HotP X.A X.pn) (I : Inv X pins sg H s) (f : FpOk X pins H it) (st : s.heap.IsListIter it a i) (p : s.heap.IsList a its.toArray) (l : its.length ≤ i)
    (hQ : ∀ s', Inv X pins sg H s' → Q none s') : wpAny (model X.prog X.w) X.A (pyNext (.ref it)) Q E s := by
  obtain ⟨q, vq, c, e1, m, e2, e3, e4⟩ := hw
  have get : ∀ z ∈ X.pn, s.heap.get? z.1 = some z.2 := fun z hz => (I.pin z (List.mem_append_left _ hz)).1
  obtain ⟨f0, f1, f2, f3, f4, f5⟩ := f
  have far : ∀ z ∈ X.pn, z.1 ≠ it := fun z hz => f5 z (List.mem_append_left _ hz)
  have hot : HotB X.A q.1 s.heap := by
    refine ⟨e1, q.2, vq, c, get q m, e2, e3, ?_⟩
    rcases e4 with e | ⟨z, vz, e5, mz, e6, e7⟩
    · exact .inl e
    · exact .inr ⟨z.1, z.2, vz, e5, get z mz, e6, e7⟩
  refine next_list_endW (h0 := s.heap) hot (fun _ _ e _ => e) (far q m) (fun o vs x2 g1 g2 g3 => ?_) st p (by simp; omega) fun h' eb => hQ _ (I.turned (t' := s.toks) (fun b o hb e => eb b o hb e) f0 f1 f3 f4 f5)
  rw [get q m] at g1
  cases g1
  rw [e2] at g2
  cases g2
  rw [e3] at g3
  cases g3
  rcases e4 with e | ⟨z, vz, e5, mz, e6, e7⟩
  · cases e
  · cases e5
    exact far z mz
section
variable {X : Cx}
theorem lcW_core {pins : List (Addr × Obj)} {s : Shared} {σ : L2.St} {H : Hp} {Q : VK} {elt tg l : Expr} {ifs : List Expr} {scope : Scope} {own : List (Str × Nat)} {pos pos' : Pos} {tl : TE} {g : TG} {tt : TT} {te : TE} {use : Option (Value → Sem Unit)} {Qf : Value → Shared → Prop}
    (hw : HotP X.A X.pn) (hN : X.N.Nodup) (I : Inv X pins σ H s) (hl : PE X l tl) (ok : BlkOk X.N X.env.scope scope own)
    (hg : ∀ (s : Shared) (H : Hp) (C : Addr) (cl : List (Str × Addr)) (fp : List Addr), PG (blkW X s H scope (compEnvC scope cl C X.env) fp) tg g) (ht : ∀ (s : Shared) (H : Hp) (C : Addr) (cl : List (Str × Addr)) (fp : List Addr), PTs (blkW X s H scope (compEnvC scope cl C X.env) fp) ifs tt)
    (he : ∀ (s : Shared) (H : Hp) (C : Addr) (cl : List (Str × Addr)) (fp : List Addr), PE (blkW X s H scope (compEnvC scope cl C X.env) fp) elt te) (hs : ∀ x, foldedSetIterable l X.env x = pure x)
    (h : tLc (iList X.K tl) g tt te (own.map (·.2)) σ H Q)
    (back : ∀ D C s' m H', Inv X pins σ H' s' → Q (.ref D) H' → s'.heap.Ns C m → FpOk X pins H' C → compPost (model X.prog X.w) X.A X.xe use Qf (.ref D) C (.ok .next) s') :
    wpAny (model X.prog X.w) X.A (comprehension (.ListComp elt [⟨tg, l, ifs, 0⟩] scope pos) scope X.env pos' (newList []) false (eval l X.env) use) Qf X.xe s := by
  have caught : ∀ y ∈ scope.names, y.2 = .free → ∃ c, X.env.cells.lookup y.1 = some c := fun y hy e => (ok.free y hy e).elim (fun k => I.ok.has _ (.inl k)) fun k => I.ok.has _ (.inr k)
  refine wpAny_comprehension_free (use := use) rfl hs (closure_ok caught) ok.kind (fun y hy e => by rw [ok.uniq y hy, e]) (thn (hl.run pins s σ H _ I h) fun v s1 ⟨x, H1, I1, r1, a, ea, ⟨xs0, hq⟩, q⟩ => ?_)
  subst ea
  obtain rfl : v = Value.ref a := r1
  obtain ⟨its0, rv0, p0, hz0⟩ := I1.list hq
  refine wpAny_pyIter_list p0.isList (wpAny_newObj_type (newEnv_comp ?_) (by show 0 ≤ sizeLine; decide))
  -- the iterator, the new list
  generalize hs2 : ({ s1 with heap := s1.heap.push { cls := .type "list_iterator", data := .fields #[.ref a, .int 0 0] } } : Shared) = s2
  have e2 : s1.heap.push { cls := .type "list_iterator", data := .fields #[.ref a, .int 0 0] } = s2.heap := by rw [← hs2]
  have I2 : Inv X pins σ H1 s2 := by rw [← hs2]; exact I1.kept (t' := s1.toks) fun b o e => Heap.get?_push_of_some _ e
  have hit : s2.heap.IsListIter s1.heap.objs.size a 0 := by rw [← e2]; exact ⟨_, Heap.get?_push_size _ rfl, rfl, rfl⟩
  have hsz : s1.heap.objs.size < s2.heap.objs.size := by rw [← e2, Heap.size_push]; exact Nat.lt_succ_self _
  have fit : ∀ {H' : Hp}, H' s1.heap.objs.size = none → FpOk X pins H' s1.heap.objs.size := fun z => I1.fpOk (Nat.le_refl _) z
  have nit : H1 s1.heap.objs.size = none := I1.hok.fresh (Nat.le_refl _)
  generalize s1.heap.objs.size = it at hit hsz fit nit ⊢
  have nD : H1 s2.heap.objs.size = none := I2.hok.fresh (Nat.le_refl _)
  obtain ⟨W, ⟨m0, w0⟩, turn⟩ := q s2.heap.objs.size nD
  generalize hs3 : ({ s2 with heap := s2.heap.push { cls := .type "list", data := .seq ([] : List Value).toArray } } : Shared) = s3
  have e3 : s3.heap = s2.heap.push { cls := .type "list", data := .seq ([] : List Value).toArray } := by rw [← hs3]
  have I3 : Inv X pins σ (upd H1 s2.heap.objs.size (.lst [])) s3 := by
    rw [← hs3]
    exact I2.laid (t' := s2.toks) (fun b o e => Heap.get?_push_of_some _ e) (Nat.le_refl _) ⟨Nat.zero_le _, [], 0, .nil, Heap.get?_push_size _ rfl⟩
  have hit3 : s3.heap.IsListIter it a 0 := by
    obtain ⟨o, e, r⟩ := hit
    exact ⟨o, by rw [e3]; exact Heap.get?_push_of_some _ e, r⟩
  have n3 : upd H1 s2.heap.objs.size (.lst []) it = none := by rw [upd_ne (Nat.ne_of_lt hsz)]; exact nit
  have f3 : FpOk X pins (upd H1 s2.heap.objs.size (.lst [])) it := fit n3
  have lt3 : it < s3.heap.objs.size := by rw [e3, Heap.size_push]; omega
  show codeAny _ _ (.compStart (.ListComp elt [⟨tg, l, ifs, 0⟩] scope pos) 0 (.ref it) (.ref s2.heap.objs.size) (compEnvC scope (cellsFrom (s3.heap.objs.size + 1) scope.names (cloFrom X.env.cells scope.names [])) s3.heap.objs.size X.env)) (compPost (model X.prog X.w) X.A X.xe use Qf (.ref s2.heap.objs.size) s3.heap.objs.size) { s3 with heap := pushCells (s3.heap.push { cls := .type "dict", data := .dict #[] }) scope.names }
  generalize s2.heap.objs.size = D at w0 turn I3 n3 f3 ⊢
  have J0 := block_start (fp := [it]) I3 ok hN fun b hb => by
    obtain rfl : b = it := by simpa using hb
    exact ⟨f3, lt3⟩
  have pg := hg s3 (upd H1 D (.lst [])) s3.heap.objs.size (cellsFrom (s3.heap.objs.size + 1) scope.names (cloFrom X.env.cells scope.names [])) [it]
  have pt := ht s3 (upd H1 D (.lst [])) s3.heap.objs.size (cellsFrom (s3.heap.objs.size + 1) scope.names (cloFrom X.env.cells scope.names [])) [it]
  have pe := he s3 (upd H1 D (.lst [])) s3.heap.objs.size (cellsFrom (s3.heap.objs.size + 1) scope.names (cloFrom X.env.cells scope.names [])) [it]
  generalize hce : compEnvC scope (cellsFrom (s3.heap.objs.size + 1) scope.names (cloFrom X.env.cells scope.names [])) s3.heap.objs.size X.env = ce at J0 pg pt pe ⊢
  have cL : ce.locals = s3.heap.objs.size := by subst hce; rfl
  generalize hH3 : upd H1 D (.lst []) = H3 at I3 J0 pg pt pe w0 n3 f3
  have kp : ∀ b o, s3.heap.get? b = some o → (pushCells (s3.heap.push { cls := .type "dict", data := .dict #[] }) scope.names).get? b = some o := fun b o e => pushCells_keeps _ _ _ _ (Heap.get?_push_of_some _ e)
  have J : Inv (blkW X s3 H3 scope ce [it]) [] (wipe σ (own.map (·.2))) H3 { s3 with heap := pushCells (s3.heap.push { cls := .type "dict", data := .dict #[] }) scope.names } := by
    refine inv_pn (X := X.blk s3 H3 scope ce [it]) J0 fun p hp => ?_
    obtain ⟨g1, g2, g3, g4, g5⟩ := I3.pin p (List.mem_append_left _ hp)
    refine ⟨kp _ _ g1, g2, ?_, fun m => ?_, g5⟩
    · show p.1 ≠ ce.locals
      rw [cL]
      exact Nat.ne_of_lt (Heap.lt_size g1)
    · rcases List.mem_cons.mp (I3.stkSub p.1 m) with z | z
      · exact g3 z
      · exact g4 z
  generalize hs4 : ({ s3 with heap := pushCells (s3.heap.push { cls := .type "dict", data := .dict #[] }) scope.names } : Shared) = s4 at J ⊢
  have hit4 : s4.heap.IsListIter it a 0 := by
    obtain ⟨o, e, r⟩ := hit3
    exact ⟨o, by rw [← hs4]; exact kp _ _ e, r⟩
  have far : ∀ {σ' : L2.St} {H' : Hp} {s' : Shared}, Inv (blkW X s3 H3 scope ce [it]) [] σ' H' s' → H' it = none → FpOk (blkW X s3 H3 scope ce [it]) [] H' it := fun {σ' H' s'} I' hn => by
    refine ⟨hn, (I'.ok.exf it (by simp)).1, I'.ok.exfs it (by simp), .inl (by simp), fun x c e => (I'.ok.exf it (by simp)).2 x c e, fun p hp => ?_⟩
    rcases List.mem_append.mp hp with z | z
    · exact f3.2.2.2.2.2 p (List.mem_append_left _ z)
    · cases z
  have loop : codeAny (model X.prog X.w) X.A (.compLoop (.ListComp elt [⟨tg, l, ifs, 0⟩] scope pos) 0 (.ref it) (.ref D) ce) (compPost (model X.prog X.w) X.A X.xe use Qf (.ref D) s3.heap.objs.size) s4 := by
    refine compLoop_any (fun n s' => ∃ i H', Inv (blkW X s3 H3 scope ce [it]) [] (wipe σ (own.map (·.2))) H' s' ∧ s'.heap.IsListIter it a i ∧ H' it = none ∧ W i n H') ?_ m0 ⟨0, H3, J, hit4, n3, w0⟩
    rintro n s5 ⟨i, H5, I5, st5, n5, w5⟩
    rcases turn i n H5 w5 with ⟨⟨xs, hx, hlen⟩, qq⟩ | ⟨⟨xs, x, hx, hxi⟩, Nx, hNx, step⟩
    · obtain ⟨its, rv, p, _⟩ := I5.list hx
      refine hot_list_end (X := blkW X s3 H3 scope ce [it]) hw I5 (far I5 n5) st5 p.isList (by rw [← rv.length]; exact hlen) fun s6 I6 => ?_
      have I7 : Inv X pins σ H5 s6 := I3.call' (ch := [it]) I6.os I6.base I6.hok I6.bare fun b hb => by
        obtain rfl : b = it := by simpa using hb
        exact ⟨f3.2.2.2.1, f3.2.1, f3.2.2.2.2.1, f3.2.2.2.2.2⟩
      obtain ⟨m, hn, _⟩ := I6.loc
      have hn : s6.heap.Ns ce.locals m := hn
      have nC : H5 ce.locals = none := I6.free
      rw [cL] at hn nC
      exact back D s3.heap.objs.size s6 m H5 I7 qq hn (I3.fpOk (Nat.le_refl _) nC)
    · obtain ⟨its, rv, p, _⟩ := I5.list hx
      obtain ⟨u, hu, ru⟩ := rv.get hxi
      obtain ⟨f0, f1, f2, f4, f5, f6⟩ := far I5 n5
      refine wpAny_pyNext_list_item st5 p.isList (x := u) (by simpa using hu) fun h' st' sb => ?_
      have I6 : Inv (blkW X s3 H3 scope ce [it]) [] (wipe σ (own.map (·.2))) H5 { s5 with heap := h' } := I5.turned (t' := s5.toks) (fun b o hb e => (sb.2 b hb).trans e) f0 f1 f4 f5 f6
      obtain ⟨oi, ei, ci, di⟩ := id st'
      refine go_of (s := { s5 with heap := h' }) ei ci di (by decide) ?_
      have I7 : Inv (blkW X s3 H3 scope ce [it]) [(it, oi)] (wipe σ (own.map (·.2))) H5 { s5 with heap := h' } := I6.pins_of fun b hb => by
        obtain rfl : b = (it, oi) := by simpa using hb
        exact ⟨ei, f0, f1, f2, fun v z => by rw [di] at z; cases z⟩
      refine thnF (pg.run _ _ _ H5 x u _ I7 ru (step x H5 ⟨rfl, fun ys hy => by rw [I5.list_inj hy hx]; exact hxi⟩)) fun _ s8 ⟨σ8, H8, I8, hw8, q8⟩ => ?_
      refine thnF (pt.run _ s8 σ8 H8 _ I8 q8) fun b s9 ⟨H9, I9, q9⟩ => ?_
      have fin : ∀ {s' : Shared} {H' : Hp}, Inv (blkW X s3 H3 scope ce [it]) [(it, oi)] σ8 H' s' → Nx H' → ∃ m, m < n ∧ ∃ i H', Inv (blkW X s3 H3 scope ce [it]) [] (wipe σ (own.map (·.2))) H' s' ∧ s'.heap.IsListIter it a i ∧ H' it = none ∧ W i m H' := fun {s' H'} I' nx => by
        obtain ⟨m', hm, w'⟩ := hNx H' nx
        obtain ⟨g1, g2, _⟩ := I'.pin (it, oi) (List.mem_append_right _ (by simp))
        refine ⟨m', hm, i + 1, H', (I'.pins_of (pins' := []) fun p hp => by cases hp).weak (by rw [← hw8, wipe_length]) (fun j v e => ?_), ⟨oi, g1, ci, di⟩, g2, w'⟩
        rw [← hw8] at e
        exact (wipe_some e).1
      cases b with
      | false =>
        simp only [Bool.false_eq_true, if_false] at q9 ⊢
        exact fin I9 q9
      | true =>
        simp only [if_true] at q9 ⊢
        refine thnF (pe.run _ s9 σ8 H9 _ I9 q9) fun z s10 ⟨yv, H10, I10, r10, acc, hD10, hz10, nx⟩ => ?_
        exact app_ok (X := blkW X s3 H3 scope ce [it]) I10 hD10 hz10 r10 fun s11 I11 => fin I11 nx
  exact codeAny_compStart_list loop (wpAny_pyIter_listiter hit4 loop)
theorem ps_setLcW {i : Nat} {y : Str} {py : Pos} {elt tg l : Expr} {ifs : List Expr} {scope : Scope} {own : List (Str × Nat)} {pos spos : Pos} {tl : TE} {g : TG} {tt : TT} {te : TE} (hw : HotP X.A X.pn) (hN : X.N.Nodup) (hy : X.N[i]? = some y) (hyl : X.env.scope.names.lookup y = some .local)
    (hsw : swapsWith (.ListComp elt [⟨tg, l, ifs, 0⟩] scope pos) (some (.Name y py)) spos.line X.env = pure true) (hl : PE X l tl) (ok : BlkOk X.N X.env.scope scope own)
    (hg : ∀ (s : Shared) (H : Hp) (C : Addr) (cl : List (Str × Addr)) (fp : List Addr), PG (blkW X s H scope (compEnvC scope cl C X.env) fp) tg g) (ht : ∀ (s : Shared) (H : Hp) (C : Addr) (cl : List (Str × Addr)) (fp : List Addr), PTs (blkW X s H scope (compEnvC scope cl C X.env) fp) ifs tt)
    (he : ∀ (s : Shared) (H : Hp) (C : Addr) (cl : List (Str × Addr)) (fp : List Addr), PE (blkW X s H scope (compEnvC scope cl C X.env) fp) elt te) (hs : ∀ x, foldedSetIterable l X.env x = pure x) :
    PS X (.Assign [.Name y py] (.ListComp elt [⟨tg, l, ifs, 0⟩] scope pos) spos) (tAsg (tLc (iList X.K tl) g tt te (own.map (·.2))) (gName i)) := by
  refine ⟨fun pins s σ H D I h => ?_⟩
  rw [exec_Assign_Name_used _ _ _ _ hsw]
  refine wpAny_bind (wpAny_standAt (wpAny_bind ?_))
  show wpAny _ X.A (do let _ ← comprehension (.ListComp elt [⟨tg, l, ifs, 0⟩] scope pos) scope X.env (firstIterPos [⟨tg, l, ifs, 0⟩] pos) (newList []) false (eval l X.env) (some (assign (.Name y py) X.env))) _ _ s
  refine wpAny_bind (thn (lcW_core (Q := fun x H1 => gName i x σ H1 D.nx) (Qf := fun _ s' => SP X pins D .next s') hw hN I hl ok hg ht he hs h fun L C s' m H' I' q hn f => ?_) fun _ s' hq => wpAny_pure (wpAny_pure hq))
  show wpAny _ _ (assign (.Name y py) X.env (.ref L)) _ _ _
  refine wpAny_assign_Name (store_ok2 (v := V.ref L) I' hN hy (.inl hyl) rfl (fun s2 I2 ⟨b, sb, hb⟩ => ⟨m, hn.sameBut sb (hb.elim (fun z => z ▸ f.2.1) fun z w => f.2.2.2.2.1 y b z w.symm), fun h3 sb3 => ⟨_, H', ?_, q⟩⟩) (.inr hyl))
  exact I2.turned (t' := s2.toks) (fun c o hc e => (sb3.2 c hc).trans e) f.1 f.2.1 f.2.2.2.1 f.2.2.2.2.1 f.2.2.2.2.2
end
/-- the items of a list alone -/
def iLs (m : SE) : SI := fun ro => bind (m ro) fun w => match w with
  | .lst xs => ret (.st xs, xs.length)
  | _ => fail
theorem tLc_iLs {K : PySem.W.Frag} {W : WX} {m : SE} {g : TG} {tt : TT} {te : TE} {own : List Nat} (sg : L2.St) (H : Hp) (Q : VK) (p : tLc (tI K W (iLs m)) g tt te own sg H Q) : tLc (iList K (tE K W m)) g tt te own sg H Q := by
  obtain ⟨al, B, ro, h, S, p⟩ := p
  unfold iLs at p
  refine ⟨al, B, ro, h, S, Po.mono (Po.bind p) fun v1 H1 ⟨al1, h1, w1, st1, hr1, r1, p1⟩ => ?_⟩
  split at p1
  · rename_i xs
    cases r1 with
    | @lst a _ vs at' l s => exact ⟨a, rfl, ⟨vs, SqL.of at'.1⟩, Po.now p1 hr1 ⟨itR_lst' (fun al2 H2 st2 => SqL.of (at'.stepW st2).1) s, l⟩⟩
  · exact p1.elim
section
variable {X : Cx} {W : WX} {elt tg l : Expr} {ifs : List Expr} {scope : Scope} {own : List (Str × Nat)} {pos : Pos} {m0 : SE} {g : GM} {sl : List Nat} {t : En → M Bool} {m : SE}
theorem os_setLcW {i : Nat} {y : Str} {py spos : Pos} (hw : HotP X.A X.pn) (hN : X.N.Nodup) (hy : X.N[i]? = some y) (hyl : X.env.scope.names.lookup y = some .local)
    (hsw : swapsWith (.ListComp elt [⟨tg, l, ifs, 0⟩] scope pos) (some (.Name y py)) spos.line X.env = pure true) (hl : PE X l (tE X.K W m0)) (ok : BlkOk X.N X.env.scope scope own) (hsl : ∀ i ∈ sl, i ∈ own.map (·.2))
    (hg : ∀ (s : Shared) (H : Hp) (C : Addr) (cl : List (Str × Addr)) (fp : List Addr), PG (blkW X s H scope (compEnvC scope cl C X.env) fp) tg (tG X.K sl g))
    (ht : ∀ (s : Shared) (H : Hp) (C : Addr) (cl : List (Str × Addr)) (fp : List Addr), PTs (blkW X s H scope (compEnvC scope cl C X.env) fp) ifs (tT X.K W0 t))
    (he : ∀ (s : Shared) (H : Hp) (C : Addr) (cl : List (Str × Addr)) (fp : List Addr), PE (blkW X s H scope (compEnvC scope cl C X.env) fp) elt (tE X.K W0 m)) (hs : ∀ x, foldedSetIterable l X.env x = pure x) :
    PS X (.Assign [.Name y py] (.ListComp elt [⟨tg, l, ifs, 0⟩] scope pos) spos) (tS X.K W (nSet i (sLc (iLs m0) g t m (own.map (·.2))))) := by
  refine PS.weak (ps_setLcW hw hN hy hyl hsw hl ok hg ht he hs) ?_
  rintro D sg H ⟨al, B, ro, h, S, p⟩
  refine tLc_iLs sg H _ (tE_lc hsl sg H _ ⟨al, B, ro, h, S, Po.mono (Ps.bind S p) fun v H1 ⟨al1, h1, w, st, hr, r, q⟩ => ?_⟩)
  exact q al1 _ H1 (Stp.refl _ _) ((S.step st hr).set i r)
end
end Z
/-! ZLE: defs that are handed the exception that is handled. -/
namespace Z
open PySem PySem.Spec PyProof.Rows L2
theorem zb_KeyError : bootBuiltins "KeyError" = some (.type "KeyError") := by decide +kernel
theorem zb_IndexError : bootBuiltins "IndexError" = some (.type "IndexError") := by decide +kernel
theorem zb_LookupError : bootBuiltins "LookupError" = some (.type "LookupError") := by decide +kernel
theorem zb_RuntimeError : bootBuiltins "RuntimeError" = some (.type "RuntimeError") := by decide +kernel
/-- what a def promises while the object q is one of those known -/
structure FnM (q : Addr × Obj) (P : Program) (w : World) (K : PySem.W.Frag) (mg : Str → Option Value) (base : Heap) (CX : CXT) (k : Nat) (f : Addr) (fd : FuncData) (ps : List Str) (sp : Sp) : Prop where
  len : ∀ vs H Q E, sp vs H Q E → vs.length = ps.length
  run : ∀ (Ar : Around) (out : List Env) (st : Shared) (H : Hp) (ags : Args) (us : List Value) (vs : List V) (Q : VK) (E : XK) (pl : List (Addr × Obj)), q ∈ pl → RmW k Ar → HotP Ar pl → (∀ p ∈ pl, L2H.PinOk out H st p) → Env0 P w K mg base Ar out st H → BindsTo st fd ags (ps.zip us) → Vals vs us → sp vs H Q E →
    codeAny (model P w) Ar (.call (.ref f) ags) (CR CX out P w H st Q E) st
theorem rM {X : Cx} {q : Addr × Obj} {f : Addr} {fd : FuncData} {ps : List Str} {sp : Sp} {k : Nat} (G : FnM q X.prog X.w X.K X.mg X.base (L3.CX X.prog X.w) k f fd ps sp) (hr : RmW k X.A) (hw : HotP X.A X.pn) (hq : q ∈ X.pn) : RunsIn X f fd ps sp :=
  fun _ _ s H ags us vs Q E I b r h => G.run X.A X.stack s H ags us vs Q E X.pn hq hr hw (pinOk_of I) I.env0 b r h
section
variable {P : Program} {w : World} {K : PySem.W.Frag} {mg : Str → Option Value} {base : Heap} {CX : CXT} {q : Addr × Obj}
theorem fnM_of {k : Nat} {f : Addr} {nm qual : Str} {pms : Arguments} {bd : List Stmt} {sc : Scope} {dV kV doc pm cdv ct oc : Value} {an od : Option Addr} {osl : Array (Option Value)} {N ps : List Str} {sp : Sp}
    (lk : K.lookup f = some ⟨oc, od, .func (PySem.W.fnOf nm qual pms bd sc dV kV doc pm an cdv ct), osl⟩) (hcd : PySem.W.codeIn K cdv qual = true) (S : FnScope N ps sc) (hlen : ∀ vs H Q E, sp vs H Q E → vs.length = ps.length)
    (hbd : ∀ (Ar : Around) (out : List Env) (st : Shared) (H : Hp) (vs : List V) (Q : VK) (E : XK) (pl : List (Addr × Obj)), q ∈ pl → RmW k (Ar.deeper (envOfC qual sc st.heap.objs.size f cdv)) → HotP (Ar.deeper (envOfC qual sc st.heap.objs.size f cdv)) pl → sp vs H Q E →
      ∃ t, PSs (cxW CX P w K mg base N qual sc f cdv Ar out st H E pl) bd t ∧ t { nx := fun _ H' => Q .non H', rt := Q } (start N vs) H) :
    FnM q P w K mg base CX (k + 1) f (PySem.W.fnOf nm qual pms bd sc dV kV doc pm an cdv ct) ps sp := by
  refine ⟨hlen, fun Ar out st H ags us vs Q E pl hq rm hot hpl en bnd rv hsp => ?_⟩
  have ln := hlen _ _ _ _ hsp
  have keep : ∀ b o, base.get? b = some o → st.heap.get? b = some o := fun b o e => (en.bs b o e).1
  have KI : K.In st.heap := en.mod.kin.keeps keep
  have nl : st.heap.NoLimit := en.mod.nolimit.keeps keep
  have kinds : ∀ z ∈ ps.zip us, sc.names.lookup z.1 = some .local ∨ (sc.names.lookup z.1 = some .cell ∧ ((cellsFrom (st.heap.objs.size + 1) sc.names []).lookup z.1).isSome = true) := by
    rintro ⟨n, v⟩ hz
    exact (S.par n (List.of_mem_zip hz).1).imp id fun q => ⟨q, PySem.W.cellsFrom_some _ _ _ (.inl q)⟩
  refine codeAny_call_function rm.toRoomH.depth (KI _ _ lk) rfl S.co S.gen rfl (PySem.W.codeRec_of KI hcd) (bnd _ _ _ _ ?_)
  refine wpAny_newFunctionEnv_cells S.kind kinds fun env he s2 x => ?_
  subst he
  refine ⟨nl.keeps x.toInCall.keep, codeAny_func ?_⟩
  obtain ⟨t, h1, h2⟩ := hbd Ar out st H vs Q E pl hq (rm.deep _) hot hsp
  have I0 : Inv (cxW CX P w K mg base N qual sc f cdv Ar out st H E pl) [] (start N vs) H s2 := inv_startW S hpl en ln rv x
  refine wpAny_mono (h1.run [] s2 (start N vs) H _ I0 h2) (fun fl s3 hs => ?_) fun _ _ z => z
  cases fl with
  | next =>
    obtain ⟨_, H3, J, q⟩ := hs
    exact ⟨V.non, H3, J.os, J.bare, J.base, J.hok, (rfl : RelV V.non Value.none), q⟩
  | ret u =>
    obtain ⟨v, _, H3, J, r3, q⟩ := hs
    exact ⟨v, H3, J.os, J.bare, J.base, J.hok, r3, q⟩
  | brk => exact hs.elim fun _ z => z.elim fun _ z => z.2.elim
  | cont => exact hs.elim fun _ z => z.elim fun _ z => z.2.elim
theorem fn_okM {x qual : Str} {st : Stmt} {f : Addr} {fd : FuncData} {N ps : List Str} {k n : Nat} {m : SS} (F : Fun K x qual st f fd) (S : FnScope N ps (defScope st)) (hn : N.length = n)
    (hb : ∀ (cdv : Value) (A : Around) (outer : List Env) (s : Shared) (H : Hp) (E : XK) (pl : List (Addr × Obj)), q ∈ pl → RmW k (A.deeper (envOfC qual (defScope st) s.heap.objs.size f cdv)) → HotP (A.deeper (envOfC qual (defScope st) s.heap.objs.size f cdv)) pl →
      PSs (cxW (L3.CX P w) P w K mg base N qual (defScope st) f cdv A outer s H E pl) (defBody st) (tS K (fun cls d _ H => E cls d H) m)) : FnM q P w K mg base (L3.CX P w) (k + 1) f fd ps (spF K ps.length (runB n m)) := by
  subst hn
  obtain ⟨oc, od, kV, doc, pm, an, cdv, ct, osl, rfl, lk, hcd⟩ := F.ex
  refine fnM_of lk hcd S (fun vs H Q E ⟨al, B, h, ws, hr, r, l, p⟩ => r.length.symm.trans l) fun A outer s H vs Q E pl hq hr hot h => ⟨_, hb cdv A outer s H E pl hq hr hot, ?_⟩
  obtain ⟨al, B, hh, ws, hr2, r, l, p⟩ := h
  exact ⟨al, B, _, hh, sim_start hr2 r, ps_run p fun _ _ _ _ _ z => z⟩
end
theorem call_isXm {X : Cx} {a D : Addr} {d : Option Addr} {oe : Obj} (hp : (a, oe) ∈ X.pn) (C : ExcC X.K D) (hz : Zc (.ref D) d oe) (hf : ∃ vs, oe.data = .fields vs) : CallR X (.builtin "isinstance") (rIsX X.K D a d) := by
  intro pins s σ H xs us Q I r h
  obtain ⟨hd, h⟩ := h
  obtain ⟨hget, _⟩ := I.pin (a, oe) (List.mem_append_left _ hp)
  have J : ∃ od, PySem.W.InstAt s.heap a oe D od := by
    obtain ⟨ws, hv⟩ := hf
    obtain ⟨oc, od, oda, osl⟩ := oe
    obtain ⟨h1, h2⟩ := hz
    dsimp only at h1 h2 hv
    subst h1 hv
    rcases hd with rfl | ⟨d0, gs, rfl, hx⟩
    · subst h2
      exact ⟨none, hget, rfl, rfl, trivial⟩
    · subst h2
      have hx' : ObjOk X.prog X.w H s.heap d0 (.xd gs) := I.hok d0 _ hx
      obtain ⟨mA, hns, _⟩ := hx'
      obtain ⟨o2, ho, _⟩ := lookIn_ns hns
      exact ⟨some o2, hget, rfl, rfl, ho⟩
  obtain ⟨od, J⟩ := J
  rcases h with ⟨c, cv, b, rfl, hcv, e, q⟩ | ⟨t, vs, cvs, b, rfl, hT, hcv, e, q⟩
  · cases r with
    | cons rx rr =>
      cases rr with
      | cons rt rr =>
        cases rr
        cases rx
        have ec := hcv _ rt
        subst ec
        exact PySem.W.kia_one (PySem.W.zq_kitx C.hg C.hk C.hs C.hd C.ha C.hn C.ht C.hm) I.kIn J e (fun z => nomatch z) fun tk => ⟨.bl b, H, I.kept (t' := tk) fun _ _ z => z, rfl, q⟩
  · cases r with
    | cons rx rr =>
      cases rr with
      | cons rt rr =>
        cases rr
        cases rx
        cases rt
        obtain ⟨its, r', ⟨⟨cls, dd, data, sl⟩, ho, hc, n, hd⟩, _⟩ := I.tuple hT
        simp only at hc hd
        subst hc hd
        have ei := hcv its r'
        subst ei
        exact PySem.W.kia_tup (PySem.W.zq_kitx C.hg C.hk C.hs C.hd C.ha C.hn C.ht C.hm) I.kIn J ho e (fun z => nomatch z) fun tk => ⟨.bl b, H, I.kept (t' := tk) fun _ _ z => z, rfl, q⟩
end Z
namespace K03
open PySem PySem.Spec PyProof.Rows L2 Z
noncomputable section
/-! printed: evaluators of the defs -/
def c_ALONE : Val := .tup ((["add", "less", "times", "over", "same", "below", "twin", "swap", "away", "say", "back", "throw", "done", "lead", "turn"] : List Str).map Val.str)
def c_LEADING : Val := .tup ((["go", "if", "try"] : List Str).map Val.str)
def c_LETTERS : Val := .str "abcdefghijklmnopqrstuvwxyz"
def c_MOST_LETTERS : Val := .int 8
def c_MOST_LONG : Val := .int 60
def c_MOST_NAMES : Val := .int 3
def c_MOST_PARTS : Val := .int 8
def c_MOST_WORTH : Val := .int 1000000000000
def c_NAMED : Val := .tup ((["get", "set", "look", "change"] : List Str).map Val.str)
def g_bz_are_unlike_names_1_most {α : Type} (us mv ws : List α) : List α := us ++ (ws ++ mv)
def g_bz_are_unlike_names_1_most_least {α : Type} (us mv ws : List α) : List α := us ++ (ws ++ mv)
def m_is_whole : SS := (nSeq (nRet (sAnd (sArgs fIsi (aCons (sVar 0) (aCons (sC (.ty "int")) aNil))) (sNot (sArgs fIsi (aCons (sVar 0) (aCons (sC (.ty "bool")) aNil)))))) nNext)
def F_is_whole : List Val → M Val := runB 1 m_is_whole
theorem e_is_whole (a0 : Val) (h : HH) : F_is_whole [a0] h = outOf (m_is_whole [some a0] h) := rfl
def m_is_worth : SS := (nSeq (nRet (sAnd (sCall F_is_whole 1 0 1 (fun ws _ => ws) (aCons (sVar 0) aNil) aNil) (sBin (bOrd fun i j => decide (i ≤ j)) (sArgs fAbs (aCons (sVar 0) aNil)) (sC c_MOST_WORTH)))) nNext)
def F_is_worth : List Val → M Val := runB 1 m_is_worth
theorem e_is_worth (a0 : Val) (h : HH) : F_is_worth [a0] h = outOf (m_is_worth [some a0] h) := rfl
def m_is_name : SS := (nSeq (nIf (cOr (cNot (cV (sArgs fIsi (aCons (sVar 0) (aCons (sC (.ty "str")) aNil))))) (cNot (asT (sChn (sC (.int 1)) (kLink (bOrd fun i j => decide (i ≤ j)) (sArgs fLen (aCons (sVar 0) aNil)) (kLast (bOrd fun i j => decide (i ≤ j)) (sC c_MOST_LETTERS))))))) (nSeq (nRet (sC (.bl false))) nNext) nNext) (nSeq (nRet (sArgs fAll (aCons (sLc (iVal (sVar 0)) (gNm 1) tYesZ (sBin (bIn false) (sVar 1) (sC c_LETTERS)) [1]) aNil))) nNext))
def F_is_name : List Val → M Val := runB 2 m_is_name
theorem e_is_name (a0 : Val) (h : HH) : F_is_name [a0] h = outOf (m_is_name [some a0, none] h) := rfl
def m_are_unlike_names : SS := (nSeq (nIf (cOr (cNot (cV (sArgs fIsi (aCons (sVar 0) (aCons (sC (.ty "tuple")) aNil))))) (cOr (cNot (asT (sChn (sVar 2) (kLink (bOrd fun i j => decide (i ≤ j)) (sArgs fLen (aCons (sVar 0) aNil)) (kLast (bOrd fun i j => decide (i ≤ j)) (sVar 1)))))) (cNot (cV (sArgs fAll (aCons (sLc (iVal (sVar 0)) (gNm 3) tYesZ (sCall F_is_name 1 0 1 (fun ws _ => ws) (aCons (sVar 3) aNil) aNil) [3]) aNil)))))) (nSeq (nRet (sC (.bl false))) nNext) nNext) (nSeq (nRet (sBin bEq (sUn uLset (sVar 0)) (sArgs fLen (aCons (sVar 0) aNil)))) nNext))
def F_are_unlike_names : List Val → M Val := runB 4 m_are_unlike_names
theorem e_are_unlike_names (a0 a1 a2 : Val) (h : HH) : F_are_unlike_names [a0, a1, a2] h = outOf (m_are_unlike_names [some a0, some a1, some a2, none] h) := rfl
def m_is_led_to : SS := (nSeq (nAsg (sVar 0) (gTp 2 (gsCons (gNm 3) (gsCons (gNm 4) gsNil)))) (nSeq (nIf (cOr (cNot (cV (sCall F_is_whole 1 0 1 (fun ws _ => ws) (aCons (sVar 4) aNil) aNil))) (cNot (asT (sChn (sC (.int 0)) (kLink (bOrd fun i j => decide (i ≤ j)) (sVar 4) (kLast (bOrd fun i j => decide (i < j)) (sArgs fLen (aCons (sVar 2) aNil)))))))) (nSeq (nRet (sC (.bl false))) nNext) nNext) (nSeq (nRet (sOr (sBin bNe (sVar 3) (sC (.str "try"))) (sBin bNe (sVar 4) (sBin bAdd (sVar 1) (sC (.int 1)))))) nNext)))
def F_is_led_to : List Val → M Val := runB 5 m_is_led_to
theorem e_is_led_to (a0 a1 a2 : Val) (h : HH) : F_is_led_to [a0, a1, a2] h = outOf (m_is_led_to [some a0, some a1, some a2, none, none] h) := rfl
def m_is_row : SS := (nSeq (nIf (cOr (cNot (cV (sArgs fIsi (aCons (sVar 0) (aCons (sC (.ty "tuple")) aNil))))) (cOr (cBin bEq (sVar 0) (sArgs fTup aNil)) (cNot (cV (sArgs fIsi (aCons (sBin bIx (sVar 0) (sC (.int 0))) (aCons (sC (.ty "str")) aNil))))))) (nSeq (nRet (sC (.bl false))) nNext) nNext) (nSeq (nIf (cBin (bIn false) (sBin bIx (sVar 0) (sC (.int 0))) (sC c_ALONE)) (nSeq (nRet (sBin bEq (sArgs fLen (aCons (sVar 0) aNil)) (sC (.int 1)))) nNext) nNext) (nSeq (nIf (cBin bNe (sArgs fLen (aCons (sVar 0) aNil)) (sC (.int 2))) (nSeq (nRet (sC (.bl false))) nNext) nNext) (nSeq (nIf (cBin bEq (sBin bIx (sVar 0) (sC (.int 0))) (sC (.str "put"))) (nSeq (nRet (sCall F_is_worth 1 0 1 (fun ws _ => ws) (aCons (sBin bIx (sVar 0) (sC (.int 1))) aNil) aNil)) nNext) nNext) (nSeq (nIf (cBin bEq (sBin bIx (sVar 0) (sC (.int 0))) (sC (.str "call"))) (nSeq (nRet (sAnd (sCall F_is_name 1 0 1 (fun ws _ => ws) (aCons (sBin bIx (sVar 0) (sC (.int 1))) aNil) aNil) (sBin (bIn false) (sBin bIx (sVar 0) (sC (.int 1))) (sVar 3)))) nNext) nNext) (nSeq (nIf (cBin (bIn false) (sBin bIx (sVar 0) (sC (.int 0))) (sC c_LEADING)) (nSeq (nRet (sCall F_is_led_to 3 0 3 (fun ws _ => ws) (aCons (sVar 0) (aCons (sVar 1) (aCons (sVar 2) aNil))) aNil)) nNext) nNext) (nSeq (nRet (sAnd (sBin (bIn false) (sBin bIx (sVar 0) (sC (.int 0))) (sC c_NAMED)) (sCall F_is_name 1 0 1 (fun ws _ => ws) (aCons (sBin bIx (sVar 0) (sC (.int 1))) aNil) aNil))) nNext)))))))
def F_is_row : List Val → M Val := runB 4 m_is_row
theorem e_is_row (a0 a1 a2 a3 : Val) (h : HH) : F_is_row [a0, a1, a2, a3] h = outOf (m_is_row [some a0, some a1, some a2, some a3] h) := rfl
def m_is_headed : SS := (nSeq (nIf (cOr (cNot (cV (sArgs fIsi (aCons (sVar 0) (aCons (sC (.ty "tuple")) aNil))))) (cOr (cBin bNe (sArgs fLen (aCons (sVar 0) aNil)) (sC (.int 3))) (cNot (cV (sCall F_is_name 1 0 1 (fun ws _ => ws) (aCons (sBin bIx (sVar 0) (sC (.int 0))) aNil) aNil))))) (nSeq (nRet (sC (.bl false))) nNext) nNext) (nSeq (nIf (cNot (cV (sCall F_are_unlike_names 1 1 3 (fun us ws => g_bz_are_unlike_names_1_most us [(.int 0)] ws) (aCons (sBin bIx (sVar 0) (sC (.int 1))) aNil) (aCons (sC c_MOST_NAMES) aNil)))) (nSeq (nRet (sC (.bl false))) nNext) nNext) (nSeq (nRet (sAnd (sArgs fIsi (aCons (sBin bIx (sVar 0) (sC (.int 2))) (aCons (sC (.ty "tuple")) aNil))) (sChn (sC (.int 1)) (kLink (bOrd fun i j => decide (i ≤ j)) (sArgs fLen (aCons (sBin bIx (sVar 0) (sC (.int 2))) aNil)) (kLast (bOrd fun i j => decide (i ≤ j)) (sC c_MOST_LONG)))))) nNext)))
def F_is_headed : List Val → M Val := runB 1 m_is_headed
theorem e_is_headed (a0 : Val) (h : HH) : F_is_headed [a0] h = outOf (m_is_headed [some a0] h) := rfl
def m_is_program : SS := (nSeq (nIf (cOr (cNot (cV (sArgs fIsi (aCons (sVar 0) (aCons (sC (.ty "tuple")) aNil))))) (cNot (cV (sArgs fAll (aCons (sLc (iVal (sVar 0)) (gNm 2) tYesZ (sCall F_is_headed 1 0 1 (fun ws _ => ws) (aCons (sVar 2) aNil) aNil) [2]) aNil))))) (nSeq (nRet (sC (.bl false))) nNext) nNext) (nSeq (nSet 1 (sArgs fTpl (aCons (sLc (iVal (sVar 0)) (gNm 2) tYesZ (sBin bIx (sVar 2) (sC (.int 0))) [2]) aNil))) (nSeq (nIf (cNot (cV (sCall F_are_unlike_names 1 2 3 (fun us ws => g_bz_are_unlike_names_1_most_least us [] ws) (aCons (sVar 1) aNil) (aCons (sC c_MOST_PARTS) (aCons (sC (.int 1)) aNil))))) (nSeq (nRet (sC (.bl false))) nNext) nNext) (nSeq (nRet (sArgs fAll (aCons (sLc2 (iVal (sVar 0)) (gTp 3 (gsCons (gNm 3) (gsCons (gNm 4) (gsCons (gNm 5) gsNil)))) tYesZ (iEn (aCons (sVar 5) aNil)) (gTp 2 (gsCons (gNm 6) (gsCons (gNm 7) gsNil))) tYesZ (sCall F_is_row 4 0 4 (fun ws _ => ws) (aCons (sVar 7) (aCons (sVar 6) (aCons (sVar 5) (aCons (sVar 1) aNil)))) aNil) [3, 4, 5, 6, 7] [6, 7]) aNil))) nNext))))
def F_is_program : List Val → M Val := runB 8 m_is_program
theorem e_is_program (a0 : Val) (h : HH) : F_is_program [a0] h = outOf (m_is_program [some a0, none, none, none, none, none, none, none] h) := rfl
def m_look_program (C_NoProgram : Addr) : SS := (nSeq (nIf (cNot (cV (sCall F_is_program 1 0 1 (fun ws _ => ws) (aCons (sVar 0) aNil) aNil))) (nSeq (nRaise ⟨.ref C_NoProgram, []⟩) nNext) nNext) nNext)
def F_look_program (C_NoProgram : Addr) : List Val → M Val := runB 1 (m_look_program C_NoProgram)
theorem e_look_program (C_NoProgram : Addr) (a0 : Val) (h : HH) : F_look_program C_NoProgram [a0] h = outOf (m_look_program C_NoProgram [some a0] h) := rfl
def m_number_of (C_NoPart : Addr) : SS := (nSeq (nIf (cNot (cV (sCall F_is_name 1 0 1 (fun ws _ => ws) (aCons (sVar 1) aNil) aNil))) (nSeq (nRaiseF C_NoPart "name" (sVar 1)) nNext) nNext) (nSeq (nSet 2 (sDc (iEn (aCons (sVar 0) aNil)) (gTp 2 (gsCons (gNm 5) (gsCons (gSt (gsCons (gNm 6) (gsCons (gNm 7) gsNil))) gsNil))) tYesZ (sVar 6) (sVar 5) [5, 6, 7])) (nSeq (nTryO (sDGetO (sVar 2) (sVar 1)) (fun w ro h => .go .nx (ro.set 3 (some w)) h) 4 (fun a => (nSeq (nRaiseFr 4 a C_NoPart "name" (sVar 1)) nNext))) (nSeq (nRet (sVar 3)) nNext))))
def F_number_of (C_NoPart : Addr) : List Val → M Val := runB 8 (m_number_of C_NoPart)
theorem e_number_of (C_NoPart : Addr) (a0 a1 : Val) (h : HH) : F_number_of C_NoPart [a0, a1] h = outOf (m_number_of C_NoPart [some a0, some a1, none, none, none, none, none, none] h) := rfl
def m_look_row (C_NoRow : Addr) : SS := (nSeq (nIf (cOr (cNot (cV (sCall F_is_whole 1 0 1 (fun ws _ => ws) (aCons (sVar 2) aNil) aNil))) (cNot (asT (sChn (sC (.int 0)) (kLink (bOrd fun i j => decide (i ≤ j)) (sVar 2) (kLast (bOrd fun i j => decide (i < j)) (sArgs fLen (aCons (sBin bIx (sBin bIx (sVar 0) (sVar 1)) (sC (.int 2))) aNil)))))))) (nSeq (nRaiseF C_NoRow "row" (sVar 2)) nNext) nNext) nNext)
def F_look_row (C_NoRow : Addr) : List Val → M Val := runB 3 (m_look_row C_NoRow)
theorem e_look_row (C_NoRow : Addr) (a0 a1 a2 : Val) (h : HH) : F_look_row C_NoRow [a0, a1, a2] h = outOf (m_look_row C_NoRow [some a0, some a1, some a2] h) := rfl
def m_part_number (C_NoPart : Addr) (C_NoProgram : Addr) : SS := (nSeq (nExpr (sCall (F_look_program C_NoProgram) 1 0 1 (fun ws _ => ws) (aCons (sVar 0) aNil) aNil)) (nSeq (nRet (sCall (F_number_of C_NoPart) 2 0 2 (fun ws _ => ws) (aCons (sVar 0) (aCons (sVar 1) aNil)) aNil)) nNext))
def F_part_number (C_NoPart : Addr) (C_NoProgram : Addr) : List Val → M Val := runB 2 (m_part_number C_NoPart C_NoProgram)
theorem e_part_number (C_NoPart : Addr) (C_NoProgram : Addr) (a0 a1 : Val) (h : HH) : F_part_number C_NoPart C_NoProgram [a0, a1] h = outOf (m_part_number C_NoPart C_NoProgram [some a0, some a1] h) := rfl
def m_row_at (C_NoPart : Addr) (C_NoProgram : Addr) (C_NoRow : Addr) : SS := (nSeq (nExpr (sCall (F_look_program C_NoProgram) 1 0 1 (fun ws _ => ws) (aCons (sVar 0) aNil) aNil)) (nSeq (nSet 3 (sCall (F_number_of C_NoPart) 2 0 2 (fun ws _ => ws) (aCons (sVar 0) (aCons (sVar 1) aNil)) aNil)) (nSeq (nExpr (sCall (F_look_row C_NoRow) 3 0 3 (fun ws _ => ws) (aCons (sVar 0) (aCons (sVar 3) (aCons (sVar 2) aNil))) aNil)) (nSeq (nRet (sBin bIx (sBin bIx (sBin bIx (sVar 0) (sVar 3)) (sC (.int 2))) (sVar 2))) nNext))))
def F_row_at (C_NoPart : Addr) (C_NoProgram : Addr) (C_NoRow : Addr) : List Val → M Val := runB 4 (m_row_at C_NoPart C_NoProgram C_NoRow)
theorem e_row_at (C_NoPart : Addr) (C_NoProgram : Addr) (C_NoRow : Addr) (a0 a1 a2 : Val) (h : HH) : F_row_at C_NoPart C_NoProgram C_NoRow [a0, a1, a2] h = outOf (m_row_at C_NoPart C_NoProgram C_NoRow [some a0, some a1, some a2, none] h) := rfl
def m__law_bag : SS := (nSeq (nSet 2 (sC (.int 0))) (nSeq (nIf (cBin (bOrd fun i j => decide (i < j)) (sVar 1) (sArgs fLen (aCons (sVar 0) aNil))) (nSeq (nSet 2 (sBin bIx (sVar 0) (sVar 1))) nNext) nNext) (nSeq (nSet 3 (sArgs fAbs (aCons (sVar 2) aNil))) (nSeq (nIf (cBin (bOrd fun i j => decide (i < j)) (sVar 3) (sBin bPow (sC (.int 10)) (sC (.int 18)))) (nSeq (nSet 3 (sC (.int 0))) nNext) nNext) (nSeq (nRet (sArgs fNew (aCons (sVar 3) (aCons (sBin bAdd (sBin bAdd (sBin bMod (sVar 2) (sC (.int 1000000000000000003))) (sBin bMul (sC (.int 104729)) (sVar 1))) (sC (.int 17))) (aCons (sC (.int 0)) aNil))))) nNext)))))
def F__law_bag : List Val → M Val := runB 4 m__law_bag
theorem e__law_bag (a0 a1 : Val) (h : HH) : F__law_bag [a0, a1] h = outOf (m__law_bag [some a0, some a1, none, none] h) := rfl
def m__law_take : SS := (nSeq (nIf (cBin (bOrd fun i j => decide (j < i)) (sBin bIx (sVar 0) (sC (.int 0))) (sC (.int 0))) (nSeq (nSet 6 (sBin bMod (sBin bIx (sVar 0) (sC (.int 0))) (sVar 1))) (nSeq (nAsg (sBin bDiv (sBin bIx (sVar 0) (sC (.int 0))) (sVar 1)) (gSb (sVar 0) (sC (.int 0)))) (nSeq (nRet (sVar 6)) nNext))) nNext) (nSeq (nSet 2 (sArgs fTup (aCons (sC (.int 2147483629)) (aCons (sC (.int 2147483587)) (aCons (sC (.int 2147483579)) (aCons (sC (.int 2147483563)) (aCons (sC (.int 2147483549)) (aCons (sC (.int 2147483543)) (aCons (sC (.int 2147483497)) aNil))))))))) (nSeq (nAsg (sBin bAdd (sBin bIx (sVar 0) (sC (.int 2))) (sC (.int 1))) (gSb (sVar 0) (sC (.int 2)))) (nSeq (nSet 3 (sBin bIx (sVar 0) (sC (.int 2)))) (nSeq (nSet 4 (sBin bAdd (sBin bAdd (sBin bMul (sBin bIx (sVar 0) (sC (.int 1))) (sBin bAdd (sBin bMul (sC (.int 2)) (sVar 3)) (sC (.int 1)))) (sBin bMul (sBin bMul (sC (.int 7919)) (sVar 3)) (sVar 3))) (sC (.int 29)))) (nSeq (nSet 5 (sBin bMod (sBin bPow (sVar 4) (sC (.int 3))) (sBin bIx (sVar 2) (sBin bMod (sVar 3) (sC (.int 7)))))) (nSeq (nRet (sBin bMod (sBin bDiv (sBin bMod (sBin bMul (sVar 5) (sBin bAdd (sBin bDiv (sVar 5) (sC (.int 4096))) (sVar 3))) (sBin bIx (sVar 2) (sBin bMod (sBin bAdd (sVar 3) (sC (.int 3))) (sC (.int 7))))) (sC (.int 16))) (sVar 1))) nNext)))))))
def F__law_take : List Val → M Val := runB 7 m__law_take
theorem e__law_take (a0 a1 : Val) (h : HH) : F__law_take [a0, a1] h = outOf (m__law_take [some a0, some a1, none, none, none, none, none] h) := rfl
def m__law_worth : SS := (nSeq (nSet 1 (sCall F__law_take 2 0 2 (fun ws _ => ws) (aCons (sVar 0) (aCons (sC (.int 8)) aNil)) aNil)) (nSeq (nIf (cBin (bOrd fun i j => decide (i < j)) (sVar 1) (sC (.int 5))) (nSeq (nRet (sBin bSub (sCall F__law_take 2 0 2 (fun ws _ => ws) (aCons (sVar 0) (aCons (sC (.int 9)) aNil)) aNil) (sC (.int 3)))) nNext) nNext) (nSeq (nIf (cBin bEq (sVar 1) (sC (.int 5))) (nSeq (nRet (sBin bIx (sArgs fLst (aCons (sBin bPow (sC (.int 10)) (sC (.int 12))) (aCons (sUn uNeg (sBin bPow (sC (.int 10)) (sC (.int 12)))) (aCons (sBin bPow (sC (.int 10)) (sC (.int 6))) (aCons (sUn uNeg (sBin bPow (sC (.int 10)) (sC (.int 6)))) aNil))))) (sCall F__law_take 2 0 2 (fun ws _ => ws) (aCons (sVar 0) (aCons (sC (.int 4)) aNil)) aNil))) nNext) nNext) (nSeq (nRet (sBin bSub (sCall F__law_take 2 0 2 (fun ws _ => ws) (aCons (sVar 0) (aCons (sC (.int 2000001)) aNil)) aNil) (sC (.int 1000000)))) nNext))))
def F__law_worth : List Val → M Val := runB 2 m__law_worth
theorem e__law_worth (a0 : Val) (h : HH) : F__law_worth [a0] h = outOf (m__law_worth [some a0, none] h) := rfl
def m__law_names : SS := (nSeq (nSet 2 (sC (.str "abcdefghijklmnopqrstuvwxyz"))) (nSeq (nSet 3 (sCall F__law_take 2 0 2 (fun ws _ => ws) (aCons (sVar 0) (aCons (sC (.int 26)) aNil)) aNil)) (nSeq (nSet 4 (sCall F__law_take 2 0 2 (fun ws _ => ws) (aCons (sVar 0) (aCons (sC (.int 8)) aNil)) aNil)) (nSeq (nRet (sLc (iRgN 1 (aCons (sVar 1) aNil)) (gNm 5) tYesZ (sBin bAdd (sBin bIx (sVar 2) (sBin bMod (sBin bAdd (sVar 3) (sVar 5)) (sC (.int 26)))) (sBin bMulS (sBin bIx (sVar 2) (sVar 3)) (sVar 4))) [5])) nNext))))
def F__law_names : List Val → M Val := runB 6 m__law_names
theorem e__law_names (a0 a1 : Val) (h : HH) : F__law_names [a0, a1] h = outOf (m__law_names [some a0, some a1, none, none, none, none] h) := rfl
def m__law_any_row : SS := (nSeq (nSet 5 (sSm mSplit (sC (.str "add less times over same below twin swap away say back throw done lead turn")) (sC (.str " ")))) (nSeq (nSet 6 (sCall F__law_take 2 0 2 (fun ws _ => ws) (aCons (sVar 0) (aCons (sC (.int 10)) aNil)) aNil)) (nSeq (nSet 7 (sCall F__law_take 2 0 2 (fun ws _ => ws) (aCons (sVar 0) (aCons (sVar 2) aNil)) aNil)) (nSeq (nIf (cBin bEq (sVar 6) (sC (.int 0))) (nSeq (nRet (sArgs fTup (aCons (sC (.str "put")) (aCons (sCall F__law_worth 1 0 1 (fun ws _ => ws) (aCons (sVar 0) aNil) aNil) aNil)))) nNext) nNext) (nSeq (nIf (cBin (bOrd fun i j => decide (i < j)) (sVar 6) (sC (.int 3))) (nSeq (nRet (sArgs fTup (aCons (sBin bIx (sArgs fLst (aCons (sC (.str "get")) (aCons (sC (.str "set")) (aCons (sC (.str "look")) (aCons (sC (.str "change")) aNil))))) (sCall F__law_take 2 0 2 (fun ws _ => ws) (aCons (sVar 0) (aCons (sC (.int 4)) aNil)) aNil)) (aCons (sBin bIx (sVar 4) (sCall F__law_take 2 0 2 (fun ws _ => ws) (aCons (sVar 0) (aCons (sArgs fLen (aCons (sVar 4) aNil)) aNil)) aNil)) aNil)))) nNext) nNext) (nSeq (nIf (cBin bEq (sVar 6) (sC (.int 3))) (nSeq (nRet (sArgs fTup (aCons (sC (.str "call")) (aCons (sBin bIx (sVar 3) (sCall F__law_take 2 0 2 (fun ws _ => ws) (aCons (sVar 0) (aCons (sArgs fLen (aCons (sVar 3) aNil)) aNil)) aNil)) aNil)))) nNext) nNext) (nSeq (nIf (cBin (bOrd fun i j => decide (i < j)) (sVar 6) (sC (.int 6))) (nSeq (nRet (sArgs fTup (aCons (sC (.str "go")) (aCons (sVar 7) aNil)))) nNext) nNext) (nSeq (nIf (cBin bEq (sVar 6) (sC (.int 6))) (nSeq (nRet (sArgs fTup (aCons (sC (.str "if")) (aCons (sVar 7) aNil)))) nNext) nNext) (nSeq (nIf (cAnd (cBin bEq (sVar 6) (sC (.int 7))) (cBin bNe (sVar 7) (sBin bAdd (sVar 1) (sC (.int 1))))) (nSeq (nRet (sArgs fTup (aCons (sC (.str "try")) (aCons (sVar 7) aNil)))) nNext) nNext) (nSeq (nRet (sArgs fTup (aCons (sBin bIx (sVar 5) (sCall F__law_take 2 0 2 (fun ws _ => ws) (aCons (sVar 0) (aCons (sC (.int 15)) aNil)) aNil)) aNil))) nNext))))))))))
def F__law_any_row : List Val → M Val := runB 8 m__law_any_row
theorem e__law_any_row (a0 a1 a2 a3 a4 : Val) (h : HH) : F__law_any_row [a0, a1, a2, a3, a4] h = outOf (m__law_any_row [some a0, some a1, some a2, some a3, some a4, none, none, none] h) := rfl
def m__law_any_program : SS := (nSeq (nSet 1 (sCall F__law_take 2 0 2 (fun ws _ => ws) (aCons (sVar 0) (aCons (sC (.int 8)) aNil)) aNil)) (nSeq (nSet 2 (sCall F__law_names 2 0 2 (fun ws _ => ws) (aCons (sVar 0) (aCons (sBin bIx (sArgs fLst (aCons (sBin bAdd (sC (.int 1)) (sCall F__law_take 2 0 2 (fun ws _ => ws) (aCons (sVar 0) (aCons (sC (.int 4)) aNil)) aNil)) (aCons (sC (.int 8)) aNil))) (sArgs fInt (aCons (sBin bEq (sVar 1) (sC (.int 6))) aNil))) aNil)) aNil)) (nSeq (nSet 3 (sCall F__law_names 2 0 2 (fun ws _ => ws) (aCons (sVar 0) (aCons (sC (.int 4)) aNil)) aNil)) (nSeq (nSet 4 (sArgs fNew aNil)) (nSeq (nFor (iVal (sVar 2)) (gNm 5) (nSeq (nSet 6 (sBin bIx (sArgs fLst (aCons (sBin bAdd (sC (.int 1)) (sCall F__law_take 2 0 2 (fun ws _ => ws) (aCons (sVar 0) (aCons (sC (.int 12)) aNil)) aNil)) (aCons (sC (.int 60)) aNil))) (sArgs fInt (aCons (sBin bEq (sVar 1) (sC (.int 7))) aNil)))) (nSeq (nSet 7 (sArgs fTpl (aCons (sLc (iRgN 1 (aCons (sVar 6) aNil)) (gNm 8) tYesZ (sCall F__law_any_row 5 0 5 (fun ws _ => ws) (aCons (sVar 0) (aCons (sVar 8) (aCons (sVar 6) (aCons (sVar 2) (aCons (sVar 3) aNil))))) aNil) [8]) aNil))) (nSeq (nExpr (sMtL mApp (sVar 4) (aCons (sArgs fTup (aCons (sVar 5) (aCons (sArgs fTpl (aCons (sSl (sVar 3) oNone (oSome (sCall F__law_take 2 0 2 (fun ws _ => ws) (aCons (sVar 0) (aCons (sC (.int 4)) aNil)) aNil))) aNil)) (aCons (sVar 7) aNil)))) aNil))) nNext)))) (nSeq (nRet (sArgs fTpl (aCons (sVar 4) aNil))) nNext))))))
def F__law_any_program : List Val → M Val := runB 9 m__law_any_program
theorem e__law_any_program (a0 : Val) (h : HH) : F__law_any_program [a0] h = outOf (m__law_any_program [some a0, none, none, none, none, none, none, none, none] h) := rfl
def m__law_kind_NoPart (C_Busy : Addr) (C_NoHook : Addr) (C_NoMark : Addr) (C_NoNumbers : Addr) (C_NoPart : Addr) (C_NoProgram : Addr) (C_NoRow : Addr) (C_NoText : Addr) (C_NoWord : Addr) (C_TooLong : Addr) (C_TooMany : Addr) (C_Unsound : Addr) (e : Ex) (a dd : Addr) : SS := (nSeq (nSet 1 (sArgs fLst (aCons (sArgs fTup (aCons (sC (.str "NoProgram")) (aCons (sArgs (fIsX e a dd [(.glo C_NoProgram)] false) (aCons (sVar 0) (aCons (sC (.glo C_NoProgram)) aNil))) (aCons (sArgs (fIsX e a dd [(.ty "ValueError")] false) (aCons (sVar 0) (aCons (sC (.ty "ValueError")) aNil))) aNil)))) (aCons (sArgs fTup (aCons (sC (.str "NoPart")) (aCons (sArgs (fIsX e a dd [(.glo C_NoPart)] true) (aCons (sVar 0) (aCons (sC (.glo C_NoPart)) aNil))) (aCons (sArgs (fIsX e a dd [(.ty "KeyError")] true) (aCons (sVar 0) (aCons (sC (.ty "KeyError")) aNil))) aNil)))) (aCons (sArgs fTup (aCons (sC (.str "NoRow")) (aCons (sArgs (fIsX e a dd [(.glo C_NoRow)] false) (aCons (sVar 0) (aCons (sC (.glo C_NoRow)) aNil))) (aCons (sArgs (fIsX e a dd [(.ty "IndexError")] false) (aCons (sVar 0) (aCons (sC (.ty "IndexError")) aNil))) aNil)))) (aCons (sArgs fTup (aCons (sC (.str "TooLong")) (aCons (sArgs (fIsX e a dd [(.glo C_TooLong)] false) (aCons (sVar 0) (aCons (sC (.glo C_TooLong)) aNil))) (aCons (sArgs (fIsX e a dd [(.ty "OverflowError")] false) (aCons (sVar 0) (aCons (sC (.ty "OverflowError")) aNil))) aNil)))) (aCons (sArgs fTup (aCons (sC (.str "Unsound")) (aCons (sArgs (fIsX e a dd [(.glo C_Unsound)] false) (aCons (sVar 0) (aCons (sC (.glo C_Unsound)) aNil))) (aCons (sArgs (fIsX e a dd [(.ty "ValueError")] false) (aCons (sVar 0) (aCons (sC (.ty "ValueError")) aNil))) aNil)))) (aCons (sArgs fTup (aCons (sC (.str "NoNumbers")) (aCons (sArgs (fIsX e a dd [(.glo C_NoNumbers)] false) (aCons (sVar 0) (aCons (sC (.glo C_NoNumbers)) aNil))) (aCons (sArgs (fIsX e a dd [(.ty "ValueError")] false) (aCons (sVar 0) (aCons (sC (.ty "ValueError")) aNil))) aNil)))) (aCons (sArgs fTup (aCons (sC (.str "NoHook")) (aCons (sArgs (fIsX e a dd [(.glo C_NoHook)] false) (aCons (sVar 0) (aCons (sC (.glo C_NoHook)) aNil))) (aCons (sArgs (fIsX e a dd [(.ty "LookupError")] true) (aCons (sVar 0) (aCons (sC (.ty "LookupError")) aNil))) aNil)))) (aCons (sArgs fTup (aCons (sC (.str "TooMany")) (aCons (sArgs (fIsX e a dd [(.glo C_TooMany)] false) (aCons (sVar 0) (aCons (sC (.glo C_TooMany)) aNil))) (aCons (sArgs (fIsX e a dd [(.ty "OverflowError")] false) (aCons (sVar 0) (aCons (sC (.ty "OverflowError")) aNil))) aNil)))) (aCons (sArgs fTup (aCons (sC (.str "Busy")) (aCons (sArgs (fIsX e a dd [(.glo C_Busy)] false) (aCons (sVar 0) (aCons (sC (.glo C_Busy)) aNil))) (aCons (sArgs (fIsX e a dd [(.ty "RuntimeError")] false) (aCons (sVar 0) (aCons (sC (.ty "RuntimeError")) aNil))) aNil)))) (aCons (sArgs fTup (aCons (sC (.str "NoText")) (aCons (sArgs (fIsX e a dd [(.glo C_NoText)] false) (aCons (sVar 0) (aCons (sC (.glo C_NoText)) aNil))) (aCons (sArgs (fIsX e a dd [(.ty "ValueError")] false) (aCons (sVar 0) (aCons (sC (.ty "ValueError")) aNil))) aNil)))) (aCons (sArgs fTup (aCons (sC (.str "NoWord")) (aCons (sArgs (fIsX e a dd [(.glo C_NoWord)] false) (aCons (sVar 0) (aCons (sC (.glo C_NoWord)) aNil))) (aCons (sArgs (fIsX e a dd [(.ty "ValueError")] false) (aCons (sVar 0) (aCons (sC (.ty "ValueError")) aNil))) aNil)))) (aCons (sArgs fTup (aCons (sC (.str "NoMark")) (aCons (sArgs (fIsX e a dd [(.glo C_NoMark)] false) (aCons (sVar 0) (aCons (sC (.glo C_NoMark)) aNil))) (aCons (sArgs (fIsX e a dd [(.ty "KeyError")] true) (aCons (sVar 0) (aCons (sC (.ty "KeyError")) aNil))) aNil)))) aNil)))))))))))))) (nSeq (nSet 2 (sLc (iLs (sVar 1)) (gTt 3 (gsCons (gNm 4) (gsCons (gNm 5) (gsCons (gNm 6) gsNil)))) (cV (sVar 5)) (sVar 4) [4, 5, 6])) (nSeq (nSet 3 (sLc (iLs (sVar 1)) (gTt 3 (gsCons (gNm 4) (gsCons (gNm 5) (gsCons (gNm 6) gsNil)))) (cAnd (cV (sVar 5)) (cV (sVar 6))) (sVar 4) [4, 5, 6])) (nSeq (nIf (cAnd (cBin bEq (sArgs fLen (aCons (sVar 2) aNil)) (sC (.int 1))) (cBin bEq (sVar 2) (sVar 3))) (nSeq (nRet (sBin bIx (sVar 2) (sC (.int 0)))) nNext) nNext) (nSeq (nRet (sC (.str "another"))) nNext)))))
def F__law_kind_NoPart (C_Busy : Addr) (C_NoHook : Addr) (C_NoMark : Addr) (C_NoNumbers : Addr) (C_NoPart : Addr) (C_NoProgram : Addr) (C_NoRow : Addr) (C_NoText : Addr) (C_NoWord : Addr) (C_TooLong : Addr) (C_TooMany : Addr) (C_Unsound : Addr) (e : Ex) (a dd : Addr) : List Val → M Val := runB 7 (m__law_kind_NoPart C_Busy C_NoHook C_NoMark C_NoNumbers C_NoPart C_NoProgram C_NoRow C_NoText C_NoWord C_TooLong C_TooMany C_Unsound e a dd)
theorem e__law_kind_NoPart (C_Busy : Addr) (C_NoHook : Addr) (C_NoMark : Addr) (C_NoNumbers : Addr) (C_NoPart : Addr) (C_NoProgram : Addr) (C_NoRow : Addr) (C_NoText : Addr) (C_NoWord : Addr) (C_TooLong : Addr) (C_TooMany : Addr) (C_Unsound : Addr) (e : Ex) (a dd : Addr) (a0 : Val) (h : HH) : F__law_kind_NoPart C_Busy C_NoHook C_NoMark C_NoNumbers C_NoPart C_NoProgram C_NoRow C_NoText C_NoWord C_TooLong C_TooMany C_Unsound e a dd [a0] h = outOf (m__law_kind_NoPart C_Busy C_NoHook C_NoMark C_NoNumbers C_NoPart C_NoProgram C_NoRow C_NoText C_NoWord C_TooLong C_TooMany C_Unsound e a dd [some a0, none, none, none, none, none, none] h) := rfl
def m__law_kind_NoRow (C_Busy : Addr) (C_NoHook : Addr) (C_NoMark : Addr) (C_NoNumbers : Addr) (C_NoPart : Addr) (C_NoProgram : Addr) (C_NoRow : Addr) (C_NoText : Addr) (C_NoWord : Addr) (C_TooLong : Addr) (C_TooMany : Addr) (C_Unsound : Addr) (e : Ex) (a dd : Addr) : SS := (nSeq (nSet 1 (sArgs fLst (aCons (sArgs fTup (aCons (sC (.str "NoProgram")) (aCons (sArgs (fIsX e a dd [(.glo C_NoProgram)] false) (aCons (sVar 0) (aCons (sC (.glo C_NoProgram)) aNil))) (aCons (sArgs (fIsX e a dd [(.ty "ValueError")] false) (aCons (sVar 0) (aCons (sC (.ty "ValueError")) aNil))) aNil)))) (aCons (sArgs fTup (aCons (sC (.str "NoPart")) (aCons (sArgs (fIsX e a dd [(.glo C_NoPart)] false) (aCons (sVar 0) (aCons (sC (.glo C_NoPart)) aNil))) (aCons (sArgs (fIsX e a dd [(.ty "KeyError")] false) (aCons (sVar 0) (aCons (sC (.ty "KeyError")) aNil))) aNil)))) (aCons (sArgs fTup (aCons (sC (.str "NoRow")) (aCons (sArgs (fIsX e a dd [(.glo C_NoRow)] true) (aCons (sVar 0) (aCons (sC (.glo C_NoRow)) aNil))) (aCons (sArgs (fIsX e a dd [(.ty "IndexError")] true) (aCons (sVar 0) (aCons (sC (.ty "IndexError")) aNil))) aNil)))) (aCons (sArgs fTup (aCons (sC (.str "TooLong")) (aCons (sArgs (fIsX e a dd [(.glo C_TooLong)] false) (aCons (sVar 0) (aCons (sC (.glo C_TooLong)) aNil))) (aCons (sArgs (fIsX e a dd [(.ty "OverflowError")] false) (aCons (sVar 0) (aCons (sC (.ty "OverflowError")) aNil))) aNil)))) (aCons (sArgs fTup (aCons (sC (.str "Unsound")) (aCons (sArgs (fIsX e a dd [(.glo C_Unsound)] false) (aCons (sVar 0) (aCons (sC (.glo C_Unsound)) aNil))) (aCons (sArgs (fIsX e a dd [(.ty "ValueError")] false) (aCons (sVar 0) (aCons (sC (.ty "ValueError")) aNil))) aNil)))) (aCons (sArgs fTup (aCons (sC (.str "NoNumbers")) (aCons (sArgs (fIsX e a dd [(.glo C_NoNumbers)] false) (aCons (sVar 0) (aCons (sC (.glo C_NoNumbers)) aNil))) (aCons (sArgs (fIsX e a dd [(.ty "ValueError")] false) (aCons (sVar 0) (aCons (sC (.ty "ValueError")) aNil))) aNil)))) (aCons (sArgs fTup (aCons (sC (.str "NoHook")) (aCons (sArgs (fIsX e a dd [(.glo C_NoHook)] false) (aCons (sVar 0) (aCons (sC (.glo C_NoHook)) aNil))) (aCons (sArgs (fIsX e a dd [(.ty "LookupError")] true) (aCons (sVar 0) (aCons (sC (.ty "LookupError")) aNil))) aNil)))) (aCons (sArgs fTup (aCons (sC (.str "TooMany")) (aCons (sArgs (fIsX e a dd [(.glo C_TooMany)] false) (aCons (sVar 0) (aCons (sC (.glo C_TooMany)) aNil))) (aCons (sArgs (fIsX e a dd [(.ty "OverflowError")] false) (aCons (sVar 0) (aCons (sC (.ty "OverflowError")) aNil))) aNil)))) (aCons (sArgs fTup (aCons (sC (.str "Busy")) (aCons (sArgs (fIsX e a dd [(.glo C_Busy)] false) (aCons (sVar 0) (aCons (sC (.glo C_Busy)) aNil))) (aCons (sArgs (fIsX e a dd [(.ty "RuntimeError")] false) (aCons (sVar 0) (aCons (sC (.ty "RuntimeError")) aNil))) aNil)))) (aCons (sArgs fTup (aCons (sC (.str "NoText")) (aCons (sArgs (fIsX e a dd [(.glo C_NoText)] false) (aCons (sVar 0) (aCons (sC (.glo C_NoText)) aNil))) (aCons (sArgs (fIsX e a dd [(.ty "ValueError")] false) (aCons (sVar 0) (aCons (sC (.ty "ValueError")) aNil))) aNil)))) (aCons (sArgs fTup (aCons (sC (.str "NoWord")) (aCons (sArgs (fIsX e a dd [(.glo C_NoWord)] false) (aCons (sVar 0) (aCons (sC (.glo C_NoWord)) aNil))) (aCons (sArgs (fIsX e a dd [(.ty "ValueError")] false) (aCons (sVar 0) (aCons (sC (.ty "ValueError")) aNil))) aNil)))) (aCons (sArgs fTup (aCons (sC (.str "NoMark")) (aCons (sArgs (fIsX e a dd [(.glo C_NoMark)] false) (aCons (sVar 0) (aCons (sC (.glo C_NoMark)) aNil))) (aCons (sArgs (fIsX e a dd [(.ty "KeyError")] false) (aCons (sVar 0) (aCons (sC (.ty "KeyError")) aNil))) aNil)))) aNil)))))))))))))) (nSeq (nSet 2 (sLc (iLs (sVar 1)) (gTt 3 (gsCons (gNm 4) (gsCons (gNm 5) (gsCons (gNm 6) gsNil)))) (cV (sVar 5)) (sVar 4) [4, 5, 6])) (nSeq (nSet 3 (sLc (iLs (sVar 1)) (gTt 3 (gsCons (gNm 4) (gsCons (gNm 5) (gsCons (gNm 6) gsNil)))) (cAnd (cV (sVar 5)) (cV (sVar 6))) (sVar 4) [4, 5, 6])) (nSeq (nIf (cAnd (cBin bEq (sArgs fLen (aCons (sVar 2) aNil)) (sC (.int 1))) (cBin bEq (sVar 2) (sVar 3))) (nSeq (nRet (sBin bIx (sVar 2) (sC (.int 0)))) nNext) nNext) (nSeq (nRet (sC (.str "another"))) nNext)))))
def F__law_kind_NoRow (C_Busy : Addr) (C_NoHook : Addr) (C_NoMark : Addr) (C_NoNumbers : Addr) (C_NoPart : Addr) (C_NoProgram : Addr) (C_NoRow : Addr) (C_NoText : Addr) (C_NoWord : Addr) (C_TooLong : Addr) (C_TooMany : Addr) (C_Unsound : Addr) (e : Ex) (a dd : Addr) : List Val → M Val := runB 7 (m__law_kind_NoRow C_Busy C_NoHook C_NoMark C_NoNumbers C_NoPart C_NoProgram C_NoRow C_NoText C_NoWord C_TooLong C_TooMany C_Unsound e a dd)
theorem e__law_kind_NoRow (C_Busy : Addr) (C_NoHook : Addr) (C_NoMark : Addr) (C_NoNumbers : Addr) (C_NoPart : Addr) (C_NoProgram : Addr) (C_NoRow : Addr) (C_NoText : Addr) (C_NoWord : Addr) (C_TooLong : Addr) (C_TooMany : Addr) (C_Unsound : Addr) (e : Ex) (a dd : Addr) (a0 : Val) (h : HH) : F__law_kind_NoRow C_Busy C_NoHook C_NoMark C_NoNumbers C_NoPart C_NoProgram C_NoRow C_NoText C_NoWord C_TooLong C_TooMany C_Unsound e a dd [a0] h = outOf (m__law_kind_NoRow C_Busy C_NoHook C_NoMark C_NoNumbers C_NoPart C_NoProgram C_NoRow C_NoText C_NoWord C_TooLong C_TooMany C_Unsound e a dd [some a0, none, none, none, none, none, none] h) := rfl
def m__law_odd : SS := (nSeq (nSet 1 (sArgs fLst (aCons (sC .non) (aCons (sC (.bl true)) (aCons (sC (.bl false)) (aCons (sUn uNeg (sC (.int 1))) (aCons (sC (.int 60)) (aCons (sBin bPow (sC (.int 10)) (sC (.int 39))) (aCons (sC (.str "")) (aCons (sC (.str "none")) (aCons (sC (.str "Main")) (aCons (sC (.str "abcdefghi")) (aCons (sArgs fLst aNil) (aCons (sArgs fTup aNil) (aCons (sArgs fTup (aCons (sC (.int 0)) aNil)) (aCons (sArgs fLst (aCons (sC (.str "a")) aNil)) (aCons (sArgs fTup (aCons (sC (.str "back")) aNil)) (aCons (sArgs fLst (aCons (sArgs fLst (aCons (sC (.int 0)) aNil)) aNil)) aNil)))))))))))))))))) (nSeq (nRet (sBin bIx (sVar 1) (sCall F__law_take 2 0 2 (fun ws _ => ws) (aCons (sVar 0) (aCons (sC (.int 16)) aNil)) aNil))) nNext))
def F__law_odd : List Val → M Val := runB 2 m__law_odd
theorem e__law_odd (a0 : Val) (h : HH) : F__law_odd [a0] h = outOf (m__law_odd [some a0, none] h) := rfl
def m__law_told (C_Busy : Addr) (C_NoHook : Addr) (C_NoMark : Addr) (C_NoNumbers : Addr) (C_NoPart : Addr) (C_NoProgram : Addr) (C_NoRow : Addr) (C_NoText : Addr) (C_NoWord : Addr) (C_TooLong : Addr) (C_TooMany : Addr) (C_Unsound : Addr) : SS := (nSeq (nTryM (nSeq (nSet 3 (sCall (F_part_number C_NoPart C_NoProgram) 2 0 2 (fun ws _ => ws) (aCons (sVar 0) (aCons (sVar 1) aNil)) aNil)) nNext) ((onlyN C_NoPart [C_NoRow], 4, fun e a dd => (nSeq (nSet 3 (sArgs fLst (aCons (sCall ((F__law_kind_NoPart C_Busy C_NoHook C_NoMark C_NoNumbers C_NoPart C_NoProgram C_NoRow C_NoText C_NoWord C_TooLong C_TooMany C_Unsound) e a dd) 1 0 1 (fun ws _ => ws) (aCons (sVar 4) aNil) aNil) (aCons (sFld e a dd "name" (sVar 4)) aNil)))) nNext)) :: [])) (nSeq (nTryM (nSeq (nSet 5 (sCall (F_row_at C_NoPart C_NoProgram C_NoRow) 3 0 3 (fun ws _ => ws) (aCons (sVar 0) (aCons (sVar 1) (aCons (sVar 2) aNil))) aNil)) nNext) ((onlyN C_NoPart [C_NoRow], 4, fun e a dd => (nSeq (nSet 5 (sArgs fLst (aCons (sCall ((F__law_kind_NoPart C_Busy C_NoHook C_NoMark C_NoNumbers C_NoPart C_NoProgram C_NoRow C_NoText C_NoWord C_TooLong C_TooMany C_Unsound) e a dd) 1 0 1 (fun ws _ => ws) (aCons (sVar 4) aNil) aNil) (aCons (sFld e a dd "name" (sVar 4)) aNil)))) nNext)) :: (onlyN C_NoRow [], 4, fun e a dd => (nSeq (nSet 5 (sArgs fLst (aCons (sCall ((F__law_kind_NoRow C_Busy C_NoHook C_NoMark C_NoNumbers C_NoPart C_NoProgram C_NoRow C_NoText C_NoWord C_TooLong C_TooMany C_Unsound) e a dd) 1 0 1 (fun ws _ => ws) (aCons (sVar 4) aNil) aNil) (aCons (sFld e a dd "row" (sVar 4)) aNil)))) nNext)) :: [])) (nSeq (nRet (sArgs fLst (aCons (sVar 3) (aCons (sVar 5) aNil)))) nNext)))
def F__law_told (C_Busy : Addr) (C_NoHook : Addr) (C_NoMark : Addr) (C_NoNumbers : Addr) (C_NoPart : Addr) (C_NoProgram : Addr) (C_NoRow : Addr) (C_NoText : Addr) (C_NoWord : Addr) (C_TooLong : Addr) (C_TooMany : Addr) (C_Unsound : Addr) : List Val → M Val := runB 6 (m__law_told C_Busy C_NoHook C_NoMark C_NoNumbers C_NoPart C_NoProgram C_NoRow C_NoText C_NoWord C_TooLong C_TooMany C_Unsound)
theorem e__law_told (C_Busy : Addr) (C_NoHook : Addr) (C_NoMark : Addr) (C_NoNumbers : Addr) (C_NoPart : Addr) (C_NoProgram : Addr) (C_NoRow : Addr) (C_NoText : Addr) (C_NoWord : Addr) (C_TooLong : Addr) (C_TooMany : Addr) (C_Unsound : Addr) (a0 a1 a2 : Val) (h : HH) : F__law_told C_Busy C_NoHook C_NoMark C_NoNumbers C_NoPart C_NoProgram C_NoRow C_NoText C_NoWord C_TooLong C_TooMany C_Unsound [a0, a1, a2] h = outOf (m__law_told C_Busy C_NoHook C_NoMark C_NoNumbers C_NoPart C_NoProgram C_NoRow C_NoText C_NoWord C_TooLong C_TooMany C_Unsound [some a0, some a1, some a2, none, none, none] h) := rfl
def m__law_alike : SS := (nSeq (nRet (sAnd (sBin (bEqD false) (sVar 0) (sVar 1)) (sBin bEq (sArgs fRepr (aCons (sVar 0) aNil)) (sArgs fRepr (aCons (sVar 1) aNil))))) nNext)
def F__law_alike : List Val → M Val := runB 2 m__law_alike
theorem e__law_alike (a0 a1 : Val) (h : HH) : F__law_alike [a0, a1] h = outOf (m__law_alike [some a0, some a1] h) := rfl
def m__law_due : SS := (nSeq (nSet 3 (sLc (iVal (sVar 0)) (gNm 6) tYesZ (sBin bIx (sVar 6) (sC (.int 0))) [6])) (nSeq (nIf (cOr (cNot (cV (sArgs fIsi (aCons (sVar 1) (aCons (sC (.ty "str")) aNil))))) (cBin (bIn true) (sVar 1) (sVar 3))) (nSeq (nRet (sArgs fLst (aCons (sArgs fLst (aCons (sC (.str "NoPart")) (aCons (sVar 1) aNil))) (aCons (sArgs fLst (aCons (sC (.str "NoPart")) (aCons (sVar 1) aNil))) aNil)))) nNext) nNext) (nSeq (nSet 4 (sMtI mIdxL (sVar 3) (aCons (sVar 1) aNil))) (nSeq (nSet 5 (sBin bIx (sBin bIx (sVar 0) (sVar 4)) (sC (.int 2)))) (nSeq (nIf (cOr (cV (sArgs fIsi (aCons (sVar 2) (aCons (sC (.ty "bool")) aNil)))) (cOr (cNot (cV (sArgs fIsi (aCons (sVar 2) (aCons (sC (.ty "int")) aNil))))) (cNot (asT (sChn (sC (.int 0)) (kLink (bOrd fun i j => decide (i ≤ j)) (sVar 2) (kLast (bOrd fun i j => decide (i < j)) (sArgs fLen (aCons (sVar 5) aNil))))))))) (nSeq (nRet (sArgs fLst (aCons (sVar 4) (aCons (sArgs fLst (aCons (sC (.str "NoRow")) (aCons (sVar 2) aNil))) aNil)))) nNext) nNext) (nSeq (nRet (sArgs fLst (aCons (sVar 4) (aCons (sBin bIx (sVar 5) (sVar 2)) aNil)))) nNext))))))
def F__law_due : List Val → M Val := runB 7 m__law_due
theorem e__law_due (a0 a1 a2 : Val) (h : HH) : F__law_due [a0, a1, a2] h = outOf (m__law_due [some a0, some a1, some a2, none, none, none, none] h) := rfl
def m_law (C_Busy : Addr) (C_NoHook : Addr) (C_NoMark : Addr) (C_NoNumbers : Addr) (C_NoPart : Addr) (C_NoProgram : Addr) (C_NoRow : Addr) (C_NoText : Addr) (C_NoWord : Addr) (C_TooLong : Addr) (C_TooMany : Addr) (C_Unsound : Addr) : SS := (nSeq (nFor (iRgN 1 (aCons (sArgs fMax (aCons (sC (.int 2)) (aCons (sArgs fMin (aCons (sC (.int 6)) (aCons (sArgs fLen (aCons (sVar 0) aNil)) aNil))) aNil))) aNil)) (gNm 1) (nSeq (nSet 2 (sCall F__law_bag 2 0 2 (fun ws _ => ws) (aCons (sVar 0) (aCons (sVar 1) aNil)) aNil)) (nSeq (nSet 3 (sCall F__law_any_program 1 0 1 (fun ws _ => ws) (aCons (sVar 2) aNil) aNil)) (nSeq (nFor (iRgN 1 (aCons (sC (.int 16)) aNil)) (gNm 4) (nSeq (nSet 5 (sBin bIx (sBin bIx (sVar 3) (sCall F__law_take 2 0 2 (fun ws _ => ws) (aCons (sVar 2) (aCons (sArgs fLen (aCons (sVar 3) aNil)) aNil)) aNil)) (sC (.int 0)))) (nSeq (nSet 6 (sBin bSub (sCall F__law_take 2 0 2 (fun ws _ => ws) (aCons (sVar 2) (aCons (sC (.int 14)) aNil)) aNil) (sC (.int 1)))) (nSeq (nIf (cBin (bOrd fun i j => decide (j < i)) (sVar 4) (sC (.int 7))) (nSeq (nSet 5 (sBin bIx (sArgs fLst (aCons (sVar 5) (aCons (sCall F__law_odd 1 0 1 (fun ws _ => ws) (aCons (sVar 2) aNil) aNil) aNil))) (sCall F__law_take 2 0 2 (fun ws _ => ws) (aCons (sVar 2) (aCons (sC (.int 2)) aNil)) aNil))) (nSeq (nSet 6 (sBin bIx (sArgs fLst (aCons (sVar 6) (aCons (sCall F__law_odd 1 0 1 (fun ws _ => ws) (aCons (sVar 2) aNil) aNil) aNil))) (sCall F__law_take 2 0 2 (fun ws _ => ws) (aCons (sVar 2) (aCons (sC (.int 2)) aNil)) aNil))) nNext)) nNext) (nSeq (nIf (cNot (cV (sCall F__law_alike 2 0 2 (fun ws _ => ws) (aCons (sCall (F__law_told C_Busy C_NoHook C_NoMark C_NoNumbers C_NoPart C_NoProgram C_NoRow C_NoText C_NoWord C_TooLong C_TooMany C_Unsound) 3 0 3 (fun ws _ => ws) (aCons (sVar 3) (aCons (sVar 5) (aCons (sVar 6) aNil))) aNil) (aCons (sCall F__law_due 3 0 3 (fun ws _ => ws) (aCons (sVar 3) (aCons (sVar 5) (aCons (sVar 6) aNil))) aNil) aNil)) aNil))) (nSeq (nRet (sC (.bl false))) nNext) nNext) nNext))))) nNext)))) (nSeq (nRet (sC (.bl true))) nNext))
def F_law (C_Busy : Addr) (C_NoHook : Addr) (C_NoMark : Addr) (C_NoNumbers : Addr) (C_NoPart : Addr) (C_NoProgram : Addr) (C_NoRow : Addr) (C_NoText : Addr) (C_NoWord : Addr) (C_TooLong : Addr) (C_TooMany : Addr) (C_Unsound : Addr) : List Val → M Val := runB 7 (m_law C_Busy C_NoHook C_NoMark C_NoNumbers C_NoPart C_NoProgram C_NoRow C_NoText C_NoWord C_TooLong C_TooMany C_Unsound)
theorem e_law (C_Busy : Addr) (C_NoHook : Addr) (C_NoMark : Addr) (C_NoNumbers : Addr) (C_NoPart : Addr) (C_NoProgram : Addr) (C_NoRow : Addr) (C_NoText : Addr) (C_NoWord : Addr) (C_TooLong : Addr) (C_TooMany : Addr) (C_Unsound : Addr) (a0 : Val) (h : HH) : F_law C_Busy C_NoHook C_NoMark C_NoNumbers C_NoPart C_NoProgram C_NoRow C_NoText C_NoWord C_TooLong C_TooMany C_Unsound [a0] h = outOf (m_law C_Busy C_NoHook C_NoMark C_NoNumbers C_NoPart C_NoProgram C_NoRow C_NoText C_NoWord C_TooLong C_TooMany C_Unsound [some a0, none, none, none, none, none, none] h) := rfl
end
end K03
namespace K03
open PySem PySem.Spec PyProof.Rows L2 Z
def top (i : Nat) : Stmt := PySem.Challenge.pw_watchedrun_k03_parts_and_rows.main.body.getD i (.Pass ⟨0, 0, 0, 0⟩)
def D23 : {s : Stmt // s = top 23} := ⟨_, by conv => { rhs; whnf }⟩
def D24 : {s : Stmt // s = top 24} := ⟨_, by conv => { rhs; whnf }⟩
def D25 : {s : Stmt // s = top 25} := ⟨_, by conv => { rhs; whnf }⟩
def D26 : {s : Stmt // s = top 26} := ⟨_, by conv => { rhs; whnf }⟩
def D27 : {s : Stmt // s = top 27} := ⟨_, by conv => { rhs; whnf }⟩
def D28 : {s : Stmt // s = top 28} := ⟨_, by conv => { rhs; whnf }⟩
def D29 : {s : Stmt // s = top 29} := ⟨_, by conv => { rhs; whnf }⟩
def D30 : {s : Stmt // s = top 30} := ⟨_, by conv => { rhs; whnf }⟩
def D31 : {s : Stmt // s = top 31} := ⟨_, by conv => { rhs; whnf }⟩
def D32 : {s : Stmt // s = top 32} := ⟨_, by conv => { rhs; whnf }⟩
def D33 : {s : Stmt // s = top 33} := ⟨_, by conv => { rhs; whnf }⟩
def D34 : {s : Stmt // s = top 34} := ⟨_, by conv => { rhs; whnf }⟩
def D35 : {s : Stmt // s = top 35} := ⟨_, by conv => { rhs; whnf }⟩
def D37 : {s : Stmt // s = top 37} := ⟨_, by conv => { rhs; whnf }⟩
def D38 : {s : Stmt // s = top 38} := ⟨_, by conv => { rhs; whnf }⟩
def D39 : {s : Stmt // s = top 39} := ⟨_, by conv => { rhs; whnf }⟩
def D40 : {s : Stmt // s = top 40} := ⟨_, by conv => { rhs; whnf }⟩
def D41 : {s : Stmt // s = top 41} := ⟨_, by conv => { rhs; whnf }⟩
def D42 : {s : Stmt // s = top 42} := ⟨_, by conv => { rhs; whnf }⟩
def D43 : {s : Stmt // s = top 43} := ⟨_, by conv => { rhs; whnf }⟩
def D44 : {s : Stmt // s = top 44} := ⟨_, by conv => { rhs; whnf }⟩
def D45 : {s : Stmt // s = top 45} := ⟨_, by conv => { rhs; whnf }⟩
def D46 : {s : Stmt // s = top 46} := ⟨_, by conv => { rhs; whnf }⟩
def D47 : {s : Stmt // s = top 47} := ⟨_, by conv => { rhs; whnf }⟩
def D48 : {s : Stmt // s = top 48} := ⟨_, by conv => { rhs; whnf }⟩
structure Txt (w : World) (K : PySem.W.Frag) (mg : Str → Option Value) where
  g_IndexError : mg "IndexError" = none
  g_KeyError : mg "KeyError" = none
  g_LookupError : mg "LookupError" = none
  g_OverflowError : mg "OverflowError" = none
  g_RuntimeError : mg "RuntimeError" = none
  g_ValueError : mg "ValueError" = none
  g_abs : mg "abs" = none
  g_all : mg "all" = none
  g_bool : mg "bool" = none
  g_enumerate : mg "enumerate" = none
  g_int : mg "int" = none
  g_isinstance : mg "isinstance" = none
  g_len : mg "len" = none
  g_max : mg "max" = none
  g_min : mg "min" = none
  g_range : mg "range" = none
  g_repr : mg "repr" = none
  g_set : mg "set" = none
  g_str : mg "str" = none
  g_tuple : mg "tuple" = none
  k_ALONE : Cst K mg "ALONE" c_ALONE
  k_LEADING : Cst K mg "LEADING" c_LEADING
  k_LETTERS : Cst K mg "LETTERS" c_LETTERS
  k_MOST_LETTERS : Cst K mg "MOST_LETTERS" c_MOST_LETTERS
  k_MOST_LONG : Cst K mg "MOST_LONG" c_MOST_LONG
  k_MOST_NAMES : Cst K mg "MOST_NAMES" c_MOST_NAMES
  k_MOST_PARTS : Cst K mg "MOST_PARTS" c_MOST_PARTS
  k_MOST_WORTH : Cst K mg "MOST_WORTH" c_MOST_WORTH
  k_NAMED : Cst K mg "NAMED" c_NAMED
  C_NoProgram : Addr
  e_NoProgram : ExcT K mg "NoProgram" C_NoProgram [.type "ValueError", .type "Exception", .type "BaseException", .type "object"] "ValueError.__new__"
  C_NoPart : Addr
  n_NoPart : mg "NoPart" = some (.ref C_NoPart)
  C_NoRow : Addr
  n_NoRow : mg "NoRow" = some (.ref C_NoRow)
  C_NoMark : Addr
  n_NoMark : mg "NoMark" = some (.ref C_NoMark)
  C_NoWord : Addr
  n_NoWord : mg "NoWord" = some (.ref C_NoWord)
  C_NoText : Addr
  n_NoText : mg "NoText" = some (.ref C_NoText)
  C_Busy : Addr
  n_Busy : mg "Busy" = some (.ref C_Busy)
  C_TooMany : Addr
  n_TooMany : mg "TooMany" = some (.ref C_TooMany)
  C_NoHook : Addr
  n_NoHook : mg "NoHook" = some (.ref C_NoHook)
  C_NoNumbers : Addr
  n_NoNumbers : mg "NoNumbers" = some (.ref C_NoNumbers)
  C_Unsound : Addr
  n_Unsound : mg "Unsound" = some (.ref C_Unsound)
  C_TooLong : Addr
  n_TooLong : mg "TooLong" = some (.ref C_TooLong)
  n_NoProgram : mg "NoProgram" = some (.ref C_NoProgram)
  I_NoPart : Addr
  nt_NoPart : PySem.NX_NoPart.XTxt K mg C_NoPart I_NoPart
  I_NoRow : Addr
  nt_NoRow : PySem.NX_NoRow.XTxt K mg C_NoRow I_NoRow
  sn_NoRow_NoPart : PySem.W.subIn K (.ref C_NoRow) (.ref C_NoPart) = some false
  ne_NoPart_NoRow : C_NoPart ≠ C_NoRow
  x_NoPart : L2.ExcC K C_NoPart
  x_NoRow : L2.ExcC K C_NoRow
  i_0 : PySem.W.kitAny K (.ref C_NoPart) [.type "KeyError"] = some true
  i_1 : PySem.W.kitAny K (.ref C_NoPart) [.ref C_NoMark] = some false
  i_2 : PySem.W.kitAny K (.ref C_NoPart) [.type "ValueError"] = some false
  i_3 : PySem.W.kitAny K (.ref C_NoPart) [.ref C_NoWord] = some false
  i_4 : PySem.W.kitAny K (.ref C_NoPart) [.ref C_NoText] = some false
  i_5 : PySem.W.kitAny K (.ref C_NoPart) [.type "RuntimeError"] = some false
  i_6 : PySem.W.kitAny K (.ref C_NoPart) [.ref C_Busy] = some false
  i_7 : PySem.W.kitAny K (.ref C_NoPart) [.type "OverflowError"] = some false
  i_8 : PySem.W.kitAny K (.ref C_NoPart) [.ref C_TooMany] = some false
  i_9 : PySem.W.kitAny K (.ref C_NoPart) [.type "LookupError"] = some true
  i_10 : PySem.W.kitAny K (.ref C_NoPart) [.ref C_NoHook] = some false
  i_11 : PySem.W.kitAny K (.ref C_NoPart) [.ref C_NoNumbers] = some false
  i_12 : PySem.W.kitAny K (.ref C_NoPart) [.ref C_Unsound] = some false
  i_13 : PySem.W.kitAny K (.ref C_NoPart) [.ref C_TooLong] = some false
  i_14 : PySem.W.kitAny K (.ref C_NoPart) [.type "IndexError"] = some false
  i_15 : PySem.W.kitAny K (.ref C_NoPart) [.ref C_NoRow] = some false
  i_16 : PySem.W.kitAny K (.ref C_NoPart) [.ref C_NoPart] = some true
  i_17 : PySem.W.kitAny K (.ref C_NoPart) [.ref C_NoProgram] = some false
  i_18 : PySem.W.kitAny K (.ref C_NoRow) [.type "KeyError"] = some false
  i_19 : PySem.W.kitAny K (.ref C_NoRow) [.ref C_NoMark] = some false
  i_20 : PySem.W.kitAny K (.ref C_NoRow) [.type "ValueError"] = some false
  i_21 : PySem.W.kitAny K (.ref C_NoRow) [.ref C_NoWord] = some false
  i_22 : PySem.W.kitAny K (.ref C_NoRow) [.ref C_NoText] = some false
  i_23 : PySem.W.kitAny K (.ref C_NoRow) [.type "RuntimeError"] = some false
  i_24 : PySem.W.kitAny K (.ref C_NoRow) [.ref C_Busy] = some false
  i_25 : PySem.W.kitAny K (.ref C_NoRow) [.type "OverflowError"] = some false
  i_26 : PySem.W.kitAny K (.ref C_NoRow) [.ref C_TooMany] = some false
  i_27 : PySem.W.kitAny K (.ref C_NoRow) [.type "LookupError"] = some true
  i_28 : PySem.W.kitAny K (.ref C_NoRow) [.ref C_NoHook] = some false
  i_29 : PySem.W.kitAny K (.ref C_NoRow) [.ref C_NoNumbers] = some false
  i_30 : PySem.W.kitAny K (.ref C_NoRow) [.ref C_Unsound] = some false
  i_31 : PySem.W.kitAny K (.ref C_NoRow) [.ref C_TooLong] = some false
  i_32 : PySem.W.kitAny K (.ref C_NoRow) [.type "IndexError"] = some true
  i_33 : PySem.W.kitAny K (.ref C_NoRow) [.ref C_NoRow] = some true
  i_34 : PySem.W.kitAny K (.ref C_NoRow) [.ref C_NoPart] = some false
  i_35 : PySem.W.kitAny K (.ref C_NoRow) [.ref C_NoProgram] = some false
  a_is_whole : Addr
  d_is_whole : FuncData
  F_is_whole : Fun K "is_whole" "is_whole" D23.1 a_is_whole d_is_whole
  g_is_whole : mg "is_whole" = some (.ref a_is_whole)
  a_is_worth : Addr
  d_is_worth : FuncData
  F_is_worth : Fun K "is_worth" "is_worth" D24.1 a_is_worth d_is_worth
  g_is_worth : mg "is_worth" = some (.ref a_is_worth)
  a_is_name : Addr
  d_is_name : FuncData
  F_is_name : Fun K "is_name" "is_name" D25.1 a_is_name d_is_name
  g_is_name : mg "is_name" = some (.ref a_is_name)
  a_are_unlike_names : Addr
  d_are_unlike_names : FuncData
  F_are_unlike_names : FunD K "are_unlike_names" "are_unlike_names" (defArgs D26.1) (defBody D26.1) (defScope D26.1) [] [("least", (.int 0))] a_are_unlike_names d_are_unlike_names
  g_are_unlike_names : mg "are_unlike_names" = some (.ref a_are_unlike_names)
  a_is_led_to : Addr
  d_is_led_to : FuncData
  F_is_led_to : Fun K "is_led_to" "is_led_to" D27.1 a_is_led_to d_is_led_to
  g_is_led_to : mg "is_led_to" = some (.ref a_is_led_to)
  a_is_row : Addr
  d_is_row : FuncData
  F_is_row : Fun K "is_row" "is_row" D28.1 a_is_row d_is_row
  g_is_row : mg "is_row" = some (.ref a_is_row)
  a_is_headed : Addr
  d_is_headed : FuncData
  F_is_headed : Fun K "is_headed" "is_headed" D29.1 a_is_headed d_is_headed
  g_is_headed : mg "is_headed" = some (.ref a_is_headed)
  a_is_program : Addr
  d_is_program : FuncData
  F_is_program : Fun K "is_program" "is_program" D30.1 a_is_program d_is_program
  g_is_program : mg "is_program" = some (.ref a_is_program)
  a_look_program : Addr
  d_look_program : FuncData
  F_look_program : Fun K "look_program" "look_program" D31.1 a_look_program d_look_program
  g_look_program : mg "look_program" = some (.ref a_look_program)
  a_number_of : Addr
  d_number_of : FuncData
  F_number_of : Fun K "number_of" "number_of" D32.1 a_number_of d_number_of
  g_number_of : mg "number_of" = some (.ref a_number_of)
  a_look_row : Addr
  d_look_row : FuncData
  F_look_row : Fun K "look_row" "look_row" D33.1 a_look_row d_look_row
  g_look_row : mg "look_row" = some (.ref a_look_row)
  a_part_number : Addr
  d_part_number : FuncData
  F_part_number : Fun K "part_number" "part_number" D34.1 a_part_number d_part_number
  g_part_number : mg "part_number" = some (.ref a_part_number)
  a_row_at : Addr
  d_row_at : FuncData
  F_row_at : Fun K "row_at" "row_at" D35.1 a_row_at d_row_at
  g_row_at : mg "row_at" = some (.ref a_row_at)
  a__law_bag : Addr
  d__law_bag : FuncData
  F__law_bag : Fun K "_law_bag" "_law_bag" D37.1 a__law_bag d__law_bag
  g__law_bag : mg "_law_bag" = some (.ref a__law_bag)
  a__law_take : Addr
  d__law_take : FuncData
  F__law_take : Fun K "_law_take" "_law_take" D38.1 a__law_take d__law_take
  g__law_take : mg "_law_take" = some (.ref a__law_take)
  a__law_worth : Addr
  d__law_worth : FuncData
  F__law_worth : Fun K "_law_worth" "_law_worth" D39.1 a__law_worth d__law_worth
  g__law_worth : mg "_law_worth" = some (.ref a__law_worth)
  a__law_names : Addr
  d__law_names : FuncData
  F__law_names : Fun K "_law_names" "_law_names" D40.1 a__law_names d__law_names
  g__law_names : mg "_law_names" = some (.ref a__law_names)
  a__law_any_row : Addr
  d__law_any_row : FuncData
  F__law_any_row : Fun K "_law_any_row" "_law_any_row" D41.1 a__law_any_row d__law_any_row
  g__law_any_row : mg "_law_any_row" = some (.ref a__law_any_row)
  a__law_any_program : Addr
  d__law_any_program : FuncData
  F__law_any_program : Fun K "_law_any_program" "_law_any_program" D42.1 a__law_any_program d__law_any_program
  g__law_any_program : mg "_law_any_program" = some (.ref a__law_any_program)
  a__law_kind : Addr
  d__law_kind : FuncData
  F__law_kind : Fun K "_law_kind" "_law_kind" D43.1 a__law_kind d__law_kind
  g__law_kind : mg "_law_kind" = some (.ref a__law_kind)
  a__law_odd : Addr
  d__law_odd : FuncData
  F__law_odd : Fun K "_law_odd" "_law_odd" D44.1 a__law_odd d__law_odd
  g__law_odd : mg "_law_odd" = some (.ref a__law_odd)
  a__law_told : Addr
  d__law_told : FuncData
  F__law_told : Fun K "_law_told" "_law_told" D45.1 a__law_told d__law_told
  g__law_told : mg "_law_told" = some (.ref a__law_told)
  a__law_alike : Addr
  d__law_alike : FuncData
  F__law_alike : Fun K "_law_alike" "_law_alike" D46.1 a__law_alike d__law_alike
  g__law_alike : mg "_law_alike" = some (.ref a__law_alike)
  a__law_due : Addr
  d__law_due : FuncData
  F__law_due : Fun K "_law_due" "_law_due" D47.1 a__law_due d__law_due
  g__law_due : mg "_law_due" = some (.ref a__law_due)
  a_law : Addr
  d_law : FuncData
  F_law : Fun K "law" "law" D48.1 a_law d_law
  g_law : mg "law" = some (.ref a_law)
section
variable {P : Program} {w : World} {K : PySem.W.Frag} {mg : Str → Option Value} {base : Heap}
theorem s_is_whole : FnScope ["thing"] ["thing"] (defScope D23.1) := ⟨rfl, rfl, rfl, by decide +kernel, rfl, by decide +kernel, by decide +kernel⟩
theorem bz_is_whole (T : Txt w K mg) : KBz K T.d_is_whole ["thing"] 1 [] (fun ws _ => ws) := kbz_pos (T.F_is_whole.binds fun _ _ _ _ _ _ us hl => match us, hl with | [_], _ => rfl)
theorem ok_is_whole (T : Txt w K mg) : FnG P w K mg base (L3.CX P w) 1 T.a_is_whole T.d_is_whole ["thing"] (spF K ["thing"].length F_is_whole) := by
  have S := s_is_whole
  refine fn_ok (N := ["thing"]) (ps := ["thing"]) (n := 1) (k := 0) (m := m_is_whole) T.F_is_whole S rfl (fun cdv A outer s H E hr => ?_)
  exact (os_cons (os_ret (oe_and (oe_callB call_isi lk_isi rfl T.g_isinstance zb_isinstance (oa_cons (ov 0) (oa_cons (oe_ty rfl T.g_int zb_int) oa_nil rfl) rfl) (by decide) (by decide) rfl rfl) (oe_one (oe_not (oe_callB call_isi lk_isi rfl T.g_isinstance zb_isinstance (oa_cons (ov 0) (oa_cons (oe_ty rfl T.g_bool zb_bool) oa_nil rfl) rfl) (by decide) (by decide) rfl rfl))))) os_nil)
theorem s_is_worth : FnScope ["thing"] ["thing"] (defScope D24.1) := ⟨rfl, rfl, rfl, by decide +kernel, rfl, by decide +kernel, by decide +kernel⟩
theorem bz_is_worth (T : Txt w K mg) : KBz K T.d_is_worth ["thing"] 1 [] (fun ws _ => ws) := kbz_pos (T.F_is_worth.binds fun _ _ _ _ _ _ us hl => match us, hl with | [_], _ => rfl)
theorem ok_is_worth (T : Txt w K mg) : FnG P w K mg base (L3.CX P w) 2 T.a_is_worth T.d_is_worth ["thing"] (spF K ["thing"].length F_is_worth) := by
  have S := s_is_worth
  refine fn_ok (N := ["thing"]) (ps := ["thing"]) (n := 1) (k := 1) (m := m_is_worth) T.F_is_worth S rfl (fun cdv A outer s H E hr => ?_)
  exact (os_cons (os_ret (oe_and (oe_call (rG (ok_is_whole T) (hr.mono (by first | decide | omega))) rfl T.g_is_whole T.F_is_whole.kp (bz_is_whole T) (L3.takes_of rfl rfl rfl rfl) (oa_cons (ov 0) oa_nil rfl) ok_nil rfl rfl rfl rfl (by decide) rfl rfl) (oe_one (oe_cmp op_le lk_ord rfl (oe_callB call_abs lk_abs rfl T.g_abs zb_abs (oa_cons (ov 0) oa_nil rfl) (by decide) (by decide) rfl rfl) (oe_gl rfl T.k_MOST_WORTH))))) os_nil)
theorem s_is_name : FnScope ["thing", "letter"] ["thing"] (defScope D25.1) := ⟨rfl, rfl, rfl, by decide +kernel, rfl, by decide +kernel, by decide +kernel⟩
theorem bz_is_name (T : Txt w K mg) : KBz K T.d_is_name ["thing"] 1 [] (fun ws _ => ws) := kbz_pos (T.F_is_name.binds fun _ _ _ _ _ _ us hl => match us, hl with | [_], _ => rfl)
theorem ok_is_name (T : Txt w K mg) : FnG P w K mg base (L3.CX P w) 1 T.a_is_name T.d_is_name ["thing"] (spF K ["thing"].length F_is_name) := by
  have S := s_is_name
  refine fn_ok (N := ["thing", "letter"]) (ps := ["thing"]) (n := 2) (k := 0) (m := m_is_name) T.F_is_name S rfl (fun cdv A outer s H E hr => ?_)
  exact (os_cons (os_if (PW.pt (ow_or (ot_not (ot_val (oe_callB call_isi lk_isi rfl T.g_isinstance zb_isinstance (oa_cons (ov 0) (oa_cons (oe_ty rfl T.g_str zb_str) oa_nil rfl) rfl) (by decide) (by decide) rfl rfl) (fun _ => rfl))) (ow_or1 (ot_not (ot_chn oe_int (ok_link op_le lk_ord (oe_callB call_len lk_len rfl T.g_len zb_len (oa_cons (ov 0) oa_nil rfl) (by decide) (by decide) rfl rfl) (ok_last op_le lk_ord (oe_gl rfl T.k_MOST_LETTERS)))))))) (os_cons (os_ret oe_bl) os_nil) os_nil) (os_cons (os_ret (oe_callB (cr_all rfl) lk_all rfl T.g_all zb_all (oa_cons (oe_lc (own := [("letter", 1)]) (sl := [1]) rfl S.nd (oi_val (ov 0)) (blkOk_by (N := ["thing", "letter"]) (sc := defScope D25.1) (own := [("letter", 1)]) (by decide +kernel)) (by decide) (fun _ _ _ _ _ => (og_name (i := 1) S.nd rfl (by first | exact Or.inl rfl | exact Or.inr rfl) (by first | exact Or.inl rfl | exact Or.inr rfl))) (fun _ _ _ _ _ => ots_nil) (fun _ _ _ _ _ => (oe_cmp op_inZ (lk_in false) rfl (ov 1) (oe_gl rfl T.k_LETTERS))) (fun _ => rfl)) oa_nil rfl) (by decide) (by decide) rfl rfl)) os_nil))
theorem s_are_unlike_names : FnScope ["thing", "most", "least", "one"] ["thing", "most", "least"] (defScope D26.1) := ⟨rfl, rfl, rfl, by decide +kernel, rfl, by decide +kernel, by decide +kernel⟩
theorem bz_are_unlike_names_1_most (T : Txt w K mg) : KBz K T.d_are_unlike_names ["thing", "most", "least"] 1 ["most"] (fun us ws => g_bz_are_unlike_names_1_most us [(.int 0)] ws) := by
  refine kbz_kw T.F_are_unlike_names 1 ["most"] [("least", (.int 0))] [(.int 0)] g_bz_are_unlike_names_1_most (by simp) (by simp) (fun _ _ _ => (.cons (.int 0) .nil)) ?_ ?_ ?_
  · intro _ _ _ _ _ _ r1 r2 r3; exact r1.append (r3.append r2)
  · intro _ _ _ _ _ _ _ _ _ r1 r2 r3; exact r1.append (r3.append r2)
  · intro D doc pm an cdv ct us mv ws l1 l2 l3
    match us, mv, ws, l1, l2, l3 with
    | [_], [_], [_], _, _, _ => exact ⟨_, _, _, _, _, _, rfl, rfl, rfl⟩
theorem bz_are_unlike_names_1_most_least (T : Txt w K mg) : KBz K T.d_are_unlike_names ["thing", "most", "least"] 1 ["most", "least"] (fun us ws => g_bz_are_unlike_names_1_most_least us [] ws) := by
  refine kbz_kw T.F_are_unlike_names 1 ["most", "least"] [] [] g_bz_are_unlike_names_1_most_least (by simp) (by simp) (fun _ _ _ => .nil) ?_ ?_ ?_
  · intro _ _ _ _ _ _ r1 r2 r3; exact r1.append (r3.append r2)
  · intro _ _ _ _ _ _ _ _ _ r1 r2 r3; exact r1.append (r3.append r2)
  · intro D doc pm an cdv ct us mv ws l1 l2 l3
    match us, mv, ws, l1, l2, l3 with
    | [_], [], [_, _], _, _, _ => exact rfl
theorem ok_are_unlike_names (T : Txt w K mg) : FnG P w K mg base (L3.CX P w) 2 T.a_are_unlike_names T.d_are_unlike_names ["thing", "most", "least"] (spF K ["thing", "most", "least"].length F_are_unlike_names) := by
  have S := s_are_unlike_names
  refine fn_okD (N := ["thing", "most", "least", "one"]) (ps := ["thing", "most", "least"]) (n := 4) (k := 1) (m := m_are_unlike_names) T.F_are_unlike_names S rfl (fun cdv A outer s H E hr => ?_)
  exact (os_cons (os_if (PW.pt (ow_or (ot_not (ot_val (oe_callB call_isi lk_isi rfl T.g_isinstance zb_isinstance (oa_cons (ov 0) (oa_cons (oe_ty rfl T.g_tuple zb_tuple) oa_nil rfl) rfl) (by decide) (by decide) rfl rfl) (fun _ => rfl))) (ow_or (ot_not (ot_chn (ov 2) (ok_link op_le lk_ord (oe_callB call_len lk_len rfl T.g_len zb_len (oa_cons (ov 0) oa_nil rfl) (by decide) (by decide) rfl rfl) (ok_last op_le lk_ord (ov 1))))) (ow_or1 (ot_not (ot_val (oe_callB (cr_all rfl) lk_all rfl T.g_all zb_all (oa_cons (oe_lc (own := [("one", 3)]) (sl := [3]) rfl S.nd (oi_val (ov 0)) (blkOk_by (N := ["thing", "most", "least", "one"]) (sc := defScope D26.1) (own := [("one", 3)]) (by decide +kernel)) (by decide) (fun _ _ _ _ _ => (og_name (i := 3) S.nd rfl (by first | exact Or.inl rfl | exact Or.inr rfl) (by first | exact Or.inl rfl | exact Or.inr rfl))) (fun _ _ _ _ _ => ots_nil) (fun _ _ _ _ _ => (oe_call (rG (ok_is_name T) (hr.mono (by first | decide | omega))) rfl T.g_is_name T.F_is_name.kp (bz_is_name T) takesW (oa_cons (ov 3) oa_nil rfl) ok_nil rfl rfl rfl rfl (by decide) rfl rfl)) (fun _ => rfl)) oa_nil rfl) (by decide) (by decide) rfl rfl) (fun _ => rfl))))))) (os_cons (os_ret oe_bl) os_nil) os_nil) (os_cons (os_ret (oe_cmp (op_eqZ (hr.mono (Nat.zero_le _)).units) lk_eq rfl (oe_lset rfl rfl T.g_len rfl T.g_set (ov 0)) (oe_callB call_len lk_len rfl T.g_len zb_len (oa_cons (ov 0) oa_nil rfl) (by decide) (by decide) rfl rfl))) os_nil))
theorem s_is_led_to : FnScope ["thing", "at", "rows", "word", "goal"] ["thing", "at", "rows"] (defScope D27.1) := ⟨rfl, rfl, rfl, by decide +kernel, rfl, by decide +kernel, by decide +kernel⟩
theorem bz_is_led_to (T : Txt w K mg) : KBz K T.d_is_led_to ["thing", "at", "rows"] 3 [] (fun ws _ => ws) := kbz_pos (T.F_is_led_to.binds fun _ _ _ _ _ _ us hl => match us, hl with | [_, _, _], _ => rfl)
theorem ok_is_led_to (T : Txt w K mg) : FnG P w K mg base (L3.CX P w) 2 T.a_is_led_to T.d_is_led_to ["thing", "at", "rows"] (spF K ["thing", "at", "rows"].length F_is_led_to) := by
  have S := s_is_led_to
  refine fn_ok (N := ["thing", "at", "rows", "word", "goal"]) (ps := ["thing", "at", "rows"]) (n := 5) (k := 1) (m := m_is_led_to) T.F_is_led_to S rfl (fun cdv A outer s H E hr => ?_)
  exact (os_cons (os_asg (ov 0) (og_tup rfl (ogs_cons (og_name (i := 3) S.nd rfl (by first | exact Or.inl rfl | exact Or.inr rfl) (by first | exact Or.inl rfl | exact Or.inr rfl)) (ogs_cons (og_name (i := 4) S.nd rfl (by first | exact Or.inl rfl | exact Or.inr rfl) (by first | exact Or.inl rfl | exact Or.inr rfl)) ogs_nil rfl) rfl) rfl rfl) rfl rfl rfl) (os_cons (os_if (PW.pt (ow_or (ot_not (ot_val (oe_call (rG (ok_is_whole T) (hr.mono (by first | decide | omega))) rfl T.g_is_whole T.F_is_whole.kp (bz_is_whole T) (L3.takes_of rfl rfl rfl rfl) (oa_cons (ov 4) oa_nil rfl) ok_nil rfl rfl rfl rfl (by decide) rfl rfl) (fun _ => rfl))) (ow_or1 (ot_not (ot_chn oe_int (ok_link op_le lk_ord (ov 4) (ok_last op_lt lk_ord (oe_callB call_len lk_len rfl T.g_len zb_len (oa_cons (ov 2) oa_nil rfl) (by decide) (by decide) rfl rfl)))))))) (os_cons (os_ret oe_bl) os_nil) os_nil) (os_cons (os_ret (oe_or (oe_cmp (op_neZ (hr.mono (Nat.zero_le _)).units) lk_ne rfl (ov 3) oe_str) (oe_one (oe_cmp (op_neZ (hr.mono (Nat.zero_le _)).units) lk_ne rfl (ov 4) (oe_op op_addZ lk_add (ov 1) oe_int))))) os_nil)))
theorem s_is_row : FnScope ["thing", "at", "rows", "called"] ["thing", "at", "rows", "called"] (defScope D28.1) := ⟨rfl, rfl, rfl, by decide +kernel, rfl, by decide +kernel, by decide +kernel⟩
theorem bz_is_row (T : Txt w K mg) : KBz K T.d_is_row ["thing", "at", "rows", "called"] 4 [] (fun ws _ => ws) := kbz_pos (T.F_is_row.binds fun _ _ _ _ _ _ us hl => match us, hl with | [_, _, _, _], _ => rfl)
theorem ok_is_row (T : Txt w K mg) : FnG P w K mg base (L3.CX P w) 3 T.a_is_row T.d_is_row ["thing", "at", "rows", "called"] (spF K ["thing", "at", "rows", "called"].length F_is_row) := by
  have S := s_is_row
  refine fn_ok (N := ["thing", "at", "rows", "called"]) (ps := ["thing", "at", "rows", "called"]) (n := 4) (k := 2) (m := m_is_row) T.F_is_row S rfl (fun cdv A outer s H E hr => ?_)
  exact (os_cons (os_if (PW.pt (ow_or (ot_not (ot_val (oe_callB call_isi lk_isi rfl T.g_isinstance zb_isinstance (oa_cons (ov 0) (oa_cons (oe_ty rfl T.g_tuple zb_tuple) oa_nil rfl) rfl) (by decide) (by decide) rfl rfl) (fun _ => rfl))) (ow_or (ot_cmp (op_eqZ (hr.mono (Nat.zero_le _)).units) lk_eq rfl (ov 0) (oe_tup oa_nil)) (ow_or1 (ot_not (ot_val (oe_callB call_isi lk_isi rfl T.g_isinstance zb_isinstance (oa_cons (oe_ix ix_seq lk_ix (fun _ _ => rfl) (ov 0) oe_int) (oa_cons (oe_ty rfl T.g_str zb_str) oa_nil rfl) rfl) (by decide) (by decide) rfl rfl) (fun _ => rfl))))))) (os_cons (os_ret oe_bl) os_nil) os_nil) (os_cons (os_if (ot_cmp op_inZ (lk_in false) rfl (oe_ix ix_seq lk_ix (fun _ _ => rfl) (ov 0) oe_int) (oe_gl rfl T.k_ALONE)) (os_cons (os_ret (oe_cmp (op_eqZ (hr.mono (Nat.zero_le _)).units) lk_eq rfl (oe_callB call_len lk_len rfl T.g_len zb_len (oa_cons (ov 0) oa_nil rfl) (by decide) (by decide) rfl rfl) oe_int)) os_nil) os_nil) (os_cons (os_if (ot_cmp (op_neZ (hr.mono (Nat.zero_le _)).units) lk_ne rfl (oe_callB call_len lk_len rfl T.g_len zb_len (oa_cons (ov 0) oa_nil rfl) (by decide) (by decide) rfl rfl) oe_int) (os_cons (os_ret oe_bl) os_nil) os_nil) (os_cons (os_if (ot_cmp (op_eqZ (hr.mono (Nat.zero_le _)).units) lk_eq rfl (oe_ix ix_seq lk_ix (fun _ _ => rfl) (ov 0) oe_int) oe_str) (os_cons (os_ret (oe_call (rG (ok_is_worth T) (hr.mono (by first | decide | omega))) rfl T.g_is_worth T.F_is_worth.kp (bz_is_worth T) (L3.takes_of rfl rfl rfl rfl) (oa_cons (oe_ix ix_seq lk_ix (fun _ _ => rfl) (ov 0) oe_int) oa_nil rfl) ok_nil rfl rfl rfl rfl (by decide) rfl rfl)) os_nil) os_nil) (os_cons (os_if (ot_cmp (op_eqZ (hr.mono (Nat.zero_le _)).units) lk_eq rfl (oe_ix ix_seq lk_ix (fun _ _ => rfl) (ov 0) oe_int) oe_str) (os_cons (os_ret (oe_and (oe_call (rG (ok_is_name T) (hr.mono (by first | decide | omega))) rfl T.g_is_name T.F_is_name.kp (bz_is_name T) (L3.takes_of rfl rfl rfl rfl) (oa_cons (oe_ix ix_seq lk_ix (fun _ _ => rfl) (ov 0) oe_int) oa_nil rfl) ok_nil rfl rfl rfl rfl (by decide) rfl rfl) (oe_one (oe_cmp op_inZ (lk_in false) rfl (oe_ix ix_seq lk_ix (fun _ _ => rfl) (ov 0) oe_int) (ov 3))))) os_nil) os_nil) (os_cons (os_if (ot_cmp op_inZ (lk_in false) rfl (oe_ix ix_seq lk_ix (fun _ _ => rfl) (ov 0) oe_int) (oe_gl rfl T.k_LEADING)) (os_cons (os_ret (oe_call (rG (ok_is_led_to T) (hr.mono (by first | decide | omega))) rfl T.g_is_led_to T.F_is_led_to.kp (bz_is_led_to T) (L3.takes_of rfl rfl rfl rfl) (oa_cons (ov 0) (oa_cons (ov 1) (oa_cons (ov 2) oa_nil rfl) rfl) rfl) ok_nil rfl rfl rfl rfl (by decide) rfl rfl)) os_nil) os_nil) (os_cons (os_ret (oe_and (oe_cmp op_inZ (lk_in false) rfl (oe_ix ix_seq lk_ix (fun _ _ => rfl) (ov 0) oe_int) (oe_gl rfl T.k_NAMED)) (oe_one (oe_call (rG (ok_is_name T) (hr.mono (by first | decide | omega))) rfl T.g_is_name T.F_is_name.kp (bz_is_name T) (L3.takes_of rfl rfl rfl rfl) (oa_cons (oe_ix ix_seq lk_ix (fun _ _ => rfl) (ov 0) oe_int) oa_nil rfl) ok_nil rfl rfl rfl rfl (by decide) rfl rfl)))) os_nil)))))))
theorem s_is_headed : FnScope ["thing"] ["thing"] (defScope D29.1) := ⟨rfl, rfl, rfl, by decide +kernel, rfl, by decide +kernel, by decide +kernel⟩
theorem bz_is_headed (T : Txt w K mg) : KBz K T.d_is_headed ["thing"] 1 [] (fun ws _ => ws) := kbz_pos (T.F_is_headed.binds fun _ _ _ _ _ _ us hl => match us, hl with | [_], _ => rfl)
theorem ok_is_headed (T : Txt w K mg) : FnG P w K mg base (L3.CX P w) 3 T.a_is_headed T.d_is_headed ["thing"] (spF K ["thing"].length F_is_headed) := by
  have S := s_is_headed
  refine fn_ok (N := ["thing"]) (ps := ["thing"]) (n := 1) (k := 2) (m := m_is_headed) T.F_is_headed S rfl (fun cdv A outer s H E hr => ?_)
  exact (os_cons (os_if (PW.pt (ow_or (ot_not (ot_val (oe_callB call_isi lk_isi rfl T.g_isinstance zb_isinstance (oa_cons (ov 0) (oa_cons (oe_ty rfl T.g_tuple zb_tuple) oa_nil rfl) rfl) (by decide) (by decide) rfl rfl) (fun _ => rfl))) (ow_or (ot_cmp (op_neZ (hr.mono (Nat.zero_le _)).units) lk_ne rfl (oe_callB call_len lk_len rfl T.g_len zb_len (oa_cons (ov 0) oa_nil rfl) (by decide) (by decide) rfl rfl) oe_int) (ow_or1 (ot_not (ot_val (oe_call (rG (ok_is_name T) (hr.mono (by first | decide | omega))) rfl T.g_is_name T.F_is_name.kp (bz_is_name T) (L3.takes_of rfl rfl rfl rfl) (oa_cons (oe_ix ix_seq lk_ix (fun _ _ => rfl) (ov 0) oe_int) oa_nil rfl) ok_nil rfl rfl rfl rfl (by decide) rfl rfl) (fun _ => rfl))))))) (os_cons (os_ret oe_bl) os_nil) os_nil) (os_cons (os_if (ot_not (ot_val (oe_call (rG (ok_are_unlike_names T) (hr.mono (by first | decide | omega))) rfl T.g_are_unlike_names T.F_are_unlike_names.kp (bz_are_unlike_names_1_most T) (L3.takes_of rfl rfl rfl rfl) (oa_cons (oe_ix ix_seq lk_ix (fun _ _ => rfl) (ov 0) oe_int) oa_nil rfl) (ok_cons (oe_gl rfl T.k_MOST_NAMES) ok_nil) rfl rfl rfl rfl (by decide) rfl rfl) (fun _ => rfl))) (os_cons (os_ret oe_bl) os_nil) os_nil) (os_cons (os_ret (oe_and (oe_callB call_isi lk_isi rfl T.g_isinstance zb_isinstance (oa_cons (oe_ix ix_seq lk_ix (fun _ _ => rfl) (ov 0) oe_int) (oa_cons (oe_ty rfl T.g_tuple zb_tuple) oa_nil rfl) rfl) (by decide) (by decide) rfl rfl) (oe_one (oe_chn oe_int (ok_link op_le lk_ord (oe_callB call_len lk_len rfl T.g_len zb_len (oa_cons (oe_ix ix_seq lk_ix (fun _ _ => rfl) (ov 0) oe_int) oa_nil rfl) (by decide) (by decide) rfl rfl) (ok_last op_le lk_ord (oe_gl rfl T.k_MOST_LONG))))))) os_nil)))
theorem s_is_program : FnScope ["thing", "called", "part", "name", "names", "rows", "at", "row"] ["thing"] (defScope D30.1) := ⟨rfl, rfl, rfl, by decide +kernel, rfl, by decide +kernel, by decide +kernel⟩
theorem bz_is_program (T : Txt w K mg) : KBz K T.d_is_program ["thing"] 1 [] (fun ws _ => ws) := kbz_pos (T.F_is_program.binds fun _ _ _ _ _ _ us hl => match us, hl with | [_], _ => rfl)
theorem ok_is_program (T : Txt w K mg) : FnG P w K mg base (L3.CX P w) 4 T.a_is_program T.d_is_program ["thing"] (spF K ["thing"].length F_is_program) := by
  have S := s_is_program
  refine fn_ok (N := ["thing", "called", "part", "name", "names", "rows", "at", "row"]) (ps := ["thing"]) (n := 8) (k := 3) (m := m_is_program) T.F_is_program S rfl (fun cdv A outer s H E hr => ?_)
  exact (os_cons (os_if (PW.pt (ow_or (ot_not (ot_val (oe_callB call_isi lk_isi rfl T.g_isinstance zb_isinstance (oa_cons (ov 0) (oa_cons (oe_ty rfl T.g_tuple zb_tuple) oa_nil rfl) rfl) (by decide) (by decide) rfl rfl) (fun _ => rfl))) (ow_or1 (ot_not (ot_val (oe_callB (cr_all rfl) lk_all rfl T.g_all zb_all (oa_cons (oe_lc (own := [("part", 2)]) (sl := [2]) rfl S.nd (oi_val (ov 0)) (blkOk_by (N := ["thing", "called", "part", "name", "names", "rows", "at", "row"]) (sc := defScope D30.1) (own := [("part", 2)]) (by decide +kernel)) (by decide) (fun _ _ _ _ _ => (og_name (i := 2) S.nd rfl (by first | exact Or.inl rfl | exact Or.inr rfl) (by first | exact Or.inl rfl | exact Or.inr rfl))) (fun _ _ _ _ _ => ots_nil) (fun _ _ _ _ _ => (oe_call (rG (ok_is_headed T) (hr.mono (by first | decide | omega))) rfl T.g_is_headed T.F_is_headed.kp (bz_is_headed T) takesW (oa_cons (ov 2) oa_nil rfl) ok_nil rfl rfl rfl rfl (by decide) rfl rfl)) (fun _ => rfl)) oa_nil rfl) (by decide) (by decide) rfl rfl) (fun _ => rfl)))))) (os_cons (os_ret oe_bl) os_nil) os_nil) (os_cons (os_set (i := 1) S.nd rfl (by first | exact Or.inl rfl | exact Or.inr rfl) (oe_callTy call_tupleF lk_tpl rfl T.g_tuple zb_tuple (oa_cons (oe_lc (own := [("part", 2)]) (sl := [2]) rfl S.nd (oi_val (ov 0)) (blkOk_by (N := ["thing", "called", "part", "name", "names", "rows", "at", "row"]) (sc := defScope D30.1) (own := [("part", 2)]) (by decide +kernel)) (by decide) (fun _ _ _ _ _ => (og_name (i := 2) S.nd rfl (by first | exact Or.inl rfl | exact Or.inr rfl) (by first | exact Or.inl rfl | exact Or.inr rfl))) (fun _ _ _ _ _ => ots_nil) (fun _ _ _ _ _ => (oe_ix ix_seq lk_ix (fun _ _ => rfl) (ov 2) oe_int)) (fun _ => rfl)) oa_nil rfl) (by decide) (by decide) rfl rfl) rfl (by first | exact Or.inl rfl | exact Or.inr rfl)) (os_cons (os_if (ot_not (ot_val (oe_call (rG (ok_are_unlike_names T) (hr.mono (by first | decide | omega))) rfl T.g_are_unlike_names T.F_are_unlike_names.kp (bz_are_unlike_names_1_most_least T) (L3.takes_of rfl rfl rfl rfl) (oa_cons (ov 1) oa_nil rfl) (ok_cons (oe_gl rfl T.k_MOST_PARTS) (ok_cons oe_int ok_nil)) rfl rfl rfl rfl (by decide) rfl rfl) (fun _ => rfl))) (os_cons (os_ret oe_bl) os_nil) os_nil) (os_cons (os_ret (oe_callB (cr_all rfl) lk_all rfl T.g_all zb_all (oa_cons (oe_lc2 (own := [("name", 3), ("names", 4), ("rows", 5), ("at", 6), ("row", 7)]) (vs1 := [6, 7]) (sl := [3, 4, 5]) (sl1 := [6, 7]) rfl S.nd (oi_val (ov 0)) (blkOk_by (N := ["thing", "called", "part", "name", "names", "rows", "at", "row"]) (sc := defScope D30.1) (own := [("name", 3), ("names", 4), ("rows", 5), ("at", 6), ("row", 7)]) (by decide +kernel)) (by decide) (by decide) (by decide) (fun _ _ _ _ _ => (og_tup rfl (ogs_cons (og_name (i := 3) S.nd rfl (by first | exact Or.inl rfl | exact Or.inr rfl) (by first | exact Or.inl rfl | exact Or.inr rfl)) (ogs_cons (og_name (i := 4) S.nd rfl (by first | exact Or.inl rfl | exact Or.inr rfl) (by first | exact Or.inl rfl | exact Or.inr rfl)) (ogs_cons (og_name (i := 5) S.nd rfl (by first | exact Or.inl rfl | exact Or.inr rfl) (by first | exact Or.inl rfl | exact Or.inr rfl)) ogs_nil rfl) rfl) rfl) rfl rfl)) (fun _ _ _ _ _ => ots_nil) (fun _ _ _ _ _ => (oi_en rfl T.g_enumerate (oa_cons (ov 5) oa_nil rfl))) (fun _ _ _ _ _ => (og_tup rfl (ogs_cons (og_name (i := 6) S.nd rfl (by first | exact Or.inl rfl | exact Or.inr rfl) (by first | exact Or.inl rfl | exact Or.inr rfl)) (ogs_cons (og_name (i := 7) S.nd rfl (by first | exact Or.inl rfl | exact Or.inr rfl) (by first | exact Or.inl rfl | exact Or.inr rfl)) ogs_nil rfl) rfl) rfl rfl)) (fun _ _ _ _ _ => ots_nil) (fun _ _ _ _ _ => (oe_call (rG (ok_is_row T) (hr.mono (by first | decide | omega))) rfl T.g_is_row T.F_is_row.kp (bz_is_row T) takesW (oa_cons (ov 7) (oa_cons (ov 6) (oa_cons (ov 5) (oa_cons (ov 1) oa_nil rfl) rfl) rfl) rfl) ok_nil rfl rfl rfl rfl (by decide) rfl rfl)) (fun _ => rfl) (fun _ _ => rfl)) oa_nil rfl) (by decide) (by decide) rfl rfl)) os_nil))))
theorem s_look_program : FnScope ["thing"] ["thing"] (defScope D31.1) := ⟨rfl, rfl, rfl, by decide +kernel, rfl, by decide +kernel, by decide +kernel⟩
theorem bz_look_program (T : Txt w K mg) : KBz K T.d_look_program ["thing"] 1 [] (fun ws _ => ws) := kbz_pos (T.F_look_program.binds fun _ _ _ _ _ _ us hl => match us, hl with | [_], _ => rfl)
theorem ok_look_program (T : Txt w K mg) : FnG P w K mg base (L3.CX P w) 5 T.a_look_program T.d_look_program ["thing"] (spF K ["thing"].length (F_look_program T.C_NoProgram)) := by
  have S := s_look_program
  refine fn_ok (N := ["thing"]) (ps := ["thing"]) (n := 1) (k := 4) (m := m_look_program T.C_NoProgram) T.F_look_program S rfl (fun cdv A outer s H E hr => ?_)
  exact (os_cons (os_if (ot_not (ot_val (oe_call (rG (ok_is_program T) (hr.mono (by first | decide | omega))) rfl T.g_is_program T.F_is_program.kp (bz_is_program T) (L3.takes_of rfl rfl rfl rfl) (oa_cons (ov 0) oa_nil rfl) ok_nil rfl rfl rfl rfl (by decide) rfl rfl) (fun _ => rfl))) (os_cons (os_raise rfl (L3.takes_of rfl rfl rfl rfl) (L2N.pmk_own PySem.F.excBase_ValueError T.e_NoProgram.xP T.e_NoProgram.g T.e_NoProgram.kP (raises_own T.e_NoProgram.bP T.e_NoProgram.tP) rfl)) os_nil) os_nil) os_nil)
theorem s_number_of : FnScope ["program", "part", "numbers", "found", "e", "number", "name", "rest"] ["program", "part"] (defScope D32.1) := ⟨rfl, rfl, rfl, by decide +kernel, rfl, by decide +kernel, by decide +kernel⟩
theorem bz_number_of (T : Txt w K mg) : KBz K T.d_number_of ["program", "part"] 2 [] (fun ws _ => ws) := kbz_pos (T.F_number_of.binds fun _ _ _ _ _ _ us hl => match us, hl with | [_, _], _ => rfl)
theorem ok_number_of (T : Txt w K mg) : FnG P w K mg base (L3.CX P w) 2 T.a_number_of T.d_number_of ["program", "part"] (spF K ["program", "part"].length (F_number_of T.C_NoPart)) := by
  have S := s_number_of
  refine fn_ok (N := ["program", "part", "numbers", "found", "e", "number", "name", "rest"]) (ps := ["program", "part"]) (n := 8) (k := 1) (m := m_number_of T.C_NoPart) T.F_number_of S rfl (fun cdv A outer s H E hr => ?_)
  exact (os_cons (os_if (ot_not (ot_val (oe_call (rG (ok_is_name T) (hr.mono (by first | decide | omega))) rfl T.g_is_name T.F_is_name.kp (bz_is_name T) (L3.takes_of rfl rfl rfl rfl) (oa_cons (ov 1) oa_nil rfl) ok_nil rfl rfl rfl rfl (by decide) rfl rfl) (fun _ => rfl))) (os_cons (os_raiseNt_NoPart rfl T.nt_NoPart hr.toRoom (L3.takes_of rfl rfl rfl rfl) (ov 1) rfl rfl rfl) os_nil) os_nil) (os_cons (os_setDc (i := 2) (own := [("number", 5), ("name", 6), ("rest", 7)]) (sl := [5, 6, 7]) rfl S.nd rfl rfl (sw_trueD rfl rfl rfl (by decide +kernel)) (oi_en rfl T.g_enumerate (oa_cons (ov 0) oa_nil rfl)) (blkOk_by (N := ["program", "part", "numbers", "found", "e", "number", "name", "rest"]) (sc := defScope D32.1) (own := [("number", 5), ("name", 6), ("rest", 7)]) (by decide +kernel)) (by decide) (fun _ _ _ _ _ => (og_tup rfl (ogs_cons (og_name (i := 5) S.nd rfl (by first | exact Or.inl rfl | exact Or.inr rfl) (by first | exact Or.inl rfl | exact Or.inr rfl)) (ogs_cons (og_star rfl (ogs_cons (og_name (i := 6) S.nd rfl (by first | exact Or.inl rfl | exact Or.inr rfl) (by first | exact Or.inl rfl | exact Or.inr rfl)) (ogs_cons (og_name (i := 7) S.nd rfl (by first | exact Or.inl rfl | exact Or.inr rfl) (by first | exact Or.inl rfl | exact Or.inr rfl)) ogs_nil rfl) rfl) rfl rfl) ogs_nil rfl) rfl) rfl rfl)) (fun _ _ _ _ _ => ots_nil) (fun _ _ _ _ _ => (ov 6)) (fun _ _ _ _ _ => (ov 5)) (fun _ => rfl)) (os_cons (os_tryAsgO (i := 4) (j := 3) rfl rfl S.nd rfl rfl ⟨rfl, by decide, .inr ⟨T.g_KeyError, boot_KeyError, by decide⟩⟩ rfl (by first | exact Or.inl rfl | exact Or.inr rfl) rfl rfl (fun hd => L2H.passesAt_of rfl hd) (L3.takes_of rfl rfl rfl rfl) exm_KE (fun W pn xe tk => oe_dgetO rfl hr.toRoom tk (ov 2) (ov 1) (fun _ _ => rfl)) (fun a oe d pn E W hz hf tk => hf.elim fun vs hd => os_cons (os_raiseFrom_NoPart (i := 4) T.nt_NoPart (dpn_of hr.toRoom) rfl List.mem_cons_self hd (hz.2.2 vs hd) (bx_KeyError hz.1) rfl rfl rfl rfl tk (ov 1) rfl rfl rfl) os_nil)) (os_cons (os_ret (ov 3)) os_nil))))
theorem s_look_row : FnScope ["program", "number", "row"] ["program", "number", "row"] (defScope D33.1) := ⟨rfl, rfl, rfl, by decide +kernel, rfl, by decide +kernel, by decide +kernel⟩
theorem bz_look_row (T : Txt w K mg) : KBz K T.d_look_row ["program", "number", "row"] 3 [] (fun ws _ => ws) := kbz_pos (T.F_look_row.binds fun _ _ _ _ _ _ us hl => match us, hl with | [_, _, _], _ => rfl)
theorem ok_look_row (T : Txt w K mg) : FnG P w K mg base (L3.CX P w) 2 T.a_look_row T.d_look_row ["program", "number", "row"] (spF K ["program", "number", "row"].length (F_look_row T.C_NoRow)) := by
  have S := s_look_row
  refine fn_ok (N := ["program", "number", "row"]) (ps := ["program", "number", "row"]) (n := 3) (k := 1) (m := m_look_row T.C_NoRow) T.F_look_row S rfl (fun cdv A outer s H E hr => ?_)
  exact (os_cons (os_if (PW.pt (ow_or (ot_not (ot_val (oe_call (rG (ok_is_whole T) (hr.mono (by first | decide | omega))) rfl T.g_is_whole T.F_is_whole.kp (bz_is_whole T) (L3.takes_of rfl rfl rfl rfl) (oa_cons (ov 2) oa_nil rfl) ok_nil rfl rfl rfl rfl (by decide) rfl rfl) (fun _ => rfl))) (ow_or1 (ot_not (ot_chn oe_int (ok_link op_le lk_ord (ov 2) (ok_last op_lt lk_ord (oe_callB call_len lk_len rfl T.g_len zb_len (oa_cons (oe_ix ix_seq lk_ix (fun _ _ => rfl) (oe_ix ix_seq lk_ix (fun _ _ => rfl) (ov 0) (ov 1)) oe_int) oa_nil rfl) (by decide) (by decide) rfl rfl)))))))) (os_cons (os_raiseNt_NoRow rfl T.nt_NoRow hr.toRoom (L3.takes_of rfl rfl rfl rfl) (ov 2) rfl rfl rfl) os_nil) os_nil) os_nil)
theorem s_part_number : FnScope ["program", "part"] ["program", "part"] (defScope D34.1) := ⟨rfl, rfl, rfl, by decide +kernel, rfl, by decide +kernel, by decide +kernel⟩
theorem bz_part_number (T : Txt w K mg) : KBz K T.d_part_number ["program", "part"] 2 [] (fun ws _ => ws) := kbz_pos (T.F_part_number.binds fun _ _ _ _ _ _ us hl => match us, hl with | [_, _], _ => rfl)
theorem ok_part_number (T : Txt w K mg) : FnG P w K mg base (L3.CX P w) 6 T.a_part_number T.d_part_number ["program", "part"] (spF K ["program", "part"].length (F_part_number T.C_NoPart T.C_NoProgram)) := by
  have S := s_part_number
  refine fn_ok (N := ["program", "part"]) (ps := ["program", "part"]) (n := 2) (k := 5) (m := m_part_number T.C_NoPart T.C_NoProgram) T.F_part_number S rfl (fun cdv A outer s H E hr => ?_)
  exact (os_cons (os_expr (oe_call (rG (ok_look_program T) (hr.mono (by first | decide | omega))) rfl T.g_look_program T.F_look_program.kp (bz_look_program T) (L3.takes_of rfl rfl rfl rfl) (oa_cons (ov 0) oa_nil rfl) ok_nil rfl rfl rfl rfl (by decide) rfl rfl) rfl) (os_cons (os_ret (oe_call (rG (ok_number_of T) (hr.mono (by first | decide | omega))) rfl T.g_number_of T.F_number_of.kp (bz_number_of T) (L3.takes_of rfl rfl rfl rfl) (oa_cons (ov 0) (oa_cons (ov 1) oa_nil rfl) rfl) ok_nil rfl rfl rfl rfl (by decide) rfl rfl)) os_nil))
theorem s_row_at : FnScope ["program", "part", "row", "number"] ["program", "part", "row"] (defScope D35.1) := ⟨rfl, rfl, rfl, by decide +kernel, rfl, by decide +kernel, by decide +kernel⟩
theorem bz_row_at (T : Txt w K mg) : KBz K T.d_row_at ["program", "part", "row"] 3 [] (fun ws _ => ws) := kbz_pos (T.F_row_at.binds fun _ _ _ _ _ _ us hl => match us, hl with | [_, _, _], _ => rfl)
theorem ok_row_at (T : Txt w K mg) : FnG P w K mg base (L3.CX P w) 6 T.a_row_at T.d_row_at ["program", "part", "row"] (spF K ["program", "part", "row"].length (F_row_at T.C_NoPart T.C_NoProgram T.C_NoRow)) := by
  have S := s_row_at
  refine fn_ok (N := ["program", "part", "row", "number"]) (ps := ["program", "part", "row"]) (n := 4) (k := 5) (m := m_row_at T.C_NoPart T.C_NoProgram T.C_NoRow) T.F_row_at S rfl (fun cdv A outer s H E hr => ?_)
  exact (os_cons (os_expr (oe_call (rG (ok_look_program T) (hr.mono (by first | decide | omega))) rfl T.g_look_program T.F_look_program.kp (bz_look_program T) (L3.takes_of rfl rfl rfl rfl) (oa_cons (ov 0) oa_nil rfl) ok_nil rfl rfl rfl rfl (by decide) rfl rfl) rfl) (os_cons (os_set (i := 3) S.nd rfl (by first | exact Or.inl rfl | exact Or.inr rfl) (oe_call (rG (ok_number_of T) (hr.mono (by first | decide | omega))) rfl T.g_number_of T.F_number_of.kp (bz_number_of T) (L3.takes_of rfl rfl rfl rfl) (oa_cons (ov 0) (oa_cons (ov 1) oa_nil rfl) rfl) ok_nil rfl rfl rfl rfl (by decide) rfl rfl) rfl (by first | exact Or.inl rfl | exact Or.inr rfl)) (os_cons (os_expr (oe_call (rG (ok_look_row T) (hr.mono (by first | decide | omega))) rfl T.g_look_row T.F_look_row.kp (bz_look_row T) (L3.takes_of rfl rfl rfl rfl) (oa_cons (ov 0) (oa_cons (ov 3) (oa_cons (ov 2) oa_nil rfl) rfl) rfl) ok_nil rfl rfl rfl rfl (by decide) rfl rfl) rfl) (os_cons (os_ret (oe_ix ix_seq lk_ix (fun _ _ => rfl) (oe_ix ix_seq lk_ix (fun _ _ => rfl) (oe_ix ix_seq lk_ix (fun _ _ => rfl) (ov 0) (ov 3)) oe_int) (ov 2))) os_nil))))
theorem s__law_bag : FnScope ["_law_script", "_law_at", "_law_cell", "_law_great"] ["_law_script", "_law_at"] (defScope D37.1) := ⟨rfl, rfl, rfl, by decide +kernel, rfl, by decide +kernel, by decide +kernel⟩
theorem bz__law_bag (T : Txt w K mg) : KBz K T.d__law_bag ["_law_script", "_law_at"] 2 [] (fun ws _ => ws) := kbz_pos (T.F__law_bag.binds fun _ _ _ _ _ _ us hl => match us, hl with | [_, _], _ => rfl)
theorem ok__law_bag (T : Txt w K mg) : FnG P w K mg base (L3.CX P w) 1 T.a__law_bag T.d__law_bag ["_law_script", "_law_at"] (spF K ["_law_script", "_law_at"].length F__law_bag) := by
  have S := s__law_bag
  refine fn_ok (N := ["_law_script", "_law_at", "_law_cell", "_law_great"]) (ps := ["_law_script", "_law_at"]) (n := 4) (k := 0) (m := m__law_bag) T.F__law_bag S rfl (fun cdv A outer s H E hr => ?_)
  exact (os_cons (os_set (i := 2) S.nd rfl (by first | exact Or.inl rfl | exact Or.inr rfl) oe_int rfl (by first | exact Or.inl rfl | exact Or.inr rfl)) (os_cons (os_if (ot_cmp op_lt lk_ord rfl (ov 1) (oe_callB call_len lk_len rfl T.g_len zb_len (oa_cons (ov 0) oa_nil rfl) (by decide) (by decide) rfl rfl)) (os_cons (os_set (i := 2) S.nd rfl (by first | exact Or.inl rfl | exact Or.inr rfl) (oe_ix ix_seq lk_ix (fun _ _ => rfl) (ov 0) (ov 1)) rfl (by first | exact Or.inl rfl | exact Or.inr rfl)) os_nil) os_nil) (os_cons (os_set (i := 3) S.nd rfl (by first | exact Or.inl rfl | exact Or.inr rfl) (oe_callB call_abs lk_abs rfl T.g_abs zb_abs (oa_cons (ov 2) oa_nil rfl) (by decide) (by decide) rfl rfl) rfl (by first | exact Or.inl rfl | exact Or.inr rfl)) (os_cons (os_if (ot_cmp op_lt lk_ord rfl (ov 3) (oe_op op_powW lk_pow oe_int oe_int)) (os_cons (os_set (i := 3) S.nd rfl (by first | exact Or.inl rfl | exact Or.inr rfl) oe_int rfl (by first | exact Or.inl rfl | exact Or.inr rfl)) os_nil) os_nil) (os_cons (os_ret (oe_new (oa_cons (ov 3) (oa_cons (oe_op op_addZ lk_add (oe_op op_addZ lk_add (oe_op op_modZ lk_mod (ov 2) oe_int) (oe_op op_mulZ lk_mul oe_int (ov 1))) oe_int) (oa_cons oe_int oa_nil rfl) rfl) rfl))) os_nil)))))
theorem s__law_take : FnScope ["_law_bag_here", "_law_many", "_law_primes", "_law_step", "_law_base", "_law_mixed", "_law_digit"] ["_law_bag_here", "_law_many"] (defScope D38.1) := ⟨rfl, rfl, rfl, by decide +kernel, rfl, by decide +kernel, by decide +kernel⟩
theorem bz__law_take (T : Txt w K mg) : KBz K T.d__law_take ["_law_bag_here", "_law_many"] 2 [] (fun ws _ => ws) := kbz_pos (T.F__law_take.binds fun _ _ _ _ _ _ us hl => match us, hl with | [_, _], _ => rfl)
theorem ok__law_take (T : Txt w K mg) : FnG P w K mg base (L3.CX P w) 1 T.a__law_take T.d__law_take ["_law_bag_here", "_law_many"] (spF K ["_law_bag_here", "_law_many"].length F__law_take) := by
  have S := s__law_take
  refine fn_ok (N := ["_law_bag_here", "_law_many", "_law_primes", "_law_step", "_law_base", "_law_mixed", "_law_digit"]) (ps := ["_law_bag_here", "_law_many"]) (n := 7) (k := 0) (m := m__law_take) T.F__law_take S rfl (fun cdv A outer s H E hr => ?_)
  exact (os_cons (os_if (ot_cmp op_gt lk_ord rfl (oe_ix ix_seq lk_ix (fun _ _ => rfl) (ov 0) oe_int) oe_int) (os_cons (os_set (i := 6) S.nd rfl (by first | exact Or.inl rfl | exact Or.inr rfl) (oe_op op_modZ lk_mod (oe_ix ix_seq lk_ix (fun _ _ => rfl) (ov 0) oe_int) (ov 1)) rfl (by first | exact Or.inl rfl | exact Or.inr rfl)) (os_cons (os_asg (oe_op op_divZ lk_div (oe_ix ix_seq lk_ix (fun _ _ => rfl) (ov 0) oe_int) (ov 1)) (og_sub (ov 0) oe_int) rfl rfl rfl) (os_cons (os_ret (ov 6)) os_nil))) os_nil) (os_cons (os_set (i := 2) S.nd rfl (by first | exact Or.inl rfl | exact Or.inr rfl) (oe_tup (oa_cons oe_int (oa_cons oe_int (oa_cons oe_int (oa_cons oe_int (oa_cons oe_int (oa_cons oe_int (oa_cons oe_int oa_nil rfl) rfl) rfl) rfl) rfl) rfl) rfl)) rfl (by first | exact Or.inl rfl | exact Or.inr rfl)) (os_cons (os_asg (oe_op op_addZ lk_add (oe_ix ix_seq lk_ix (fun _ _ => rfl) (ov 0) oe_int) oe_int) (og_sub (ov 0) oe_int) rfl rfl rfl) (os_cons (os_set (i := 3) S.nd rfl (by first | exact Or.inl rfl | exact Or.inr rfl) (oe_ix ix_seq lk_ix (fun _ _ => rfl) (ov 0) oe_int) rfl (by first | exact Or.inl rfl | exact Or.inr rfl)) (os_cons (os_set (i := 4) S.nd rfl (by first | exact Or.inl rfl | exact Or.inr rfl) (oe_op op_addZ lk_add (oe_op op_addZ lk_add (oe_op op_mulZ lk_mul (oe_ix ix_seq lk_ix (fun _ _ => rfl) (ov 0) oe_int) (oe_op op_addZ lk_add (oe_op op_mulZ lk_mul oe_int (ov 3)) oe_int)) (oe_op op_mulZ lk_mul (oe_op op_mulZ lk_mul oe_int (ov 3)) (ov 3))) oe_int) rfl (by first | exact Or.inl rfl | exact Or.inr rfl)) (os_cons (os_set (i := 5) S.nd rfl (by first | exact Or.inl rfl | exact Or.inr rfl) (oe_op op_modZ lk_mod (oe_op op_powW lk_pow (ov 4) oe_int) (oe_ix ix_seq lk_ix (fun _ _ => rfl) (ov 2) (oe_op op_modZ lk_mod (ov 3) oe_int))) rfl (by first | exact Or.inl rfl | exact Or.inr rfl)) (os_cons (os_ret (oe_op op_modZ lk_mod (oe_op op_divZ lk_div (oe_op op_modZ lk_mod (oe_op op_mulZ lk_mul (ov 5) (oe_op op_addZ lk_add (oe_op op_divZ lk_div (ov 5) oe_int) (ov 3))) (oe_ix ix_seq lk_ix (fun _ _ => rfl) (ov 2) (oe_op op_modZ lk_mod (oe_op op_addZ lk_add (ov 3) oe_int) oe_int))) oe_int) (ov 1))) os_nil)))))))
theorem s__law_worth : FnScope ["_law_bag_here", "_law_way"] ["_law_bag_here"] (defScope D39.1) := ⟨rfl, rfl, rfl, by decide +kernel, rfl, by decide +kernel, by decide +kernel⟩
theorem bz__law_worth (T : Txt w K mg) : KBz K T.d__law_worth ["_law_bag_here"] 1 [] (fun ws _ => ws) := kbz_pos (T.F__law_worth.binds fun _ _ _ _ _ _ us hl => match us, hl with | [_], _ => rfl)
theorem ok__law_worth (T : Txt w K mg) : FnG P w K mg base (L3.CX P w) 2 T.a__law_worth T.d__law_worth ["_law_bag_here"] (spF K ["_law_bag_here"].length F__law_worth) := by
  have S := s__law_worth
  refine fn_ok (N := ["_law_bag_here", "_law_way"]) (ps := ["_law_bag_here"]) (n := 2) (k := 1) (m := m__law_worth) T.F__law_worth S rfl (fun cdv A outer s H E hr => ?_)
  exact (os_cons (os_set (i := 1) S.nd rfl (by first | exact Or.inl rfl | exact Or.inr rfl) (oe_call (rG (ok__law_take T) (hr.mono (by first | decide | omega))) rfl T.g__law_take T.F__law_take.kp (bz__law_take T) (L3.takes_of rfl rfl rfl rfl) (oa_cons (ov 0) (oa_cons oe_int oa_nil rfl) rfl) ok_nil rfl rfl rfl rfl (by decide) rfl rfl) rfl (by first | exact Or.inl rfl | exact Or.inr rfl)) (os_cons (os_if (ot_cmp op_lt lk_ord rfl (ov 1) oe_int) (os_cons (os_ret (oe_op op_sub lk_sub (oe_call (rG (ok__law_take T) (hr.mono (by first | decide | omega))) rfl T.g__law_take T.F__law_take.kp (bz__law_take T) (L3.takes_of rfl rfl rfl rfl) (oa_cons (ov 0) (oa_cons oe_int oa_nil rfl) rfl) ok_nil rfl rfl rfl rfl (by decide) rfl rfl) oe_int)) os_nil) os_nil) (os_cons (os_if (ot_cmp (op_eqZ (hr.mono (Nat.zero_le _)).units) lk_eq rfl (ov 1) oe_int) (os_cons (os_ret (oe_ix ix_seq lk_ix (fun _ _ => rfl) (oe_lst (oa_cons (oe_op op_powW lk_pow oe_int oe_int) (oa_cons (oe_un un_neg lk_neg (oe_op op_powW lk_pow oe_int oe_int)) (oa_cons (oe_op op_powW lk_pow oe_int oe_int) (oa_cons (oe_un un_neg lk_neg (oe_op op_powW lk_pow oe_int oe_int)) oa_nil rfl) rfl) rfl) rfl)) (oe_call (rG (ok__law_take T) (hr.mono (by first | decide | omega))) rfl T.g__law_take T.F__law_take.kp (bz__law_take T) (L3.takes_of rfl rfl rfl rfl) (oa_cons (ov 0) (oa_cons oe_int oa_nil rfl) rfl) ok_nil rfl rfl rfl rfl (by decide) rfl rfl))) os_nil) os_nil) (os_cons (os_ret (oe_op op_sub lk_sub (oe_call (rG (ok__law_take T) (hr.mono (by first | decide | omega))) rfl T.g__law_take T.F__law_take.kp (bz__law_take T) (L3.takes_of rfl rfl rfl rfl) (oa_cons (ov 0) (oa_cons oe_int oa_nil rfl) rfl) ok_nil rfl rfl rfl rfl (by decide) rfl rfl) oe_int)) os_nil))))
theorem s__law_names : FnScope ["_law_bag_here", "_law_many", "_law_letters", "_law_first", "_law_long", "_law_k"] ["_law_bag_here", "_law_many"] (defScope D40.1) := ⟨rfl, rfl, rfl, by decide +kernel, rfl, by decide +kernel, by decide +kernel⟩
theorem bz__law_names (T : Txt w K mg) : KBz K T.d__law_names ["_law_bag_here", "_law_many"] 2 [] (fun ws _ => ws) := kbz_pos (T.F__law_names.binds fun _ _ _ _ _ _ us hl => match us, hl with | [_, _], _ => rfl)
theorem ok__law_names (T : Txt w K mg) : FnG P w K mg base (L3.CX P w) 2 T.a__law_names T.d__law_names ["_law_bag_here", "_law_many"] (spF K ["_law_bag_here", "_law_many"].length F__law_names) := by
  have S := s__law_names
  refine fn_ok (N := ["_law_bag_here", "_law_many", "_law_letters", "_law_first", "_law_long", "_law_k"]) (ps := ["_law_bag_here", "_law_many"]) (n := 6) (k := 1) (m := m__law_names) T.F__law_names S rfl (fun cdv A outer s H E hr => ?_)
  exact (os_cons (os_set (i := 2) S.nd rfl (by first | exact Or.inl rfl | exact Or.inr rfl) oe_str rfl (by first | exact Or.inl rfl | exact Or.inr rfl)) (os_cons (os_set (i := 3) S.nd rfl (by first | exact Or.inl rfl | exact Or.inr rfl) (oe_call (rG (ok__law_take T) (hr.mono (by first | decide | omega))) rfl T.g__law_take T.F__law_take.kp (bz__law_take T) (L3.takes_of rfl rfl rfl rfl) (oa_cons (ov 0) (oa_cons oe_int oa_nil rfl) rfl) ok_nil rfl rfl rfl rfl (by decide) rfl rfl) rfl (by first | exact Or.inl rfl | exact Or.inr rfl)) (os_cons (os_set (i := 4) S.nd rfl (by first | exact Or.inl rfl | exact Or.inr rfl) (oe_call (rG (ok__law_take T) (hr.mono (by first | decide | omega))) rfl T.g__law_take T.F__law_take.kp (bz__law_take T) (L3.takes_of rfl rfl rfl rfl) (oa_cons (ov 0) (oa_cons oe_int oa_nil rfl) rfl) ok_nil rfl rfl rfl rfl (by decide) rfl rfl) rfl (by first | exact Or.inl rfl | exact Or.inr rfl)) (os_cons (os_ret (oe_lc (own := [("_law_k", 5)]) (sl := [5]) rfl S.nd (oi_rg1 rfl T.g_range (oa_cons (ov 1) oa_nil rfl)) (blkOk_by (N := ["_law_bag_here", "_law_many", "_law_letters", "_law_first", "_law_long", "_law_k"]) (sc := defScope D40.1) (own := [("_law_k", 5)]) (by decide +kernel)) (by decide) (fun _ _ _ _ _ => (og_name (i := 5) S.nd rfl (by first | exact Or.inl rfl | exact Or.inr rfl) (by first | exact Or.inl rfl | exact Or.inr rfl))) (fun _ _ _ _ _ => ots_nil) (fun _ _ _ _ _ => (oe_op op_addZ lk_add (oe_ix ix_seq lk_ix (fun _ _ => rfl) (ov 2) (oe_op op_modZ lk_mod (oe_op op_addZ lk_add (ov 3) (ov 5)) oe_int)) (oe_op op_mulSZ lk_mulS (oe_ix ix_seq lk_ix (fun _ _ => rfl) (ov 2) (ov 3)) (ov 4)))) (fun _ => rfl))) os_nil))))
theorem s__law_any_row : FnScope ["_law_bag_here", "_law_at", "_law_many", "_law_called", "_law_names_here", "_law_alone", "_law_way", "_law_goal"] ["_law_bag_here", "_law_at", "_law_many", "_law_called", "_law_names_here"] (defScope D41.1) := ⟨rfl, rfl, rfl, by decide +kernel, rfl, by decide +kernel, by decide +kernel⟩
theorem bz__law_any_row (T : Txt w K mg) : KBz K T.d__law_any_row ["_law_bag_here", "_law_at", "_law_many", "_law_called", "_law_names_here"] 5 [] (fun ws _ => ws) := kbz_pos (T.F__law_any_row.binds fun _ _ _ _ _ _ us hl => match us, hl with | [_, _, _, _, _], _ => rfl)
theorem ok__law_any_row (T : Txt w K mg) : FnG P w K mg base (L3.CX P w) 3 T.a__law_any_row T.d__law_any_row ["_law_bag_here", "_law_at", "_law_many", "_law_called", "_law_names_here"] (spF K ["_law_bag_here", "_law_at", "_law_many", "_law_called", "_law_names_here"].length F__law_any_row) := by
  have S := s__law_any_row
  refine fn_ok (N := ["_law_bag_here", "_law_at", "_law_many", "_law_called", "_law_names_here", "_law_alone", "_law_way", "_law_goal"]) (ps := ["_law_bag_here", "_law_at", "_law_many", "_law_called", "_law_names_here"]) (n := 8) (k := 2) (m := m__law_any_row) T.F__law_any_row S rfl (fun cdv A outer s H E hr => ?_)
  exact (os_cons (os_set (i := 5) S.nd rfl (by first | exact Or.inl rfl | exact Or.inr rfl) (oe_sm1 PySem.F.slot_str_split PySem.F.type_str_split mt_split lk_split oe_str oe_str rfl rfl rfl) rfl (by first | exact Or.inl rfl | exact Or.inr rfl)) (os_cons (os_set (i := 6) S.nd rfl (by first | exact Or.inl rfl | exact Or.inr rfl) (oe_call (rG (ok__law_take T) (hr.mono (by first | decide | omega))) rfl T.g__law_take T.F__law_take.kp (bz__law_take T) (L3.takes_of rfl rfl rfl rfl) (oa_cons (ov 0) (oa_cons oe_int oa_nil rfl) rfl) ok_nil rfl rfl rfl rfl (by decide) rfl rfl) rfl (by first | exact Or.inl rfl | exact Or.inr rfl)) (os_cons (os_set (i := 7) S.nd rfl (by first | exact Or.inl rfl | exact Or.inr rfl) (oe_call (rG (ok__law_take T) (hr.mono (by first | decide | omega))) rfl T.g__law_take T.F__law_take.kp (bz__law_take T) (L3.takes_of rfl rfl rfl rfl) (oa_cons (ov 0) (oa_cons (ov 2) oa_nil rfl) rfl) ok_nil rfl rfl rfl rfl (by decide) rfl rfl) rfl (by first | exact Or.inl rfl | exact Or.inr rfl)) (os_cons (os_if (ot_cmp (op_eqZ (hr.mono (Nat.zero_le _)).units) lk_eq rfl (ov 6) oe_int) (os_cons (os_ret (oe_tup (oa_cons oe_str (oa_cons (oe_call (rG (ok__law_worth T) (hr.mono (by first | decide | omega))) rfl T.g__law_worth T.F__law_worth.kp (bz__law_worth T) (L3.takes_of rfl rfl rfl rfl) (oa_cons (ov 0) oa_nil rfl) ok_nil rfl rfl rfl rfl (by decide) rfl rfl) oa_nil rfl) rfl))) os_nil) os_nil) (os_cons (os_if (ot_cmp op_lt lk_ord rfl (ov 6) oe_int) (os_cons (os_ret (oe_tup (oa_cons (oe_ix ix_seq lk_ix (fun _ _ => rfl) (oe_lst (oa_cons oe_str (oa_cons oe_str (oa_cons oe_str (oa_cons oe_str oa_nil rfl) rfl) rfl) rfl)) (oe_call (rG (ok__law_take T) (hr.mono (by first | decide | omega))) rfl T.g__law_take T.F__law_take.kp (bz__law_take T) (L3.takes_of rfl rfl rfl rfl) (oa_cons (ov 0) (oa_cons oe_int oa_nil rfl) rfl) ok_nil rfl rfl rfl rfl (by decide) rfl rfl)) (oa_cons (oe_ix ix_seq lk_ix (fun _ _ => rfl) (ov 4) (oe_call (rG (ok__law_take T) (hr.mono (by first | decide | omega))) rfl T.g__law_take T.F__law_take.kp (bz__law_take T) (L3.takes_of rfl rfl rfl rfl) (oa_cons (ov 0) (oa_cons (oe_callB call_len lk_len rfl T.g_len zb_len (oa_cons (ov 4) oa_nil rfl) (by decide) (by decide) rfl rfl) oa_nil rfl) rfl) ok_nil rfl rfl rfl rfl (by decide) rfl rfl)) oa_nil rfl) rfl))) os_nil) os_nil) (os_cons (os_if (ot_cmp (op_eqZ (hr.mono (Nat.zero_le _)).units) lk_eq rfl (ov 6) oe_int) (os_cons (os_ret (oe_tup (oa_cons oe_str (oa_cons (oe_ix ix_seq lk_ix (fun _ _ => rfl) (ov 3) (oe_call (rG (ok__law_take T) (hr.mono (by first | decide | omega))) rfl T.g__law_take T.F__law_take.kp (bz__law_take T) (L3.takes_of rfl rfl rfl rfl) (oa_cons (ov 0) (oa_cons (oe_callB call_len lk_len rfl T.g_len zb_len (oa_cons (ov 3) oa_nil rfl) (by decide) (by decide) rfl rfl) oa_nil rfl) rfl) ok_nil rfl rfl rfl rfl (by decide) rfl rfl)) oa_nil rfl) rfl))) os_nil) os_nil) (os_cons (os_if (ot_cmp op_lt lk_ord rfl (ov 6) oe_int) (os_cons (os_ret (oe_tup (oa_cons oe_str (oa_cons (ov 7) oa_nil rfl) rfl))) os_nil) os_nil) (os_cons (os_if (ot_cmp (op_eqZ (hr.mono (Nat.zero_le _)).units) lk_eq rfl (ov 6) oe_int) (os_cons (os_ret (oe_tup (oa_cons oe_str (oa_cons (ov 7) oa_nil rfl) rfl))) os_nil) os_nil) (os_cons (os_if (PW.pt (ow_and (ot_cmp (op_eqZ (hr.mono (Nat.zero_le _)).units) lk_eq rfl (ov 6) oe_int) (ow_and1 (ot_cmp (op_neZ (hr.mono (Nat.zero_le _)).units) lk_ne rfl (ov 7) (oe_op op_addZ lk_add (ov 1) oe_int))))) (os_cons (os_ret (oe_tup (oa_cons oe_str (oa_cons (ov 7) oa_nil rfl) rfl))) os_nil) os_nil) (os_cons (os_ret (oe_tup (oa_cons (oe_ix ix_seq lk_ix (fun _ _ => rfl) (ov 5) (oe_call (rG (ok__law_take T) (hr.mono (by first | decide | omega))) rfl T.g__law_take T.F__law_take.kp (bz__law_take T) (L3.takes_of rfl rfl rfl rfl) (oa_cons (ov 0) (oa_cons oe_int oa_nil rfl) rfl) ok_nil rfl rfl rfl rfl (by decide) rfl rfl)) oa_nil rfl))) os_nil))))))))))
theorem s__law_any_program : FnScope ["_law_bag_here", "_law_great", "_law_called", "_law_names_here", "_law_found", "_law_name", "_law_many", "_law_rows", "_law_at"] ["_law_bag_here"] (defScope D42.1) := ⟨rfl, rfl, rfl, by decide +kernel, rfl, by decide +kernel, by decide +kernel⟩
theorem bz__law_any_program (T : Txt w K mg) : KBz K T.d__law_any_program ["_law_bag_here"] 1 [] (fun ws _ => ws) := kbz_pos (T.F__law_any_program.binds fun _ _ _ _ _ _ us hl => match us, hl with | [_], _ => rfl)
theorem ok__law_any_program (T : Txt w K mg) : FnG P w K mg base (L3.CX P w) 4 T.a__law_any_program T.d__law_any_program ["_law_bag_here"] (spF K ["_law_bag_here"].length F__law_any_program) := by
  have S := s__law_any_program
  refine fn_ok (N := ["_law_bag_here", "_law_great", "_law_called", "_law_names_here", "_law_found", "_law_name", "_law_many", "_law_rows", "_law_at"]) (ps := ["_law_bag_here"]) (n := 9) (k := 3) (m := m__law_any_program) T.F__law_any_program S rfl (fun cdv A outer s H E hr => ?_)
  exact (os_cons (os_set (i := 1) S.nd rfl (by first | exact Or.inl rfl | exact Or.inr rfl) (oe_call (rG (ok__law_take T) (hr.mono (by first | decide | omega))) rfl T.g__law_take T.F__law_take.kp (bz__law_take T) (L3.takes_of rfl rfl rfl rfl) (oa_cons (ov 0) (oa_cons oe_int oa_nil rfl) rfl) ok_nil rfl rfl rfl rfl (by decide) rfl rfl) rfl (by first | exact Or.inl rfl | exact Or.inr rfl)) (os_cons (os_set (i := 2) S.nd rfl (by first | exact Or.inl rfl | exact Or.inr rfl) (oe_call (rG (ok__law_names T) (hr.mono (by first | decide | omega))) rfl T.g__law_names T.F__law_names.kp (bz__law_names T) (L3.takes_of rfl rfl rfl rfl) (oa_cons (ov 0) (oa_cons (oe_ix ix_seq lk_ix (fun _ _ => rfl) (oe_lst (oa_cons (oe_op op_addZ lk_add oe_int (oe_call (rG (ok__law_take T) (hr.mono (by first | decide | omega))) rfl T.g__law_take T.F__law_take.kp (bz__law_take T) (L3.takes_of rfl rfl rfl rfl) (oa_cons (ov 0) (oa_cons oe_int oa_nil rfl) rfl) ok_nil rfl rfl rfl rfl (by decide) rfl rfl)) (oa_cons oe_int oa_nil rfl) rfl)) (oe_callTy call_int1 lk_int rfl T.g_int zb_int (oa_cons (oe_cmp (op_eqZ (hr.mono (Nat.zero_le _)).units) lk_eq rfl (ov 1) oe_int) oa_nil rfl) (by decide) (by decide) rfl rfl)) oa_nil rfl) rfl) ok_nil rfl rfl rfl rfl (by decide) rfl rfl) rfl (by first | exact Or.inl rfl | exact Or.inr rfl)) (os_cons (os_set (i := 3) S.nd rfl (by first | exact Or.inl rfl | exact Or.inr rfl) (oe_call (rG (ok__law_names T) (hr.mono (by first | decide | omega))) rfl T.g__law_names T.F__law_names.kp (bz__law_names T) (L3.takes_of rfl rfl rfl rfl) (oa_cons (ov 0) (oa_cons oe_int oa_nil rfl) rfl) ok_nil rfl rfl rfl rfl (by decide) rfl rfl) rfl (by first | exact Or.inl rfl | exact Or.inr rfl)) (os_cons (os_set (i := 4) S.nd rfl (by first | exact Or.inl rfl | exact Or.inr rfl) (oe_new oa_nil) rfl (by first | exact Or.inl rfl | exact Or.inr rfl)) (os_cons (os_for (passes_of rfl) rfl (oi_val (ov 2)) (og_name (i := 5) S.nd rfl (by first | exact Or.inl rfl | exact Or.inr rfl) (by first | exact Or.inl rfl | exact Or.inr rfl)) (os_cons (os_set (i := 6) S.nd rfl (by first | exact Or.inl rfl | exact Or.inr rfl) (oe_ix ix_seq lk_ix (fun _ _ => rfl) (oe_lst (oa_cons (oe_op op_addZ lk_add oe_int (oe_call (rG (ok__law_take T) (hr.mono (by first | decide | omega))) rfl T.g__law_take T.F__law_take.kp (bz__law_take T) (L3.takes_of rfl rfl rfl rfl) (oa_cons (ov 0) (oa_cons oe_int oa_nil rfl) rfl) ok_nil rfl rfl rfl rfl (by decide) rfl rfl)) (oa_cons oe_int oa_nil rfl) rfl)) (oe_callTy call_int1 lk_int rfl T.g_int zb_int (oa_cons (oe_cmp (op_eqZ (hr.mono (Nat.zero_le _)).units) lk_eq rfl (ov 1) oe_int) oa_nil rfl) (by decide) (by decide) rfl rfl)) rfl (by first | exact Or.inl rfl | exact Or.inr rfl)) (os_cons (os_set (i := 7) S.nd rfl (by first | exact Or.inl rfl | exact Or.inr rfl) (oe_callTy call_tupleF lk_tpl rfl T.g_tuple zb_tuple (oa_cons (oe_lc (own := [("_law_at", 8)]) (sl := [8]) rfl S.nd (oi_rg1 rfl T.g_range (oa_cons (ov 6) oa_nil rfl)) (blkOk_by (N := ["_law_bag_here", "_law_great", "_law_called", "_law_names_here", "_law_found", "_law_name", "_law_many", "_law_rows", "_law_at"]) (sc := defScope D42.1) (own := [("_law_at", 8)]) (by decide +kernel)) (by decide) (fun _ _ _ _ _ => (og_name (i := 8) S.nd rfl (by first | exact Or.inl rfl | exact Or.inr rfl) (by first | exact Or.inl rfl | exact Or.inr rfl))) (fun _ _ _ _ _ => ots_nil) (fun _ _ _ _ _ => (oe_call (rG (ok__law_any_row T) (hr.mono (by first | decide | omega))) rfl T.g__law_any_row T.F__law_any_row.kp (bz__law_any_row T) takesW (oa_cons (ov 0) (oa_cons (ov 8) (oa_cons (ov 6) (oa_cons (ov 2) (oa_cons (ov 3) oa_nil rfl) rfl) rfl) rfl) rfl) ok_nil rfl rfl rfl rfl (by decide) rfl rfl)) (fun _ => rfl)) oa_nil rfl) (by decide) (by decide) rfl rfl) rfl (by first | exact Or.inl rfl | exact Or.inr rfl)) (os_cons (os_expr (oe_mtL PySem.F.slot_list_append PySem.F.type_list_append mt_append lk_app (ov 4) (oa_cons (oe_tup (oa_cons (ov 5) (oa_cons (oe_callTy call_tupleF lk_tpl rfl T.g_tuple zb_tuple (oa_cons (oe_sl (ov 3) oo_none (oo_some (oe_call (rG (ok__law_take T) (hr.mono (by first | decide | omega))) rfl T.g__law_take T.F__law_take.kp (bz__law_take T) (L3.takes_of rfl rfl rfl rfl) (oa_cons (ov 0) (oa_cons oe_int oa_nil rfl) rfl) ok_nil rfl rfl rfl rfl (by decide) rfl rfl))) oa_nil rfl) (by decide) (by decide) rfl rfl) (oa_cons (ov 7) oa_nil rfl) rfl) rfl)) oa_nil rfl)) rfl) os_nil))) (fun _ => rfl)) (os_cons (os_ret (oe_callTy call_tupleF lk_tpl rfl T.g_tuple zb_tuple (oa_cons (ov 4) oa_nil rfl) (by decide) (by decide) rfl rfl)) os_nil))))))
theorem s__law_kind : FnScope ["_law_e", "_law_some", "_law_named", "_law_right", "_law_name", "_law_ours", "_law_theirs"] ["_law_e"] (defScope D43.1) := ⟨rfl, rfl, rfl, by decide +kernel, rfl, by decide +kernel, by decide +kernel⟩
theorem bz__law_kind (T : Txt w K mg) : KBz K T.d__law_kind ["_law_e"] 1 [] (fun ws _ => ws) := kbz_pos (T.F__law_kind.binds fun _ _ _ _ _ _ us hl => match us, hl with | [_], _ => rfl)
theorem okE__law_kind_NoPart (T : Txt w K mg) {e : Ex} {a dd : Addr} {oe : Obj} (hz : L2.Zc (.ref T.C_NoPart) (dE e dd) oe) (hf : ∃ vs, oe.data = .fields vs) : FnM (a, oe) P w K mg base (L3.CX P w) 1 T.a__law_kind T.d__law_kind ["_law_e"] (spF K ["_law_e"].length (F__law_kind_NoPart T.C_Busy T.C_NoHook T.C_NoMark T.C_NoNumbers T.C_NoPart T.C_NoProgram T.C_NoRow T.C_NoText T.C_NoWord T.C_TooLong T.C_TooMany T.C_Unsound e a dd)) := by
  have S := s__law_kind
  refine fn_okM (N := ["_law_e", "_law_some", "_law_named", "_law_right", "_law_name", "_law_ours", "_law_theirs"]) (ps := ["_law_e"]) (n := 7) (k := 0) (m := m__law_kind_NoPart T.C_Busy T.C_NoHook T.C_NoMark T.C_NoNumbers T.C_NoPart T.C_NoProgram T.C_NoRow T.C_NoText T.C_NoWord T.C_TooLong T.C_TooMany T.C_Unsound e a dd) T.F__law_kind S rfl (fun cdv A outer s H E pl hp hr hw => ?_)
  exact (os_cons (os_set (i := 1) S.nd rfl (by first | exact Or.inl rfl | exact Or.inr rfl) (oe_lst (oa_cons (oe_tup (oa_cons oe_str (oa_cons (oe_callB (call_isXm hp T.x_NoPart hz hf) (lk_isX (cvs := [.ref T.C_NoProgram]) rfl T.i_17) rfl T.g_isinstance zb_isinstance (oa_cons (ov 0) (oa_cons (oe_gl rfl (cst_fun T.n_NoProgram)) oa_nil rfl) rfl) (by decide) (by decide) rfl rfl) (oa_cons (oe_callB (call_isXm hp T.x_NoPart hz hf) (lk_isX (cvs := [.type "ValueError"]) rfl T.i_2) rfl T.g_isinstance zb_isinstance (oa_cons (ov 0) (oa_cons (oe_ty rfl T.g_ValueError zb_ValueError) oa_nil rfl) rfl) (by decide) (by decide) rfl rfl) oa_nil rfl) rfl) rfl)) (oa_cons (oe_tup (oa_cons oe_str (oa_cons (oe_callB (call_isXm hp T.x_NoPart hz hf) (lk_isX (cvs := [.ref T.C_NoPart]) rfl T.i_16) rfl T.g_isinstance zb_isinstance (oa_cons (ov 0) (oa_cons (oe_gl rfl (cst_fun T.n_NoPart)) oa_nil rfl) rfl) (by decide) (by decide) rfl rfl) (oa_cons (oe_callB (call_isXm hp T.x_NoPart hz hf) (lk_isX (cvs := [.type "KeyError"]) rfl T.i_0) rfl T.g_isinstance zb_isinstance (oa_cons (ov 0) (oa_cons (oe_ty rfl T.g_KeyError zb_KeyError) oa_nil rfl) rfl) (by decide) (by decide) rfl rfl) oa_nil rfl) rfl) rfl)) (oa_cons (oe_tup (oa_cons oe_str (oa_cons (oe_callB (call_isXm hp T.x_NoPart hz hf) (lk_isX (cvs := [.ref T.C_NoRow]) rfl T.i_15) rfl T.g_isinstance zb_isinstance (oa_cons (ov 0) (oa_cons (oe_gl rfl (cst_fun T.n_NoRow)) oa_nil rfl) rfl) (by decide) (by decide) rfl rfl) (oa_cons (oe_callB (call_isXm hp T.x_NoPart hz hf) (lk_isX (cvs := [.type "IndexError"]) rfl T.i_14) rfl T.g_isinstance zb_isinstance (oa_cons (ov 0) (oa_cons (oe_ty rfl T.g_IndexError zb_IndexError) oa_nil rfl) rfl) (by decide) (by decide) rfl rfl) oa_nil rfl) rfl) rfl)) (oa_cons (oe_tup (oa_cons oe_str (oa_cons (oe_callB (call_isXm hp T.x_NoPart hz hf) (lk_isX (cvs := [.ref T.C_TooLong]) rfl T.i_13) rfl T.g_isinstance zb_isinstance (oa_cons (ov 0) (oa_cons (oe_gl rfl (cst_fun T.n_TooLong)) oa_nil rfl) rfl) (by decide) (by decide) rfl rfl) (oa_cons (oe_callB (call_isXm hp T.x_NoPart hz hf) (lk_isX (cvs := [.type "OverflowError"]) rfl T.i_7) rfl T.g_isinstance zb_isinstance (oa_cons (ov 0) (oa_cons (oe_ty rfl T.g_OverflowError zb_OverflowError) oa_nil rfl) rfl) (by decide) (by decide) rfl rfl) oa_nil rfl) rfl) rfl)) (oa_cons (oe_tup (oa_cons oe_str (oa_cons (oe_callB (call_isXm hp T.x_NoPart hz hf) (lk_isX (cvs := [.ref T.C_Unsound]) rfl T.i_12) rfl T.g_isinstance zb_isinstance (oa_cons (ov 0) (oa_cons (oe_gl rfl (cst_fun T.n_Unsound)) oa_nil rfl) rfl) (by decide) (by decide) rfl rfl) (oa_cons (oe_callB (call_isXm hp T.x_NoPart hz hf) (lk_isX (cvs := [.type "ValueError"]) rfl T.i_2) rfl T.g_isinstance zb_isinstance (oa_cons (ov 0) (oa_cons (oe_ty rfl T.g_ValueError zb_ValueError) oa_nil rfl) rfl) (by decide) (by decide) rfl rfl) oa_nil rfl) rfl) rfl)) (oa_cons (oe_tup (oa_cons oe_str (oa_cons (oe_callB (call_isXm hp T.x_NoPart hz hf) (lk_isX (cvs := [.ref T.C_NoNumbers]) rfl T.i_11) rfl T.g_isinstance zb_isinstance (oa_cons (ov 0) (oa_cons (oe_gl rfl (cst_fun T.n_NoNumbers)) oa_nil rfl) rfl) (by decide) (by decide) rfl rfl) (oa_cons (oe_callB (call_isXm hp T.x_NoPart hz hf) (lk_isX (cvs := [.type "ValueError"]) rfl T.i_2) rfl T.g_isinstance zb_isinstance (oa_cons (ov 0) (oa_cons (oe_ty rfl T.g_ValueError zb_ValueError) oa_nil rfl) rfl) (by decide) (by decide) rfl rfl) oa_nil rfl) rfl) rfl)) (oa_cons (oe_tup (oa_cons oe_str (oa_cons (oe_callB (call_isXm hp T.x_NoPart hz hf) (lk_isX (cvs := [.ref T.C_NoHook]) rfl T.i_10) rfl T.g_isinstance zb_isinstance (oa_cons (ov 0) (oa_cons (oe_gl rfl (cst_fun T.n_NoHook)) oa_nil rfl) rfl) (by decide) (by decide) rfl rfl) (oa_cons (oe_callB (call_isXm hp T.x_NoPart hz hf) (lk_isX (cvs := [.type "LookupError"]) rfl T.i_9) rfl T.g_isinstance zb_isinstance (oa_cons (ov 0) (oa_cons (oe_ty rfl T.g_LookupError zb_LookupError) oa_nil rfl) rfl) (by decide) (by decide) rfl rfl) oa_nil rfl) rfl) rfl)) (oa_cons (oe_tup (oa_cons oe_str (oa_cons (oe_callB (call_isXm hp T.x_NoPart hz hf) (lk_isX (cvs := [.ref T.C_TooMany]) rfl T.i_8) rfl T.g_isinstance zb_isinstance (oa_cons (ov 0) (oa_cons (oe_gl rfl (cst_fun T.n_TooMany)) oa_nil rfl) rfl) (by decide) (by decide) rfl rfl) (oa_cons (oe_callB (call_isXm hp T.x_NoPart hz hf) (lk_isX (cvs := [.type "OverflowError"]) rfl T.i_7) rfl T.g_isinstance zb_isinstance (oa_cons (ov 0) (oa_cons (oe_ty rfl T.g_OverflowError zb_OverflowError) oa_nil rfl) rfl) (by decide) (by decide) rfl rfl) oa_nil rfl) rfl) rfl)) (oa_cons (oe_tup (oa_cons oe_str (oa_cons (oe_callB (call_isXm hp T.x_NoPart hz hf) (lk_isX (cvs := [.ref T.C_Busy]) rfl T.i_6) rfl T.g_isinstance zb_isinstance (oa_cons (ov 0) (oa_cons (oe_gl rfl (cst_fun T.n_Busy)) oa_nil rfl) rfl) (by decide) (by decide) rfl rfl) (oa_cons (oe_callB (call_isXm hp T.x_NoPart hz hf) (lk_isX (cvs := [.type "RuntimeError"]) rfl T.i_5) rfl T.g_isinstance zb_isinstance (oa_cons (ov 0) (oa_cons (oe_ty rfl T.g_RuntimeError zb_RuntimeError) oa_nil rfl) rfl) (by decide) (by decide) rfl rfl) oa_nil rfl) rfl) rfl)) (oa_cons (oe_tup (oa_cons oe_str (oa_cons (oe_callB (call_isXm hp T.x_NoPart hz hf) (lk_isX (cvs := [.ref T.C_NoText]) rfl T.i_4) rfl T.g_isinstance zb_isinstance (oa_cons (ov 0) (oa_cons (oe_gl rfl (cst_fun T.n_NoText)) oa_nil rfl) rfl) (by decide) (by decide) rfl rfl) (oa_cons (oe_callB (call_isXm hp T.x_NoPart hz hf) (lk_isX (cvs := [.type "ValueError"]) rfl T.i_2) rfl T.g_isinstance zb_isinstance (oa_cons (ov 0) (oa_cons (oe_ty rfl T.g_ValueError zb_ValueError) oa_nil rfl) rfl) (by decide) (by decide) rfl rfl) oa_nil rfl) rfl) rfl)) (oa_cons (oe_tup (oa_cons oe_str (oa_cons (oe_callB (call_isXm hp T.x_NoPart hz hf) (lk_isX (cvs := [.ref T.C_NoWord]) rfl T.i_3) rfl T.g_isinstance zb_isinstance (oa_cons (ov 0) (oa_cons (oe_gl rfl (cst_fun T.n_NoWord)) oa_nil rfl) rfl) (by decide) (by decide) rfl rfl) (oa_cons (oe_callB (call_isXm hp T.x_NoPart hz hf) (lk_isX (cvs := [.type "ValueError"]) rfl T.i_2) rfl T.g_isinstance zb_isinstance (oa_cons (ov 0) (oa_cons (oe_ty rfl T.g_ValueError zb_ValueError) oa_nil rfl) rfl) (by decide) (by decide) rfl rfl) oa_nil rfl) rfl) rfl)) (oa_cons (oe_tup (oa_cons oe_str (oa_cons (oe_callB (call_isXm hp T.x_NoPart hz hf) (lk_isX (cvs := [.ref T.C_NoMark]) rfl T.i_1) rfl T.g_isinstance zb_isinstance (oa_cons (ov 0) (oa_cons (oe_gl rfl (cst_fun T.n_NoMark)) oa_nil rfl) rfl) (by decide) (by decide) rfl rfl) (oa_cons (oe_callB (call_isXm hp T.x_NoPart hz hf) (lk_isX (cvs := [.type "KeyError"]) rfl T.i_0) rfl T.g_isinstance zb_isinstance (oa_cons (ov 0) (oa_cons (oe_ty rfl T.g_KeyError zb_KeyError) oa_nil rfl) rfl) (by decide) (by decide) rfl rfl) oa_nil rfl) rfl) rfl)) oa_nil rfl) rfl) rfl) rfl) rfl) rfl) rfl) rfl) rfl) rfl) rfl) rfl)) rfl (by first | exact Or.inl rfl | exact Or.inr rfl)) (os_cons (os_setLcW (i := 2) (own := [("_law_name", 4), ("_law_ours", 5), ("_law_theirs", 6)]) (sl := [4, 5, 6]) hw S.nd rfl rfl (sw_true rfl rfl rfl (by decide +kernel)) (ov 1) (blkOk_by (N := ["_law_e", "_law_some", "_law_named", "_law_right", "_law_name", "_law_ours", "_law_theirs"]) (sc := defScope D43.1) (own := [("_law_name", 4), ("_law_ours", 5), ("_law_theirs", 6)]) (by decide +kernel)) (by decide) (fun _ _ _ _ _ => (og_tupW hw (ogs_cons (og_name (i := 4) S.nd rfl (by first | exact Or.inl rfl | exact Or.inr rfl) (by first | exact Or.inl rfl | exact Or.inr rfl)) (ogs_cons (og_name (i := 5) S.nd rfl (by first | exact Or.inl rfl | exact Or.inr rfl) (by first | exact Or.inl rfl | exact Or.inr rfl)) (ogs_cons (og_name (i := 6) S.nd rfl (by first | exact Or.inl rfl | exact Or.inr rfl) (by first | exact Or.inl rfl | exact Or.inr rfl)) ogs_nil rfl) rfl) rfl) rfl rfl)) (fun _ _ _ _ _ => (ots_one (ot_val (ov 5) (fun _ => rfl)))) (fun _ _ _ _ _ => (ov 4)) (fun _ => rfl)) (os_cons (os_setLcW (i := 3) (own := [("_law_name", 4), ("_law_ours", 5), ("_law_theirs", 6)]) (sl := [4, 5, 6]) hw S.nd rfl rfl (sw_true rfl rfl rfl (by decide +kernel)) (ov 1) (blkOk_by (N := ["_law_e", "_law_some", "_law_named", "_law_right", "_law_name", "_law_ours", "_law_theirs"]) (sc := defScope D43.1) (own := [("_law_name", 4), ("_law_ours", 5), ("_law_theirs", 6)]) (by decide +kernel)) (by decide) (fun _ _ _ _ _ => (og_tupW hw (ogs_cons (og_name (i := 4) S.nd rfl (by first | exact Or.inl rfl | exact Or.inr rfl) (by first | exact Or.inl rfl | exact Or.inr rfl)) (ogs_cons (og_name (i := 5) S.nd rfl (by first | exact Or.inl rfl | exact Or.inr rfl) (by first | exact Or.inl rfl | exact Or.inr rfl)) (ogs_cons (og_name (i := 6) S.nd rfl (by first | exact Or.inl rfl | exact Or.inr rfl) (by first | exact Or.inl rfl | exact Or.inr rfl)) ogs_nil rfl) rfl) rfl) rfl rfl)) (fun _ _ _ _ _ => (ots_one (PW.pt (ow_and (ot_val (ov 5) (fun _ => rfl)) (ow_and1 (ot_val (ov 6) (fun _ => rfl))))))) (fun _ _ _ _ _ => (ov 4)) (fun _ => rfl)) (os_cons (os_if (PW.pt (ow_and (ot_cmp (op_eqZ (hr.mono (Nat.zero_le _)).units) lk_eq rfl (oe_callB call_len lk_len rfl T.g_len zb_len (oa_cons (ov 2) oa_nil rfl) (by decide) (by decide) rfl rfl) oe_int) (ow_and1 (ot_cmp (op_eqZ (hr.mono (Nat.zero_le _)).units) lk_eq rfl (ov 2) (ov 3))))) (os_cons (os_ret (oe_ix ix_seq lk_ix (fun _ _ => rfl) (ov 2) oe_int)) os_nil) os_nil) (os_cons (os_ret oe_str) os_nil)))))
theorem okE__law_kind_NoRow (T : Txt w K mg) {e : Ex} {a dd : Addr} {oe : Obj} (hz : L2.Zc (.ref T.C_NoRow) (dE e dd) oe) (hf : ∃ vs, oe.data = .fields vs) : FnM (a, oe) P w K mg base (L3.CX P w) 1 T.a__law_kind T.d__law_kind ["_law_e"] (spF K ["_law_e"].length (F__law_kind_NoRow T.C_Busy T.C_NoHook T.C_NoMark T.C_NoNumbers T.C_NoPart T.C_NoProgram T.C_NoRow T.C_NoText T.C_NoWord T.C_TooLong T.C_TooMany T.C_Unsound e a dd)) := by
  have S := s__law_kind
  refine fn_okM (N := ["_law_e", "_law_some", "_law_named", "_law_right", "_law_name", "_law_ours", "_law_theirs"]) (ps := ["_law_e"]) (n := 7) (k := 0) (m := m__law_kind_NoRow T.C_Busy T.C_NoHook T.C_NoMark T.C_NoNumbers T.C_NoPart T.C_NoProgram T.C_NoRow T.C_NoText T.C_NoWord T.C_TooLong T.C_TooMany T.C_Unsound e a dd) T.F__law_kind S rfl (fun cdv A outer s H E pl hp hr hw => ?_)
  exact (os_cons (os_set (i := 1) S.nd rfl (by first | exact Or.inl rfl | exact Or.inr rfl) (oe_lst (oa_cons (oe_tup (oa_cons oe_str (oa_cons (oe_callB (call_isXm hp T.x_NoRow hz hf) (lk_isX (cvs := [.ref T.C_NoProgram]) rfl T.i_35) rfl T.g_isinstance zb_isinstance (oa_cons (ov 0) (oa_cons (oe_gl rfl (cst_fun T.n_NoProgram)) oa_nil rfl) rfl) (by decide) (by decide) rfl rfl) (oa_cons (oe_callB (call_isXm hp T.x_NoRow hz hf) (lk_isX (cvs := [.type "ValueError"]) rfl T.i_20) rfl T.g_isinstance zb_isinstance (oa_cons (ov 0) (oa_cons (oe_ty rfl T.g_ValueError zb_ValueError) oa_nil rfl) rfl) (by decide) (by decide) rfl rfl) oa_nil rfl) rfl) rfl)) (oa_cons (oe_tup (oa_cons oe_str (oa_cons (oe_callB (call_isXm hp T.x_NoRow hz hf) (lk_isX (cvs := [.ref T.C_NoPart]) rfl T.i_34) rfl T.g_isinstance zb_isinstance (oa_cons (ov 0) (oa_cons (oe_gl rfl (cst_fun T.n_NoPart)) oa_nil rfl) rfl) (by decide) (by decide) rfl rfl) (oa_cons (oe_callB (call_isXm hp T.x_NoRow hz hf) (lk_isX (cvs := [.type "KeyError"]) rfl T.i_18) rfl T.g_isinstance zb_isinstance (oa_cons (ov 0) (oa_cons (oe_ty rfl T.g_KeyError zb_KeyError) oa_nil rfl) rfl) (by decide) (by decide) rfl rfl) oa_nil rfl) rfl) rfl)) (oa_cons (oe_tup (oa_cons oe_str (oa_cons (oe_callB (call_isXm hp T.x_NoRow hz hf) (lk_isX (cvs := [.ref T.C_NoRow]) rfl T.i_33) rfl T.g_isinstance zb_isinstance (oa_cons (ov 0) (oa_cons (oe_gl rfl (cst_fun T.n_NoRow)) oa_nil rfl) rfl) (by decide) (by decide) rfl rfl) (oa_cons (oe_callB (call_isXm hp T.x_NoRow hz hf) (lk_isX (cvs := [.type "IndexError"]) rfl T.i_32) rfl T.g_isinstance zb_isinstance (oa_cons (ov 0) (oa_cons (oe_ty rfl T.g_IndexError zb_IndexError) oa_nil rfl) rfl) (by decide) (by decide) rfl rfl) oa_nil rfl) rfl) rfl)) (oa_cons (oe_tup (oa_cons oe_str (oa_cons (oe_callB (call_isXm hp T.x_NoRow hz hf) (lk_isX (cvs := [.ref T.C_TooLong]) rfl T.i_31) rfl T.g_isinstance zb_isinstance (oa_cons (ov 0) (oa_cons (oe_gl rfl (cst_fun T.n_TooLong)) oa_nil rfl) rfl) (by decide) (by decide) rfl rfl) (oa_cons (oe_callB (call_isXm hp T.x_NoRow hz hf) (lk_isX (cvs := [.type "OverflowError"]) rfl T.i_25) rfl T.g_isinstance zb_isinstance (oa_cons (ov 0) (oa_cons (oe_ty rfl T.g_OverflowError zb_OverflowError) oa_nil rfl) rfl) (by decide) (by decide) rfl rfl) oa_nil rfl) rfl) rfl)) (oa_cons (oe_tup (oa_cons oe_str (oa_cons (oe_callB (call_isXm hp T.x_NoRow hz hf) (lk_isX (cvs := [.ref T.C_Unsound]) rfl T.i_30) rfl T.g_isinstance zb_isinstance (oa_cons (ov 0) (oa_cons (oe_gl rfl (cst_fun T.n_Unsound)) oa_nil rfl) rfl) (by decide) (by decide) rfl rfl) (oa_cons (oe_callB (call_isXm hp T.x_NoRow hz hf) (lk_isX (cvs := [.type "ValueError"]) rfl T.i_20) rfl T.g_isinstance zb_isinstance (oa_cons (ov 0) (oa_cons (oe_ty rfl T.g_ValueError zb_ValueError) oa_nil rfl) rfl) (by decide) (by decide) rfl rfl) oa_nil rfl) rfl) rfl)) (oa_cons (oe_tup (oa_cons oe_str (oa_cons (oe_callB (call_isXm hp T.x_NoRow hz hf) (lk_isX (cvs := [.ref T.C_NoNumbers]) rfl T.i_29) rfl T.g_isinstance zb_isinstance (oa_cons (ov 0) (oa_cons (oe_gl rfl (cst_fun T.n_NoNumbers)) oa_nil rfl) rfl) (by decide) (by decide) rfl rfl) (oa_cons (oe_callB (call_isXm hp T.x_NoRow hz hf) (lk_isX (cvs := [.type "ValueError"]) rfl T.i_20) rfl T.g_isinstance zb_isinstance (oa_cons (ov 0) (oa_cons (oe_ty rfl T.g_ValueError zb_ValueError) oa_nil rfl) rfl) (by decide) (by decide) rfl rfl) oa_nil rfl) rfl) rfl)) (oa_cons (oe_tup (oa_cons oe_str (oa_cons (oe_callB (call_isXm hp T.x_NoRow hz hf) (lk_isX (cvs := [.ref T.C_NoHook]) rfl T.i_28) rfl T.g_isinstance zb_isinstance (oa_cons (ov 0) (oa_cons (oe_gl rfl (cst_fun T.n_NoHook)) oa_nil rfl) rfl) (by decide) (by decide) rfl rfl) (oa_cons (oe_callB (call_isXm hp T.x_NoRow hz hf) (lk_isX (cvs := [.type "LookupError"]) rfl T.i_27) rfl T.g_isinstance zb_isinstance (oa_cons (ov 0) (oa_cons (oe_ty rfl T.g_LookupError zb_LookupError) oa_nil rfl) rfl) (by decide) (by decide) rfl rfl) oa_nil rfl) rfl) rfl)) (oa_cons (oe_tup (oa_cons oe_str (oa_cons (oe_callB (call_isXm hp T.x_NoRow hz hf) (lk_isX (cvs := [.ref T.C_TooMany]) rfl T.i_26) rfl T.g_isinstance zb_isinstance (oa_cons (ov 0) (oa_cons (oe_gl rfl (cst_fun T.n_TooMany)) oa_nil rfl) rfl) (by decide) (by decide) rfl rfl) (oa_cons (oe_callB (call_isXm hp T.x_NoRow hz hf) (lk_isX (cvs := [.type "OverflowError"]) rfl T.i_25) rfl T.g_isinstance zb_isinstance (oa_cons (ov 0) (oa_cons (oe_ty rfl T.g_OverflowError zb_OverflowError) oa_nil rfl) rfl) (by decide) (by decide) rfl rfl) oa_nil rfl) rfl) rfl)) (oa_cons (oe_tup (oa_cons oe_str (oa_cons (oe_callB (call_isXm hp T.x_NoRow hz hf) (lk_isX (cvs := [.ref T.C_Busy]) rfl T.i_24) rfl T.g_isinstance zb_isinstance (oa_cons (ov 0) (oa_cons (oe_gl rfl (cst_fun T.n_Busy)) oa_nil rfl) rfl) (by decide) (by decide) rfl rfl) (oa_cons (oe_callB (call_isXm hp T.x_NoRow hz hf) (lk_isX (cvs := [.type "RuntimeError"]) rfl T.i_23) rfl T.g_isinstance zb_isinstance (oa_cons (ov 0) (oa_cons (oe_ty rfl T.g_RuntimeError zb_RuntimeError) oa_nil rfl) rfl) (by decide) (by decide) rfl rfl) oa_nil rfl) rfl) rfl)) (oa_cons (oe_tup (oa_cons oe_str (oa_cons (oe_callB (call_isXm hp T.x_NoRow hz hf) (lk_isX (cvs := [.ref T.C_NoText]) rfl T.i_22) rfl T.g_isinstance zb_isinstance (oa_cons (ov 0) (oa_cons (oe_gl rfl (cst_fun T.n_NoText)) oa_nil rfl) rfl) (by decide) (by decide) rfl rfl) (oa_cons (oe_callB (call_isXm hp T.x_NoRow hz hf) (lk_isX (cvs := [.type "ValueError"]) rfl T.i_20) rfl T.g_isinstance zb_isinstance (oa_cons (ov 0) (oa_cons (oe_ty rfl T.g_ValueError zb_ValueError) oa_nil rfl) rfl) (by decide) (by decide) rfl rfl) oa_nil rfl) rfl) rfl)) (oa_cons (oe_tup (oa_cons oe_str (oa_cons (oe_callB (call_isXm hp T.x_NoRow hz hf) (lk_isX (cvs := [.ref T.C_NoWord]) rfl T.i_21) rfl T.g_isinstance zb_isinstance (oa_cons (ov 0) (oa_cons (oe_gl rfl (cst_fun T.n_NoWord)) oa_nil rfl) rfl) (by decide) (by decide) rfl rfl) (oa_cons (oe_callB (call_isXm hp T.x_NoRow hz hf) (lk_isX (cvs := [.type "ValueError"]) rfl T.i_20) rfl T.g_isinstance zb_isinstance (oa_cons (ov 0) (oa_cons (oe_ty rfl T.g_ValueError zb_ValueError) oa_nil rfl) rfl) (by decide) (by decide) rfl rfl) oa_nil rfl) rfl) rfl)) (oa_cons (oe_tup (oa_cons oe_str (oa_cons (oe_callB (call_isXm hp T.x_NoRow hz hf) (lk_isX (cvs := [.ref T.C_NoMark]) rfl T.i_19) rfl T.g_isinstance zb_isinstance (oa_cons (ov 0) (oa_cons (oe_gl rfl (cst_fun T.n_NoMark)) oa_nil rfl) rfl) (by decide) (by decide) rfl rfl) (oa_cons (oe_callB (call_isXm hp T.x_NoRow hz hf) (lk_isX (cvs := [.type "KeyError"]) rfl T.i_18) rfl T.g_isinstance zb_isinstance (oa_cons (ov 0) (oa_cons (oe_ty rfl T.g_KeyError zb_KeyError) oa_nil rfl) rfl) (by decide) (by decide) rfl rfl) oa_nil rfl) rfl) rfl)) oa_nil rfl) rfl) rfl) rfl) rfl) rfl) rfl) rfl) rfl) rfl) rfl) rfl)) rfl (by first | exact Or.inl rfl | exact Or.inr rfl)) (os_cons (os_setLcW (i := 2) (own := [("_law_name", 4), ("_law_ours", 5), ("_law_theirs", 6)]) (sl := [4, 5, 6]) hw S.nd rfl rfl (sw_true rfl rfl rfl (by decide +kernel)) (ov 1) (blkOk_by (N := ["_law_e", "_law_some", "_law_named", "_law_right", "_law_name", "_law_ours", "_law_theirs"]) (sc := defScope D43.1) (own := [("_law_name", 4), ("_law_ours", 5), ("_law_theirs", 6)]) (by decide +kernel)) (by decide) (fun _ _ _ _ _ => (og_tupW hw (ogs_cons (og_name (i := 4) S.nd rfl (by first | exact Or.inl rfl | exact Or.inr rfl) (by first | exact Or.inl rfl | exact Or.inr rfl)) (ogs_cons (og_name (i := 5) S.nd rfl (by first | exact Or.inl rfl | exact Or.inr rfl) (by first | exact Or.inl rfl | exact Or.inr rfl)) (ogs_cons (og_name (i := 6) S.nd rfl (by first | exact Or.inl rfl | exact Or.inr rfl) (by first | exact Or.inl rfl | exact Or.inr rfl)) ogs_nil rfl) rfl) rfl) rfl rfl)) (fun _ _ _ _ _ => (ots_one (ot_val (ov 5) (fun _ => rfl)))) (fun _ _ _ _ _ => (ov 4)) (fun _ => rfl)) (os_cons (os_setLcW (i := 3) (own := [("_law_name", 4), ("_law_ours", 5), ("_law_theirs", 6)]) (sl := [4, 5, 6]) hw S.nd rfl rfl (sw_true rfl rfl rfl (by decide +kernel)) (ov 1) (blkOk_by (N := ["_law_e", "_law_some", "_law_named", "_law_right", "_law_name", "_law_ours", "_law_theirs"]) (sc := defScope D43.1) (own := [("_law_name", 4), ("_law_ours", 5), ("_law_theirs", 6)]) (by decide +kernel)) (by decide) (fun _ _ _ _ _ => (og_tupW hw (ogs_cons (og_name (i := 4) S.nd rfl (by first | exact Or.inl rfl | exact Or.inr rfl) (by first | exact Or.inl rfl | exact Or.inr rfl)) (ogs_cons (og_name (i := 5) S.nd rfl (by first | exact Or.inl rfl | exact Or.inr rfl) (by first | exact Or.inl rfl | exact Or.inr rfl)) (ogs_cons (og_name (i := 6) S.nd rfl (by first | exact Or.inl rfl | exact Or.inr rfl) (by first | exact Or.inl rfl | exact Or.inr rfl)) ogs_nil rfl) rfl) rfl) rfl rfl)) (fun _ _ _ _ _ => (ots_one (PW.pt (ow_and (ot_val (ov 5) (fun _ => rfl)) (ow_and1 (ot_val (ov 6) (fun _ => rfl))))))) (fun _ _ _ _ _ => (ov 4)) (fun _ => rfl)) (os_cons (os_if (PW.pt (ow_and (ot_cmp (op_eqZ (hr.mono (Nat.zero_le _)).units) lk_eq rfl (oe_callB call_len lk_len rfl T.g_len zb_len (oa_cons (ov 2) oa_nil rfl) (by decide) (by decide) rfl rfl) oe_int) (ow_and1 (ot_cmp (op_eqZ (hr.mono (Nat.zero_le _)).units) lk_eq rfl (ov 2) (ov 3))))) (os_cons (os_ret (oe_ix ix_seq lk_ix (fun _ _ => rfl) (ov 2) oe_int)) os_nil) os_nil) (os_cons (os_ret oe_str) os_nil)))))
theorem s__law_odd : FnScope ["_law_bag_here", "_law_some"] ["_law_bag_here"] (defScope D44.1) := ⟨rfl, rfl, rfl, by decide +kernel, rfl, by decide +kernel, by decide +kernel⟩
theorem bz__law_odd (T : Txt w K mg) : KBz K T.d__law_odd ["_law_bag_here"] 1 [] (fun ws _ => ws) := kbz_pos (T.F__law_odd.binds fun _ _ _ _ _ _ us hl => match us, hl with | [_], _ => rfl)
theorem ok__law_odd (T : Txt w K mg) : FnG P w K mg base (L3.CX P w) 2 T.a__law_odd T.d__law_odd ["_law_bag_here"] (spF K ["_law_bag_here"].length F__law_odd) := by
  have S := s__law_odd
  refine fn_ok (N := ["_law_bag_here", "_law_some"]) (ps := ["_law_bag_here"]) (n := 2) (k := 1) (m := m__law_odd) T.F__law_odd S rfl (fun cdv A outer s H E hr => ?_)
  exact (os_cons (os_set (i := 1) S.nd rfl (by first | exact Or.inl rfl | exact Or.inr rfl) (oe_lst (oa_cons oe_non (oa_cons oe_bl (oa_cons oe_bl (oa_cons (oe_un un_neg lk_neg oe_int) (oa_cons oe_int (oa_cons (oe_op op_powW lk_pow oe_int oe_int) (oa_cons oe_str (oa_cons oe_str (oa_cons oe_str (oa_cons oe_str (oa_cons (oe_lst oa_nil) (oa_cons (oe_tup oa_nil) (oa_cons (oe_tup (oa_cons oe_int oa_nil rfl)) (oa_cons (oe_lst (oa_cons oe_str oa_nil rfl)) (oa_cons (oe_tup (oa_cons oe_str oa_nil rfl)) (oa_cons (oe_lst (oa_cons (oe_lst (oa_cons oe_int oa_nil rfl)) oa_nil rfl)) oa_nil rfl) rfl) rfl) rfl) rfl) rfl) rfl) rfl) rfl) rfl) rfl) rfl) rfl) rfl) rfl) rfl)) rfl (by first | exact Or.inl rfl | exact Or.inr rfl)) (os_cons (os_ret (oe_ix ix_seq lk_ix (fun _ _ => rfl) (ov 1) (oe_call (rG (ok__law_take T) (hr.mono (by first | decide | omega))) rfl T.g__law_take T.F__law_take.kp (bz__law_take T) (L3.takes_of rfl rfl rfl rfl) (oa_cons (ov 0) (oa_cons oe_int oa_nil rfl) rfl) ok_nil rfl rfl rfl rfl (by decide) rfl rfl))) os_nil))
theorem s__law_told : FnScope ["_law_program", "_law_part", "_law_row", "_law_number", "_law_e", "_law_found"] ["_law_program", "_law_part", "_law_row"] (defScope D45.1) := ⟨rfl, rfl, rfl, by decide +kernel, rfl, by decide +kernel, by decide +kernel⟩
theorem bz__law_told (T : Txt w K mg) : KBz K T.d__law_told ["_law_program", "_law_part", "_law_row"] 3 [] (fun ws _ => ws) := kbz_pos (T.F__law_told.binds fun _ _ _ _ _ _ us hl => match us, hl with | [_, _, _], _ => rfl)
theorem ok__law_told (T : Txt w K mg) : FnG P w K mg base (L3.CX P w) 7 T.a__law_told T.d__law_told ["_law_program", "_law_part", "_law_row"] (spF K ["_law_program", "_law_part", "_law_row"].length (F__law_told T.C_Busy T.C_NoHook T.C_NoMark T.C_NoNumbers T.C_NoPart T.C_NoProgram T.C_NoRow T.C_NoText T.C_NoWord T.C_TooLong T.C_TooMany T.C_Unsound)) := by
  have S := s__law_told
  refine fn_ok (N := ["_law_program", "_law_part", "_law_row", "_law_number", "_law_e", "_law_found"]) (ps := ["_law_program", "_law_part", "_law_row"]) (n := 6) (k := 6) (m := m__law_told T.C_Busy T.C_NoHook T.C_NoMark T.C_NoNumbers T.C_NoPart T.C_NoProgram T.C_NoRow T.C_NoText T.C_NoWord T.C_TooLong T.C_TooMany T.C_Unsound) T.F__law_told S rfl (fun cdv A outer s H E hr => ?_)
  exact (os_cons (os_tryM rfl rfl (L3.takes_of rfl rfl rfl rfl) (fun W pn xe tk ps => (os_cons (os_set (i := 3) S.nd rfl (by first | exact Or.inl rfl | exact Or.inr rfl) (oe_call (rG (ok_part_number T) (hr.mono (by first | decide | omega))) rfl T.g_part_number T.F_part_number.kp (bz_part_number T) tk (oa_cons (ov 0) (oa_cons (ov 1) oa_nil rfl) rfl) ok_nil rfl rfl rfl rfl (by decide) rfl rfl) rfl (by first | exact Or.inl rfl | exact Or.inr rfl)) os_nil)) (.cons (i := 4) S.nd rfl rfl ⟨rfl, by decide, .inl T.nt_NoPart.gC⟩ (fun e a dd oe pn he hz hf hot => (os_cons (os_set (i := 3) S.nd rfl (by first | exact Or.inl rfl | exact Or.inr rfl) (oe_lst (oa_cons (oe_call (rM (okE__law_kind_NoPart T (onlyN_zc he hz) hf) (RmG.warm (hr.mono (by first | decide | omega))) hot List.mem_cons_self) rfl T.g__law_kind T.F__law_kind.kp (bz__law_kind T) takesW (oa_cons (ov 4) oa_nil rfl) ok_nil rfl rfl rfl rfl (by decide) rfl rfl) (oa_cons (oe_fld (fld_NoPart T.nt_NoPart) T.nt_NoPart.noN (onlyN_eq he) hz hf (ov 4) rfl) oa_nil rfl) rfl)) rfl (by first | exact Or.inl rfl | exact Or.inr rfl)) os_nil)) (onlyN_ok T.nt_NoPart.te T.nt_NoPart.exC T.nt_NoPart.hdC T.nt_NoPart.tyC (fun D hD => by simp only [List.mem_cons, List.not_mem_nil, or_false] at hD; rcases hD with rfl <;> first | exact T.sn_NoRow_NoPart)) .nil)) (os_cons (os_tryM rfl rfl (L3.takes_of rfl rfl rfl rfl) (fun W pn xe tk ps => (os_cons (os_set (i := 5) S.nd rfl (by first | exact Or.inl rfl | exact Or.inr rfl) (oe_call (rG (ok_row_at T) (hr.mono (by first | decide | omega))) rfl T.g_row_at T.F_row_at.kp (bz_row_at T) tk (oa_cons (ov 0) (oa_cons (ov 1) (oa_cons (ov 2) oa_nil rfl) rfl) rfl) ok_nil rfl rfl rfl rfl (by decide) rfl rfl) rfl (by first | exact Or.inl rfl | exact Or.inr rfl)) os_nil)) (.cons (i := 4) S.nd rfl rfl ⟨rfl, by decide, .inl T.nt_NoPart.gC⟩ (fun e a dd oe pn he hz hf hot => (os_cons (os_set (i := 5) S.nd rfl (by first | exact Or.inl rfl | exact Or.inr rfl) (oe_lst (oa_cons (oe_call (rM (okE__law_kind_NoPart T (onlyN_zc he hz) hf) (RmG.warm (hr.mono (by first | decide | omega))) hot List.mem_cons_self) rfl T.g__law_kind T.F__law_kind.kp (bz__law_kind T) takesW (oa_cons (ov 4) oa_nil rfl) ok_nil rfl rfl rfl rfl (by decide) rfl rfl) (oa_cons (oe_fld (fld_NoPart T.nt_NoPart) T.nt_NoPart.noN (onlyN_eq he) hz hf (ov 4) rfl) oa_nil rfl) rfl)) rfl (by first | exact Or.inl rfl | exact Or.inr rfl)) os_nil)) (onlyN_ok T.nt_NoPart.te T.nt_NoPart.exC T.nt_NoPart.hdC T.nt_NoPart.tyC (fun D hD => by simp only [List.mem_cons, List.not_mem_nil, or_false] at hD; rcases hD with rfl <;> first | exact T.sn_NoRow_NoPart)) (.cons (i := 4) S.nd rfl rfl ⟨rfl, by decide, .inl T.nt_NoRow.gC⟩ (fun e a dd oe pn he hz hf hot => (os_cons (os_set (i := 5) S.nd rfl (by first | exact Or.inl rfl | exact Or.inr rfl) (oe_lst (oa_cons (oe_call (rM (okE__law_kind_NoRow T (onlyN_zc he hz) hf) (RmG.warm (hr.mono (by first | decide | omega))) hot List.mem_cons_self) rfl T.g__law_kind T.F__law_kind.kp (bz__law_kind T) takesW (oa_cons (ov 4) oa_nil rfl) ok_nil rfl rfl rfl rfl (by decide) rfl rfl) (oa_cons (oe_fld (fld_NoRow T.nt_NoRow) T.nt_NoRow.noN (onlyN_eq he) hz hf (ov 4) rfl) oa_nil rfl) rfl)) rfl (by first | exact Or.inl rfl | exact Or.inr rfl)) os_nil)) (onlyN_ok T.nt_NoRow.te T.nt_NoRow.exC T.nt_NoRow.hdC T.nt_NoRow.tyC (fun D hD => by cases hD)) .nil))) (os_cons (os_ret (oe_lst (oa_cons (ov 3) (oa_cons (ov 5) oa_nil rfl) rfl))) os_nil)))
theorem s__law_alike : FnScope ["_law_one", "_law_other"] ["_law_one", "_law_other"] (defScope D46.1) := ⟨rfl, rfl, rfl, by decide +kernel, rfl, by decide +kernel, by decide +kernel⟩
theorem bz__law_alike (T : Txt w K mg) : KBz K T.d__law_alike ["_law_one", "_law_other"] 2 [] (fun ws _ => ws) := kbz_pos (T.F__law_alike.binds fun _ _ _ _ _ _ us hl => match us, hl with | [_, _], _ => rfl)
theorem ok__law_alike (T : Txt w K mg) : FnG P w K mg base (L3.CX P w) 1 T.a__law_alike T.d__law_alike ["_law_one", "_law_other"] (spF K ["_law_one", "_law_other"].length F__law_alike) := by
  have S := s__law_alike
  refine fn_ok (N := ["_law_one", "_law_other"]) (ps := ["_law_one", "_law_other"]) (n := 2) (k := 0) (m := m__law_alike) T.F__law_alike S rfl (fun cdv A outer s H E hr => ?_)
  exact (os_cons (os_ret (oe_and (oe_cmp (op_eqM hr.units) (lk_eqD false) rfl (ov 0) (ov 1)) (oe_one (oe_cmp (op_eqZ (hr.mono (Nat.zero_le _)).units) lk_eq rfl (oe_callB (call_reprD hr.gd hr.units) lk_repr rfl T.g_repr zb_repr (oa_cons (ov 0) oa_nil rfl) (by decide) (by decide) rfl rfl) (oe_callB (call_reprD hr.gd hr.units) lk_repr rfl T.g_repr zb_repr (oa_cons (ov 1) oa_nil rfl) (by decide) (by decide) rfl rfl))))) os_nil)
theorem s__law_due : FnScope ["_law_program", "_law_part", "_law_row", "_law_called", "_law_number", "_law_rows", "_law_one"] ["_law_program", "_law_part", "_law_row"] (defScope D47.1) := ⟨rfl, rfl, rfl, by decide +kernel, rfl, by decide +kernel, by decide +kernel⟩
theorem bz__law_due (T : Txt w K mg) : KBz K T.d__law_due ["_law_program", "_law_part", "_law_row"] 3 [] (fun ws _ => ws) := kbz_pos (T.F__law_due.binds fun _ _ _ _ _ _ us hl => match us, hl with | [_, _, _], _ => rfl)
theorem ok__law_due (T : Txt w K mg) : FnG P w K mg base (L3.CX P w) 1 T.a__law_due T.d__law_due ["_law_program", "_law_part", "_law_row"] (spF K ["_law_program", "_law_part", "_law_row"].length F__law_due) := by
  have S := s__law_due
  refine fn_ok (N := ["_law_program", "_law_part", "_law_row", "_law_called", "_law_number", "_law_rows", "_law_one"]) (ps := ["_law_program", "_law_part", "_law_row"]) (n := 7) (k := 0) (m := m__law_due) T.F__law_due S rfl (fun cdv A outer s H E hr => ?_)
  exact (os_cons (os_setLc (i := 3) (own := [("_law_one", 6)]) (sl := [6]) rfl S.nd rfl rfl (sw_true rfl rfl rfl (by decide +kernel)) (oi_val (ov 0)) (blkOk_by (N := ["_law_program", "_law_part", "_law_row", "_law_called", "_law_number", "_law_rows", "_law_one"]) (sc := defScope D47.1) (own := [("_law_one", 6)]) (by decide +kernel)) (by decide) (fun _ _ _ _ _ => (og_name (i := 6) S.nd rfl (by first | exact Or.inl rfl | exact Or.inr rfl) (by first | exact Or.inl rfl | exact Or.inr rfl))) (fun _ _ _ _ _ => ots_nil) (fun _ _ _ _ _ => (oe_ix ix_seq lk_ix (fun _ _ => rfl) (ov 6) oe_int)) (fun _ => rfl)) (os_cons (os_if (PW.pt (ow_or (ot_not (ot_val (oe_callB call_isi lk_isi rfl T.g_isinstance zb_isinstance (oa_cons (ov 1) (oa_cons (oe_ty rfl T.g_str zb_str) oa_nil rfl) rfl) (by decide) (by decide) rfl rfl) (fun _ => rfl))) (ow_or1 (ot_cmp op_notInZ (lk_in true) rfl (ov 1) (ov 3))))) (os_cons (os_ret (oe_lst (oa_cons (oe_lst (oa_cons oe_str (oa_cons (ov 1) oa_nil rfl) rfl)) (oa_cons (oe_lst (oa_cons oe_str (oa_cons (ov 1) oa_nil rfl) rfl)) oa_nil rfl) rfl))) os_nil) os_nil) (os_cons (os_set (i := 4) S.nd rfl (by first | exact Or.inl rfl | exact Or.inr rfl) (oe_idxL (ov 3) (oa_cons (ov 1) oa_nil rfl) rfl rfl rfl rfl rfl) rfl (by first | exact Or.inl rfl | exact Or.inr rfl)) (os_cons (os_set (i := 5) S.nd rfl (by first | exact Or.inl rfl | exact Or.inr rfl) (oe_ix ix_seq lk_ix (fun _ _ => rfl) (oe_ix ix_seq lk_ix (fun _ _ => rfl) (ov 0) (ov 4)) oe_int) rfl (by first | exact Or.inl rfl | exact Or.inr rfl)) (os_cons (os_if (PW.pt (ow_or (ot_val (oe_callB call_isi lk_isi rfl T.g_isinstance zb_isinstance (oa_cons (ov 2) (oa_cons (oe_ty rfl T.g_bool zb_bool) oa_nil rfl) rfl) (by decide) (by decide) rfl rfl) (fun _ => rfl)) (ow_or (ot_not (ot_val (oe_callB call_isi lk_isi rfl T.g_isinstance zb_isinstance (oa_cons (ov 2) (oa_cons (oe_ty rfl T.g_int zb_int) oa_nil rfl) rfl) (by decide) (by decide) rfl rfl) (fun _ => rfl))) (ow_or1 (ot_not (ot_chn oe_int (ok_link op_le lk_ord (ov 2) (ok_last op_lt lk_ord (oe_callB call_len lk_len rfl T.g_len zb_len (oa_cons (ov 5) oa_nil rfl) (by decide) (by decide) rfl rfl))))))))) (os_cons (os_ret (oe_lst (oa_cons (ov 4) (oa_cons (oe_lst (oa_cons oe_str (oa_cons (ov 2) oa_nil rfl) rfl)) oa_nil rfl) rfl))) os_nil) os_nil) (os_cons (os_ret (oe_lst (oa_cons (ov 4) (oa_cons (oe_ix ix_seq lk_ix (fun _ _ => rfl) (ov 5) (ov 2)) oa_nil rfl) rfl))) os_nil))))))
theorem s_law : FnScope ["_law_script", "_law_at", "_law_bag_here", "_law_program", "_law_turn", "_law_part", "_law_row"] ["_law_script"] (defScope D48.1) := ⟨rfl, rfl, rfl, by decide +kernel, rfl, by decide +kernel, by decide +kernel⟩
theorem ok_law (T : Txt w K mg) (hl : ∀ ns : List Int, ns.length ≤ 63 → (∀ z ∈ ns, Builtin.Int.intBits z ≤ 1048576) → ∃ h, (F_law T.C_Busy T.C_NoHook T.C_NoMark T.C_NoNumbers T.C_NoPart T.C_NoProgram T.C_NoRow T.C_NoText T.C_NoWord T.C_TooLong T.C_TooMany T.C_Unsound) [.scr ns] [] = .ok (.bl true) h) : FnG P w K mg base CX0 8 T.a_law T.d_law ["_law_script"] (spLaw K) := by
  have S := s_law
  refine law_ok (N := ["_law_script", "_law_at", "_law_bag_here", "_law_program", "_law_turn", "_law_part", "_law_row"]) (n := 7) (k := 7) (m := m_law T.C_Busy T.C_NoHook T.C_NoMark T.C_NoNumbers T.C_NoPart T.C_NoProgram T.C_NoRow T.C_NoText T.C_NoWord T.C_TooLong T.C_TooMany T.C_Unsound) T.F_law S rfl (fun cdv A outer s H E hr => ?_) hl
  exact (os_cons (os_for PassesOwn.never rfl (oi_rg1 rfl T.g_range (oa_cons (oe_callB (call_max2 rfl) lk_max rfl T.g_max zb_max (oa_cons oe_int (oa_cons (oe_callB (call_min2 rfl) lk_min rfl T.g_min zb_min (oa_cons oe_int (oa_cons (oe_callB call_len lk_len rfl T.g_len zb_len (oa_cons (ov 0) oa_nil rfl) (by decide) (by decide) rfl rfl) oa_nil rfl) rfl) (by decide) (by decide) rfl rfl) oa_nil rfl) rfl) (by decide) (by decide) rfl rfl) oa_nil rfl)) (og_name (i := 1) S.nd rfl (by first | exact Or.inl rfl | exact Or.inr rfl) (by first | exact Or.inl rfl | exact Or.inr rfl)) (os_cons (os_set (i := 2) S.nd rfl (by first | exact Or.inl rfl | exact Or.inr rfl) (oe_call (rG (ok__law_bag T) (hr.mono (by first | decide | omega))) rfl T.g__law_bag T.F__law_bag.kp (bz__law_bag T) takesW (oa_cons (ov 0) (oa_cons (ov 1) oa_nil rfl) rfl) ok_nil rfl rfl rfl rfl (by decide) rfl rfl) rfl (by first | exact Or.inl rfl | exact Or.inr rfl)) (os_cons (os_set (i := 3) S.nd rfl (by first | exact Or.inl rfl | exact Or.inr rfl) (oe_call (rG (ok__law_any_program T) (hr.mono (by first | decide | omega))) rfl T.g__law_any_program T.F__law_any_program.kp (bz__law_any_program T) takesW (oa_cons (ov 2) oa_nil rfl) ok_nil rfl rfl rfl rfl (by decide) rfl rfl) rfl (by first | exact Or.inl rfl | exact Or.inr rfl)) (os_cons (os_for PassesOwn.never rfl (oi_rg1 rfl T.g_range (oa_cons oe_int oa_nil rfl)) (og_name (i := 4) S.nd rfl (by first | exact Or.inl rfl | exact Or.inr rfl) (by first | exact Or.inl rfl | exact Or.inr rfl)) (os_cons (os_set (i := 5) S.nd rfl (by first | exact Or.inl rfl | exact Or.inr rfl) (oe_ix ix_seq lk_ix (fun _ _ => rfl) (oe_ix ix_seq lk_ix (fun _ _ => rfl) (ov 3) (oe_call (rG (ok__law_take T) (hr.mono (by first | decide | omega))) rfl T.g__law_take T.F__law_take.kp (bz__law_take T) takesW (oa_cons (ov 2) (oa_cons (oe_callB call_len lk_len rfl T.g_len zb_len (oa_cons (ov 3) oa_nil rfl) (by decide) (by decide) rfl rfl) oa_nil rfl) rfl) ok_nil rfl rfl rfl rfl (by decide) rfl rfl)) oe_int) rfl (by first | exact Or.inl rfl | exact Or.inr rfl)) (os_cons (os_set (i := 6) S.nd rfl (by first | exact Or.inl rfl | exact Or.inr rfl) (oe_op op_sub lk_sub (oe_call (rG (ok__law_take T) (hr.mono (by first | decide | omega))) rfl T.g__law_take T.F__law_take.kp (bz__law_take T) takesW (oa_cons (ov 2) (oa_cons oe_int oa_nil rfl) rfl) ok_nil rfl rfl rfl rfl (by decide) rfl rfl) oe_int) rfl (by first | exact Or.inl rfl | exact Or.inr rfl)) (os_cons (os_if (ot_cmp op_gt lk_ord rfl (ov 4) oe_int) (os_cons (os_set (i := 5) S.nd rfl (by first | exact Or.inl rfl | exact Or.inr rfl) (oe_ix ix_seq lk_ix (fun _ _ => rfl) (oe_lst (oa_cons (ov 5) (oa_cons (oe_call (rG (ok__law_odd T) (hr.mono (by first | decide | omega))) rfl T.g__law_odd T.F__law_odd.kp (bz__law_odd T) takesW (oa_cons (ov 2) oa_nil rfl) ok_nil rfl rfl rfl rfl (by decide) rfl rfl) oa_nil rfl) rfl)) (oe_call (rG (ok__law_take T) (hr.mono (by first | decide | omega))) rfl T.g__law_take T.F__law_take.kp (bz__law_take T) takesW (oa_cons (ov 2) (oa_cons oe_int oa_nil rfl) rfl) ok_nil rfl rfl rfl rfl (by decide) rfl rfl)) rfl (by first | exact Or.inl rfl | exact Or.inr rfl)) (os_cons (os_set (i := 6) S.nd rfl (by first | exact Or.inl rfl | exact Or.inr rfl) (oe_ix ix_seq lk_ix (fun _ _ => rfl) (oe_lst (oa_cons (ov 6) (oa_cons (oe_call (rG (ok__law_odd T) (hr.mono (by first | decide | omega))) rfl T.g__law_odd T.F__law_odd.kp (bz__law_odd T) takesW (oa_cons (ov 2) oa_nil rfl) ok_nil rfl rfl rfl rfl (by decide) rfl rfl) oa_nil rfl) rfl)) (oe_call (rG (ok__law_take T) (hr.mono (by first | decide | omega))) rfl T.g__law_take T.F__law_take.kp (bz__law_take T) takesW (oa_cons (ov 2) (oa_cons oe_int oa_nil rfl) rfl) ok_nil rfl rfl rfl rfl (by decide) rfl rfl)) rfl (by first | exact Or.inl rfl | exact Or.inr rfl)) os_nil)) os_nil) (os_cons (os_if (ot_not (ot_val (oe_call (rG (ok__law_alike T) (hr.mono (by first | decide | omega))) rfl T.g__law_alike T.F__law_alike.kp (bz__law_alike T) takesW (oa_cons (oe_call (rG (ok__law_told T) (hr.mono (by first | decide | omega))) rfl T.g__law_told T.F__law_told.kp (bz__law_told T) takesW (oa_cons (ov 3) (oa_cons (ov 5) (oa_cons (ov 6) oa_nil rfl) rfl) rfl) ok_nil rfl rfl rfl rfl (by decide) rfl rfl) (oa_cons (oe_call (rG (ok__law_due T) (hr.mono (by first | decide | omega))) rfl T.g__law_due T.F__law_due.kp (bz__law_due T) takesW (oa_cons (ov 3) (oa_cons (ov 5) (oa_cons (ov 6) oa_nil rfl) rfl) rfl) ok_nil rfl rfl rfl rfl (by decide) rfl rfl) oa_nil rfl) rfl) ok_nil rfl rfl rfl rfl (by decide) rfl rfl) (fun _ => rfl))) (os_cons (os_ret oe_bl) os_nil) os_nil) os_nil)))) (fun _ => rfl)) os_nil))) (fun _ => rfl)) (os_cons (os_ret oe_bl) os_nil))
end
theorem txt_mk {w : World} {K : PySem.W.Frag} {h : Heap} {mg : Str → Option Value} (X : K.In h) (G : h.Ns mainGlobals mg) {A_ALONE : Addr} {o_ALONE : Obj} {i_ALONE : Array Value} {z_ALONE : Nat} {A_LEADING : Addr} {o_LEADING : Obj} {i_LEADING : Array Value} {z_LEADING : Nat} {t_LETTERS : Tok} {t_MOST_LETTERS : Tok} {t_MOST_LONG : Tok} {t_MOST_NAMES : Tok} {t_MOST_PARTS : Tok} {t_MOST_WORTH : Tok} {A_NAMED : Addr} {o_NAMED : Obj} {i_NAMED : Array Value} {z_NAMED : Nat} {C_NoProgram : Addr} {C_NoPart : Addr} {C_NoRow : Addr} {C_NoMark : Addr} {C_NoWord : Addr} {C_NoText : Addr} {C_Busy : Addr} {C_TooMany : Addr} {C_NoHook : Addr} {C_NoNumbers : Addr} {C_Unsound : Addr} {C_TooLong : Addr} {I_NoPart : Addr} {nm_NoPart nq_NoPart : Str} {nN_NoPart : Addr} {nbs_NoPart : List Value} {nsn_NoPart : List Str} {nsub_NoPart : List Value} {nab_NoPart : Bool} {ncol_NoPart : Option Bool} {ndd_NoPart : Option Addr} {nm0_NoPart nm1_NoPart nm2_NoPart nm3_NoPart nm5_NoPart : Option Value} {nod_NoPart nan_NoPart : Option Addr} {nsl_NoPart : Array (Option Value)} {noc_NoPart ndc_NoPart npm_NoPart ncd_NoPart nct_NoPart : Value} {np1_NoPart np2_NoPart nq1_NoPart nq2_NoPart nq3_NoPart nq4_NoPart : Pos} {I_NoRow : Addr} {nm_NoRow nq_NoRow : Str} {nN_NoRow : Addr} {nbs_NoRow : List Value} {nsn_NoRow : List Str} {nsub_NoRow : List Value} {nab_NoRow : Bool} {ncol_NoRow : Option Bool} {ndd_NoRow : Option Addr} {nm0_NoRow nm1_NoRow nm2_NoRow nm3_NoRow nm5_NoRow : Option Value} {nod_NoRow nan_NoRow : Option Addr} {nsl_NoRow : Array (Option Value)} {noc_NoRow ndc_NoRow npm_NoRow ncd_NoRow nct_NoRow : Value} {np1_NoRow np2_NoRow nq1_NoRow nq2_NoRow nq3_NoRow nq4_NoRow : Pos} {f_is_whole : Addr} {od_is_whole an_is_whole : Option Addr} {sl_is_whole : Array (Option Value)} {oc_is_whole kV_is_whole dc_is_whole pm_is_whole cd_is_whole ct_is_whole : Value} {f_is_worth : Addr} {od_is_worth an_is_worth : Option Addr} {sl_is_worth : Array (Option Value)} {oc_is_worth kV_is_worth dc_is_worth pm_is_worth cd_is_worth ct_is_worth : Value} {f_is_name : Addr} {od_is_name an_is_name : Option Addr} {sl_is_name : Array (Option Value)} {oc_is_name kV_is_name dc_is_name pm_is_name cd_is_name ct_is_name : Value} {f_are_unlike_names : Addr} {od_are_unlike_names an_are_unlike_names : Option Addr} {sl_are_unlike_names : Array (Option Value)} {oc_are_unlike_names dc_are_unlike_names pm_are_unlike_names cd_are_unlike_names ct_are_unlike_names : Value} {D_are_unlike_names : Addr} {u_are_unlike_names_least : Value} {f_is_led_to : Addr} {od_is_led_to an_is_led_to : Option Addr} {sl_is_led_to : Array (Option Value)} {oc_is_led_to kV_is_led_to dc_is_led_to pm_is_led_to cd_is_led_to ct_is_led_to : Value} {f_is_row : Addr} {od_is_row an_is_row : Option Addr} {sl_is_row : Array (Option Value)} {oc_is_row kV_is_row dc_is_row pm_is_row cd_is_row ct_is_row : Value} {f_is_headed : Addr} {od_is_headed an_is_headed : Option Addr} {sl_is_headed : Array (Option Value)} {oc_is_headed kV_is_headed dc_is_headed pm_is_headed cd_is_headed ct_is_headed : Value} {f_is_program : Addr} {od_is_program an_is_program : Option Addr} {sl_is_program : Array (Option Value)} {oc_is_program kV_is_program dc_is_program pm_is_program cd_is_program ct_is_program : Value} {f_look_program : Addr} {od_look_program an_look_program : Option Addr} {sl_look_program : Array (Option Value)} {oc_look_program kV_look_program dc_look_program pm_look_program cd_look_program ct_look_program : Value} {f_number_of : Addr} {od_number_of an_number_of : Option Addr} {sl_number_of : Array (Option Value)} {oc_number_of kV_number_of dc_number_of pm_number_of cd_number_of ct_number_of : Value} {f_look_row : Addr} {od_look_row an_look_row : Option Addr} {sl_look_row : Array (Option Value)} {oc_look_row kV_look_row dc_look_row pm_look_row cd_look_row ct_look_row : Value} {f_part_number : Addr} {od_part_number an_part_number : Option Addr} {sl_part_number : Array (Option Value)} {oc_part_number kV_part_number dc_part_number pm_part_number cd_part_number ct_part_number : Value} {f_row_at : Addr} {od_row_at an_row_at : Option Addr} {sl_row_at : Array (Option Value)} {oc_row_at kV_row_at dc_row_at pm_row_at cd_row_at ct_row_at : Value} {f__law_bag : Addr} {od__law_bag an__law_bag : Option Addr} {sl__law_bag : Array (Option Value)} {oc__law_bag kV__law_bag dc__law_bag pm__law_bag cd__law_bag ct__law_bag : Value} {f__law_take : Addr} {od__law_take an__law_take : Option Addr} {sl__law_take : Array (Option Value)} {oc__law_take kV__law_take dc__law_take pm__law_take cd__law_take ct__law_take : Value} {f__law_worth : Addr} {od__law_worth an__law_worth : Option Addr} {sl__law_worth : Array (Option Value)} {oc__law_worth kV__law_worth dc__law_worth pm__law_worth cd__law_worth ct__law_worth : Value} {f__law_names : Addr} {od__law_names an__law_names : Option Addr} {sl__law_names : Array (Option Value)} {oc__law_names kV__law_names dc__law_names pm__law_names cd__law_names ct__law_names : Value} {f__law_any_row : Addr} {od__law_any_row an__law_any_row : Option Addr} {sl__law_any_row : Array (Option Value)} {oc__law_any_row kV__law_any_row dc__law_any_row pm__law_any_row cd__law_any_row ct__law_any_row : Value} {f__law_any_program : Addr} {od__law_any_program an__law_any_program : Option Addr} {sl__law_any_program : Array (Option Value)} {oc__law_any_program kV__law_any_program dc__law_any_program pm__law_any_program cd__law_any_program ct__law_any_program : Value} {f__law_kind : Addr} {od__law_kind an__law_kind : Option Addr} {sl__law_kind : Array (Option Value)} {oc__law_kind kV__law_kind dc__law_kind pm__law_kind cd__law_kind ct__law_kind : Value} {f__law_odd : Addr} {od__law_odd an__law_odd : Option Addr} {sl__law_odd : Array (Option Value)} {oc__law_odd kV__law_odd dc__law_odd pm__law_odd cd__law_odd ct__law_odd : Value} {f__law_told : Addr} {od__law_told an__law_told : Option Addr} {sl__law_told : Array (Option Value)} {oc__law_told kV__law_told dc__law_told pm__law_told cd__law_told ct__law_told : Value} {f__law_alike : Addr} {od__law_alike an__law_alike : Option Addr} {sl__law_alike : Array (Option Value)} {oc__law_alike kV__law_alike dc__law_alike pm__law_alike cd__law_alike ct__law_alike : Value} {f__law_due : Addr} {od__law_due an__law_due : Option Addr} {sl__law_due : Array (Option Value)} {oc__law_due kV__law_due dc__law_due pm__law_due cd__law_due ct__law_due : Value} {f_law : Addr} {od_law an_law : Option Addr} {sl_law : Array (Option Value)} {oc_law kV_law dc_law pm_law cd_law ct_law : Value}
    (zz_IndexError : PySem.W.nsIn K mainGlobals "IndexError" = some none)
    (zz_KeyError : PySem.W.nsIn K mainGlobals "KeyError" = some none)
    (zz_LookupError : PySem.W.nsIn K mainGlobals "LookupError" = some none)
    (zz_OverflowError : PySem.W.nsIn K mainGlobals "OverflowError" = some none)
    (zz_RuntimeError : PySem.W.nsIn K mainGlobals "RuntimeError" = some none)
    (zz_ValueError : PySem.W.nsIn K mainGlobals "ValueError" = some none)
    (zz_abs : PySem.W.nsIn K mainGlobals "abs" = some none)
    (zz_all : PySem.W.nsIn K mainGlobals "all" = some none)
    (zz_bool : PySem.W.nsIn K mainGlobals "bool" = some none)
    (zz_enumerate : PySem.W.nsIn K mainGlobals "enumerate" = some none)
    (zz_int : PySem.W.nsIn K mainGlobals "int" = some none)
    (zz_isinstance : PySem.W.nsIn K mainGlobals "isinstance" = some none)
    (zz_len : PySem.W.nsIn K mainGlobals "len" = some none)
    (zz_max : PySem.W.nsIn K mainGlobals "max" = some none)
    (zz_min : PySem.W.nsIn K mainGlobals "min" = some none)
    (zz_range : PySem.W.nsIn K mainGlobals "range" = some none)
    (zz_repr : PySem.W.nsIn K mainGlobals "repr" = some none)
    (zz_set : PySem.W.nsIn K mainGlobals "set" = some none)
    (zz_str : PySem.W.nsIn K mainGlobals "str" = some none)
    (zz_tuple : PySem.W.nsIn K mainGlobals "tuple" = some none)
    (n_ALONE : PySem.W.nsIn K mainGlobals "ALONE" = some (some (.ref A_ALONE)))
    (l_ALONE : K.lookup A_ALONE = some o_ALONE)
    (y_ALONE : o_ALONE.cls = .type "tuple")
    (d_ALONE : o_ALONE.dict = none)
    (q_ALONE : o_ALONE.data = .seq i_ALONE z_ALONE)
    (r_ALONE : (i_ALONE.toList.map fun u => match u with | .str y _ => some y | _ => none) = (["add", "less", "times", "over", "same", "below", "twin", "swap", "away", "say", "back", "throw", "done", "lead", "turn"] : List Str).map some)
    (n_LEADING : PySem.W.nsIn K mainGlobals "LEADING" = some (some (.ref A_LEADING)))
    (l_LEADING : K.lookup A_LEADING = some o_LEADING)
    (y_LEADING : o_LEADING.cls = .type "tuple")
    (d_LEADING : o_LEADING.dict = none)
    (q_LEADING : o_LEADING.data = .seq i_LEADING z_LEADING)
    (r_LEADING : (i_LEADING.toList.map fun u => match u with | .str y _ => some y | _ => none) = (["go", "if", "try"] : List Str).map some)
    (n_LETTERS : PySem.W.nsIn K mainGlobals "LETTERS" = some (some (.str "abcdefghijklmnopqrstuvwxyz" t_LETTERS)))
    (n_MOST_LETTERS : PySem.W.nsIn K mainGlobals "MOST_LETTERS" = some (some (.int 8 t_MOST_LETTERS)))
    (n_MOST_LONG : PySem.W.nsIn K mainGlobals "MOST_LONG" = some (some (.int 60 t_MOST_LONG)))
    (n_MOST_NAMES : PySem.W.nsIn K mainGlobals "MOST_NAMES" = some (some (.int 3 t_MOST_NAMES)))
    (n_MOST_PARTS : PySem.W.nsIn K mainGlobals "MOST_PARTS" = some (some (.int 8 t_MOST_PARTS)))
    (n_MOST_WORTH : PySem.W.nsIn K mainGlobals "MOST_WORTH" = some (some (.int 1000000000000 t_MOST_WORTH)))
    (n_NAMED : PySem.W.nsIn K mainGlobals "NAMED" = some (some (.ref A_NAMED)))
    (l_NAMED : K.lookup A_NAMED = some o_NAMED)
    (y_NAMED : o_NAMED.cls = .type "tuple")
    (d_NAMED : o_NAMED.dict = none)
    (q_NAMED : o_NAMED.data = .seq i_NAMED z_NAMED)
    (r_NAMED : (i_NAMED.toList.map fun u => match u with | .str y _ => some y | _ => none) = (["get", "set", "look", "change"] : List Str).map some)
    (n_NoProgram : PySem.W.nsIn K mainGlobals "NoProgram" = some (some (.ref C_NoProgram)))
    (xp_NoProgram : PySem.W.excIn K C_NoProgram [.type "ValueError", .type "Exception", .type "BaseException", .type "object"] "ValueError.__new__" = true)
    (kp_NoProgram : PySem.W.keepIn K (.ref C_NoProgram) = true)
    (bp_NoProgram : PySem.W.subIn K (.ref C_NoProgram) (.type "BaseException") = some true)
    (tp_NoProgram : PySem.W.typeIn K (.ref C_NoProgram) = some (.type "type"))
    (ip_NoProgram : PySem.W.isClsIn K C_NoProgram = true)
    (sp_NoProgram : PySem.W.subIn K (.ref C_NoProgram) (.ref C_NoProgram) = some true)
    (n_NoPart : PySem.W.nsIn K mainGlobals "NoPart" = some (some (.ref C_NoPart)))
    (n_NoRow : PySem.W.nsIn K mainGlobals "NoRow" = some (some (.ref C_NoRow)))
    (n_NoMark : PySem.W.nsIn K mainGlobals "NoMark" = some (some (.ref C_NoMark)))
    (n_NoWord : PySem.W.nsIn K mainGlobals "NoWord" = some (some (.ref C_NoWord)))
    (n_NoText : PySem.W.nsIn K mainGlobals "NoText" = some (some (.ref C_NoText)))
    (n_Busy : PySem.W.nsIn K mainGlobals "Busy" = some (some (.ref C_Busy)))
    (n_TooMany : PySem.W.nsIn K mainGlobals "TooMany" = some (some (.ref C_TooMany)))
    (n_NoHook : PySem.W.nsIn K mainGlobals "NoHook" = some (some (.ref C_NoHook)))
    (n_NoNumbers : PySem.W.nsIn K mainGlobals "NoNumbers" = some (some (.ref C_NoNumbers)))
    (n_Unsound : PySem.W.nsIn K mainGlobals "Unsound" = some (some (.ref C_Unsound)))
    (n_TooLong : PySem.W.nsIn K mainGlobals "TooLong" = some (some (.ref C_TooLong)))
    (nxL_NoPart : K.lookup C_NoPart = some (PySem.excClassObj nm_NoPart nq_NoPart C_NoPart nN_NoPart nbs_NoPart [.type "KeyError", .type "LookupError", .type "Exception", .type "BaseException", .type "object"] true nsn_NoPart nsub_NoPart nab_NoPart ncol_NoPart ndd_NoPart nm0_NoPart nm1_NoPart nm2_NoPart nm3_NoPart nm5_NoPart "LookupError.__new__"))
    (nsa_NoPart : PySem.W.findIn K (.ref C_NoPart) "__setattr__" = some (some (.builtin "object.__setattr__")))
    (nga_NoPart : PySem.W.findIn K (.ref C_NoPart) "__getattribute__" = some (some (.builtin "BaseException.__getattribute__")))
    (ngg_NoPart : PySem.W.findIn K (.ref C_NoPart) "__getattr__" = some none)
    (nnb_NoPart : PySem.W.findIn K (.ref C_NoPart) "name" = some none)
    (na1_NoPart : PySem.W.findIn K (.ref C_NoPart) "__init__" = some (some (.ref I_NoPart)))
    (nt1_NoPart : PySem.W.typeIn K (.ref I_NoPart) = some (.type "function"))
    (nl1_NoPart : K.lookup I_NoPart = some ⟨noc_NoPart, nod_NoPart, .func (PySem.W.fnOf "__init__" "NoPart.__init__" (PySem.NX_NoPart.iA np1_NoPart np2_NoPart) (PySem.NX_NoPart.iB nq1_NoPart nq2_NoPart nq3_NoPart nq4_NoPart) PySem.NX_NoPart.iS .none .none ndc_NoPart npm_NoPart nan_NoPart ncd_NoPart nct_NoPart), nsl_NoPart⟩)
    (nc1_NoPart : PySem.W.codeIn K ncd_NoPart "NoPart.__init__" = true)
    (nkC_NoPart : PySem.W.keepIn K (.ref C_NoPart) = true)
    (neC_NoPart : PySem.W.subIn K (.ref C_NoPart) (.type "BaseException") = some true)
    (ntC_NoPart : PySem.W.typeIn K (.ref C_NoPart) = some (.type "type"))
    (nhC_NoPart : PySem.W.hasDictIn K C_NoPart = true)
    (niC_NoPart : PySem.W.isClsIn K C_NoPart = true)
    (nsC_NoPart : PySem.W.subIn K (.ref C_NoPart) (.ref C_NoPart) = some true)
    (nxL_NoRow : K.lookup C_NoRow = some (PySem.excClassObj nm_NoRow nq_NoRow C_NoRow nN_NoRow nbs_NoRow [.type "IndexError", .type "LookupError", .type "Exception", .type "BaseException", .type "object"] true nsn_NoRow nsub_NoRow nab_NoRow ncol_NoRow ndd_NoRow nm0_NoRow nm1_NoRow nm2_NoRow nm3_NoRow nm5_NoRow "IndexError.__new__"))
    (nsa_NoRow : PySem.W.findIn K (.ref C_NoRow) "__setattr__" = some (some (.builtin "object.__setattr__")))
    (nga_NoRow : PySem.W.findIn K (.ref C_NoRow) "__getattribute__" = some (some (.builtin "BaseException.__getattribute__")))
    (ngg_NoRow : PySem.W.findIn K (.ref C_NoRow) "__getattr__" = some none)
    (nnb_NoRow : PySem.W.findIn K (.ref C_NoRow) "row" = some none)
    (na1_NoRow : PySem.W.findIn K (.ref C_NoRow) "__init__" = some (some (.ref I_NoRow)))
    (nt1_NoRow : PySem.W.typeIn K (.ref I_NoRow) = some (.type "function"))
    (nl1_NoRow : K.lookup I_NoRow = some ⟨noc_NoRow, nod_NoRow, .func (PySem.W.fnOf "__init__" "NoRow.__init__" (PySem.NX_NoRow.iA np1_NoRow np2_NoRow) (PySem.NX_NoRow.iB nq1_NoRow nq2_NoRow nq3_NoRow nq4_NoRow) PySem.NX_NoRow.iS .none .none ndc_NoRow npm_NoRow nan_NoRow ncd_NoRow nct_NoRow), nsl_NoRow⟩)
    (nc1_NoRow : PySem.W.codeIn K ncd_NoRow "NoRow.__init__" = true)
    (nkC_NoRow : PySem.W.keepIn K (.ref C_NoRow) = true)
    (neC_NoRow : PySem.W.subIn K (.ref C_NoRow) (.type "BaseException") = some true)
    (ntC_NoRow : PySem.W.typeIn K (.ref C_NoRow) = some (.type "type"))
    (nhC_NoRow : PySem.W.hasDictIn K C_NoRow = true)
    (niC_NoRow : PySem.W.isClsIn K C_NoRow = true)
    (nsC_NoRow : PySem.W.subIn K (.ref C_NoRow) (.ref C_NoRow) = some true)
    (sn_NoRow_NoPart : PySem.W.subIn K (.ref C_NoRow) (.ref C_NoPart) = some false)
    (ne_NoPart_NoRow : C_NoPart ≠ C_NoRow)
    (xg_NoPart : PySem.W.findIn K (.ref C_NoPart) "__getattribute__" = some (some (.builtin "BaseException.__getattribute__")))
    (xk_NoPart : PySem.W.findIn K (.ref C_NoPart) "__getattr__" = some none)
    (xs_NoPart : PySem.W.subIn K (.ref C_NoPart) (.type "BaseException") = some true)
    (xd_NoPart : PySem.W.hasDictIn K C_NoPart = true)
    (xa_NoPart : PySem.W.findIn K (.ref C_NoPart) "__class__" = some (some (.builtin "object.__class__")))
    (xn_NoPart : PySem.W.specialIn K (.builtin "object.__class__") "__get__" = some (some (.builtin "getset_descriptor.__get__")))
    (xt_NoPart : PySem.W.takesIn K (.builtin "object.__class__") = some true)
    (xm_NoPart : PySem.W.mroIn K C_NoPart (.type "object") = some true)
    (xg_NoRow : PySem.W.findIn K (.ref C_NoRow) "__getattribute__" = some (some (.builtin "BaseException.__getattribute__")))
    (xk_NoRow : PySem.W.findIn K (.ref C_NoRow) "__getattr__" = some none)
    (xs_NoRow : PySem.W.subIn K (.ref C_NoRow) (.type "BaseException") = some true)
    (xd_NoRow : PySem.W.hasDictIn K C_NoRow = true)
    (xa_NoRow : PySem.W.findIn K (.ref C_NoRow) "__class__" = some (some (.builtin "object.__class__")))
    (xn_NoRow : PySem.W.specialIn K (.builtin "object.__class__") "__get__" = some (some (.builtin "getset_descriptor.__get__")))
    (xt_NoRow : PySem.W.takesIn K (.builtin "object.__class__") = some true)
    (xm_NoRow : PySem.W.mroIn K C_NoRow (.type "object") = some true)
    (i_0 : PySem.W.kitAny K (.ref C_NoPart) [.type "KeyError"] = some true)
    (i_1 : PySem.W.kitAny K (.ref C_NoPart) [.ref C_NoMark] = some false)
    (i_2 : PySem.W.kitAny K (.ref C_NoPart) [.type "ValueError"] = some false)
    (i_3 : PySem.W.kitAny K (.ref C_NoPart) [.ref C_NoWord] = some false)
    (i_4 : PySem.W.kitAny K (.ref C_NoPart) [.ref C_NoText] = some false)
    (i_5 : PySem.W.kitAny K (.ref C_NoPart) [.type "RuntimeError"] = some false)
    (i_6 : PySem.W.kitAny K (.ref C_NoPart) [.ref C_Busy] = some false)
    (i_7 : PySem.W.kitAny K (.ref C_NoPart) [.type "OverflowError"] = some false)
    (i_8 : PySem.W.kitAny K (.ref C_NoPart) [.ref C_TooMany] = some false)
    (i_9 : PySem.W.kitAny K (.ref C_NoPart) [.type "LookupError"] = some true)
    (i_10 : PySem.W.kitAny K (.ref C_NoPart) [.ref C_NoHook] = some false)
    (i_11 : PySem.W.kitAny K (.ref C_NoPart) [.ref C_NoNumbers] = some false)
    (i_12 : PySem.W.kitAny K (.ref C_NoPart) [.ref C_Unsound] = some false)
    (i_13 : PySem.W.kitAny K (.ref C_NoPart) [.ref C_TooLong] = some false)
    (i_14 : PySem.W.kitAny K (.ref C_NoPart) [.type "IndexError"] = some false)
    (i_15 : PySem.W.kitAny K (.ref C_NoPart) [.ref C_NoRow] = some false)
    (i_16 : PySem.W.kitAny K (.ref C_NoPart) [.ref C_NoPart] = some true)
    (i_17 : PySem.W.kitAny K (.ref C_NoPart) [.ref C_NoProgram] = some false)
    (i_18 : PySem.W.kitAny K (.ref C_NoRow) [.type "KeyError"] = some false)
    (i_19 : PySem.W.kitAny K (.ref C_NoRow) [.ref C_NoMark] = some false)
    (i_20 : PySem.W.kitAny K (.ref C_NoRow) [.type "ValueError"] = some false)
    (i_21 : PySem.W.kitAny K (.ref C_NoRow) [.ref C_NoWord] = some false)
    (i_22 : PySem.W.kitAny K (.ref C_NoRow) [.ref C_NoText] = some false)
    (i_23 : PySem.W.kitAny K (.ref C_NoRow) [.type "RuntimeError"] = some false)
    (i_24 : PySem.W.kitAny K (.ref C_NoRow) [.ref C_Busy] = some false)
    (i_25 : PySem.W.kitAny K (.ref C_NoRow) [.type "OverflowError"] = some false)
    (i_26 : PySem.W.kitAny K (.ref C_NoRow) [.ref C_TooMany] = some false)
    (i_27 : PySem.W.kitAny K (.ref C_NoRow) [.type "LookupError"] = some true)
    (i_28 : PySem.W.kitAny K (.ref C_NoRow) [.ref C_NoHook] = some false)
    (i_29 : PySem.W.kitAny K (.ref C_NoRow) [.ref C_NoNumbers] = some false)
    (i_30 : PySem.W.kitAny K (.ref C_NoRow) [.ref C_Unsound] = some false)
    (i_31 : PySem.W.kitAny K (.ref C_NoRow) [.ref C_TooLong] = some false)
    (i_32 : PySem.W.kitAny K (.ref C_NoRow) [.type "IndexError"] = some true)
    (i_33 : PySem.W.kitAny K (.ref C_NoRow) [.ref C_NoRow] = some true)
    (i_34 : PySem.W.kitAny K (.ref C_NoRow) [.ref C_NoPart] = some false)
    (i_35 : PySem.W.kitAny K (.ref C_NoRow) [.ref C_NoProgram] = some false)
    (n_is_whole : PySem.W.nsIn K mainGlobals "is_whole" = some (some (.ref f_is_whole)))
    (l_is_whole : K.lookup f_is_whole = some ⟨oc_is_whole, od_is_whole, .func (PySem.W.fnOf "is_whole" "is_whole" (defArgs D23.1) (defBody D23.1) (defScope D23.1) .none kV_is_whole dc_is_whole pm_is_whole an_is_whole cd_is_whole ct_is_whole), sl_is_whole⟩)
    (c_is_whole : PySem.W.codeIn K cd_is_whole "is_whole" = true)
    (k_is_whole : PySem.W.keepIn K (.ref f_is_whole) = true)
    (n_is_worth : PySem.W.nsIn K mainGlobals "is_worth" = some (some (.ref f_is_worth)))
    (l_is_worth : K.lookup f_is_worth = some ⟨oc_is_worth, od_is_worth, .func (PySem.W.fnOf "is_worth" "is_worth" (defArgs D24.1) (defBody D24.1) (defScope D24.1) .none kV_is_worth dc_is_worth pm_is_worth an_is_worth cd_is_worth ct_is_worth), sl_is_worth⟩)
    (c_is_worth : PySem.W.codeIn K cd_is_worth "is_worth" = true)
    (k_is_worth : PySem.W.keepIn K (.ref f_is_worth) = true)
    (n_is_name : PySem.W.nsIn K mainGlobals "is_name" = some (some (.ref f_is_name)))
    (l_is_name : K.lookup f_is_name = some ⟨oc_is_name, od_is_name, .func (PySem.W.fnOf "is_name" "is_name" (defArgs D25.1) (defBody D25.1) (defScope D25.1) .none kV_is_name dc_is_name pm_is_name an_is_name cd_is_name ct_is_name), sl_is_name⟩)
    (c_is_name : PySem.W.codeIn K cd_is_name "is_name" = true)
    (k_is_name : PySem.W.keepIn K (.ref f_is_name) = true)
    (n_are_unlike_names : PySem.W.nsIn K mainGlobals "are_unlike_names" = some (some (.ref f_are_unlike_names)))
    (l_are_unlike_names : K.lookup f_are_unlike_names = some ⟨oc_are_unlike_names, od_are_unlike_names, .func (PySem.W.fnOf "are_unlike_names" "are_unlike_names" (defArgs D26.1) (defBody D26.1) (defScope D26.1) .none (.ref D_are_unlike_names) dc_are_unlike_names pm_are_unlike_names an_are_unlike_names cd_are_unlike_names ct_are_unlike_names), sl_are_unlike_names⟩)
    (c_are_unlike_names : PySem.W.codeIn K cd_are_unlike_names "are_unlike_names" = true)
    (k_are_unlike_names : PySem.W.keepIn K (.ref f_are_unlike_names) = true)
    (w_are_unlike_names_least : PySem.W.nsIn K D_are_unlike_names "least" = some (some u_are_unlike_names_least))
    (v_are_unlike_names_least : RelV (.int 0) u_are_unlike_names_least)
    (n_is_led_to : PySem.W.nsIn K mainGlobals "is_led_to" = some (some (.ref f_is_led_to)))
    (l_is_led_to : K.lookup f_is_led_to = some ⟨oc_is_led_to, od_is_led_to, .func (PySem.W.fnOf "is_led_to" "is_led_to" (defArgs D27.1) (defBody D27.1) (defScope D27.1) .none kV_is_led_to dc_is_led_to pm_is_led_to an_is_led_to cd_is_led_to ct_is_led_to), sl_is_led_to⟩)
    (c_is_led_to : PySem.W.codeIn K cd_is_led_to "is_led_to" = true)
    (k_is_led_to : PySem.W.keepIn K (.ref f_is_led_to) = true)
    (n_is_row : PySem.W.nsIn K mainGlobals "is_row" = some (some (.ref f_is_row)))
    (l_is_row : K.lookup f_is_row = some ⟨oc_is_row, od_is_row, .func (PySem.W.fnOf "is_row" "is_row" (defArgs D28.1) (defBody D28.1) (defScope D28.1) .none kV_is_row dc_is_row pm_is_row an_is_row cd_is_row ct_is_row), sl_is_row⟩)
    (c_is_row : PySem.W.codeIn K cd_is_row "is_row" = true)
    (k_is_row : PySem.W.keepIn K (.ref f_is_row) = true)
    (n_is_headed : PySem.W.nsIn K mainGlobals "is_headed" = some (some (.ref f_is_headed)))
    (l_is_headed : K.lookup f_is_headed = some ⟨oc_is_headed, od_is_headed, .func (PySem.W.fnOf "is_headed" "is_headed" (defArgs D29.1) (defBody D29.1) (defScope D29.1) .none kV_is_headed dc_is_headed pm_is_headed an_is_headed cd_is_headed ct_is_headed), sl_is_headed⟩)
    (c_is_headed : PySem.W.codeIn K cd_is_headed "is_headed" = true)
    (k_is_headed : PySem.W.keepIn K (.ref f_is_headed) = true)
    (n_is_program : PySem.W.nsIn K mainGlobals "is_program" = some (some (.ref f_is_program)))
    (l_is_program : K.lookup f_is_program = some ⟨oc_is_program, od_is_program, .func (PySem.W.fnOf "is_program" "is_program" (defArgs D30.1) (defBody D30.1) (defScope D30.1) .none kV_is_program dc_is_program pm_is_program an_is_program cd_is_program ct_is_program), sl_is_program⟩)
    (c_is_program : PySem.W.codeIn K cd_is_program "is_program" = true)
    (k_is_program : PySem.W.keepIn K (.ref f_is_program) = true)
    (n_look_program : PySem.W.nsIn K mainGlobals "look_program" = some (some (.ref f_look_program)))
    (l_look_program : K.lookup f_look_program = some ⟨oc_look_program, od_look_program, .func (PySem.W.fnOf "look_program" "look_program" (defArgs D31.1) (defBody D31.1) (defScope D31.1) .none kV_look_program dc_look_program pm_look_program an_look_program cd_look_program ct_look_program), sl_look_program⟩)
    (c_look_program : PySem.W.codeIn K cd_look_program "look_program" = true)
    (k_look_program : PySem.W.keepIn K (.ref f_look_program) = true)
    (n_number_of : PySem.W.nsIn K mainGlobals "number_of" = some (some (.ref f_number_of)))
    (l_number_of : K.lookup f_number_of = some ⟨oc_number_of, od_number_of, .func (PySem.W.fnOf "number_of" "number_of" (defArgs D32.1) (defBody D32.1) (defScope D32.1) .none kV_number_of dc_number_of pm_number_of an_number_of cd_number_of ct_number_of), sl_number_of⟩)
    (c_number_of : PySem.W.codeIn K cd_number_of "number_of" = true)
    (k_number_of : PySem.W.keepIn K (.ref f_number_of) = true)
    (n_look_row : PySem.W.nsIn K mainGlobals "look_row" = some (some (.ref f_look_row)))
    (l_look_row : K.lookup f_look_row = some ⟨oc_look_row, od_look_row, .func (PySem.W.fnOf "look_row" "look_row" (defArgs D33.1) (defBody D33.1) (defScope D33.1) .none kV_look_row dc_look_row pm_look_row an_look_row cd_look_row ct_look_row), sl_look_row⟩)
    (c_look_row : PySem.W.codeIn K cd_look_row "look_row" = true)
    (k_look_row : PySem.W.keepIn K (.ref f_look_row) = true)
    (n_part_number : PySem.W.nsIn K mainGlobals "part_number" = some (some (.ref f_part_number)))
    (l_part_number : K.lookup f_part_number = some ⟨oc_part_number, od_part_number, .func (PySem.W.fnOf "part_number" "part_number" (defArgs D34.1) (defBody D34.1) (defScope D34.1) .none kV_part_number dc_part_number pm_part_number an_part_number cd_part_number ct_part_number), sl_part_number⟩)
    (c_part_number : PySem.W.codeIn K cd_part_number "part_number" = true)
    (k_part_number : PySem.W.keepIn K (.ref f_part_number) = true)
    (n_row_at : PySem.W.nsIn K mainGlobals "row_at" = some (some (.ref f_row_at)))
    (l_row_at : K.lookup f_row_at = some ⟨oc_row_at, od_row_at, .func (PySem.W.fnOf "row_at" "row_at" (defArgs D35.1) (defBody D35.1) (defScope D35.1) .none kV_row_at dc_row_at pm_row_at an_row_at cd_row_at ct_row_at), sl_row_at⟩)
    (c_row_at : PySem.W.codeIn K cd_row_at "row_at" = true)
    (k_row_at : PySem.W.keepIn K (.ref f_row_at) = true)
    (n__law_bag : PySem.W.nsIn K mainGlobals "_law_bag" = some (some (.ref f__law_bag)))
    (l__law_bag : K.lookup f__law_bag = some ⟨oc__law_bag, od__law_bag, .func (PySem.W.fnOf "_law_bag" "_law_bag" (defArgs D37.1) (defBody D37.1) (defScope D37.1) .none kV__law_bag dc__law_bag pm__law_bag an__law_bag cd__law_bag ct__law_bag), sl__law_bag⟩)
    (c__law_bag : PySem.W.codeIn K cd__law_bag "_law_bag" = true)
    (k__law_bag : PySem.W.keepIn K (.ref f__law_bag) = true)
    (n__law_take : PySem.W.nsIn K mainGlobals "_law_take" = some (some (.ref f__law_take)))
    (l__law_take : K.lookup f__law_take = some ⟨oc__law_take, od__law_take, .func (PySem.W.fnOf "_law_take" "_law_take" (defArgs D38.1) (defBody D38.1) (defScope D38.1) .none kV__law_take dc__law_take pm__law_take an__law_take cd__law_take ct__law_take), sl__law_take⟩)
    (c__law_take : PySem.W.codeIn K cd__law_take "_law_take" = true)
    (k__law_take : PySem.W.keepIn K (.ref f__law_take) = true)
    (n__law_worth : PySem.W.nsIn K mainGlobals "_law_worth" = some (some (.ref f__law_worth)))
    (l__law_worth : K.lookup f__law_worth = some ⟨oc__law_worth, od__law_worth, .func (PySem.W.fnOf "_law_worth" "_law_worth" (defArgs D39.1) (defBody D39.1) (defScope D39.1) .none kV__law_worth dc__law_worth pm__law_worth an__law_worth cd__law_worth ct__law_worth), sl__law_worth⟩)
    (c__law_worth : PySem.W.codeIn K cd__law_worth "_law_worth" = true)
    (k__law_worth : PySem.W.keepIn K (.ref f__law_worth) = true)
    (n__law_names : PySem.W.nsIn K mainGlobals "_law_names" = some (some (.ref f__law_names)))
    (l__law_names : K.lookup f__law_names = some ⟨oc__law_names, od__law_names, .func (PySem.W.fnOf "_law_names" "_law_names" (defArgs D40.1) (defBody D40.1) (defScope D40.1) .none kV__law_names dc__law_names pm__law_names an__law_names cd__law_names ct__law_names), sl__law_names⟩)
    (c__law_names : PySem.W.codeIn K cd__law_names "_law_names" = true)
    (k__law_names : PySem.W.keepIn K (.ref f__law_names) = true)
    (n__law_any_row : PySem.W.nsIn K mainGlobals "_law_any_row" = some (some (.ref f__law_any_row)))
    (l__law_any_row : K.lookup f__law_any_row = some ⟨oc__law_any_row, od__law_any_row, .func (PySem.W.fnOf "_law_any_row" "_law_any_row" (defArgs D41.1) (defBody D41.1) (defScope D41.1) .none kV__law_any_row dc__law_any_row pm__law_any_row an__law_any_row cd__law_any_row ct__law_any_row), sl__law_any_row⟩)
    (c__law_any_row : PySem.W.codeIn K cd__law_any_row "_law_any_row" = true)
    (k__law_any_row : PySem.W.keepIn K (.ref f__law_any_row) = true)
    (n__law_any_program : PySem.W.nsIn K mainGlobals "_law_any_program" = some (some (.ref f__law_any_program)))
    (l__law_any_program : K.lookup f__law_any_program = some ⟨oc__law_any_program, od__law_any_program, .func (PySem.W.fnOf "_law_any_program" "_law_any_program" (defArgs D42.1) (defBody D42.1) (defScope D42.1) .none kV__law_any_program dc__law_any_program pm__law_any_program an__law_any_program cd__law_any_program ct__law_any_program), sl__law_any_program⟩)
    (c__law_any_program : PySem.W.codeIn K cd__law_any_program "_law_any_program" = true)
    (k__law_any_program : PySem.W.keepIn K (.ref f__law_any_program) = true)
    (n__law_kind : PySem.W.nsIn K mainGlobals "_law_kind" = some (some (.ref f__law_kind)))
    (l__law_kind : K.lookup f__law_kind = some ⟨oc__law_kind, od__law_kind, .func (PySem.W.fnOf "_law_kind" "_law_kind" (defArgs D43.1) (defBody D43.1) (defScope D43.1) .none kV__law_kind dc__law_kind pm__law_kind an__law_kind cd__law_kind ct__law_kind), sl__law_kind⟩)
    (c__law_kind : PySem.W.codeIn K cd__law_kind "_law_kind" = true)
    (k__law_kind : PySem.W.keepIn K (.ref f__law_kind) = true)
    (n__law_odd : PySem.W.nsIn K mainGlobals "_law_odd" = some (some (.ref f__law_odd)))
    (l__law_odd : K.lookup f__law_odd = some ⟨oc__law_odd, od__law_odd, .func (PySem.W.fnOf "_law_odd" "_law_odd" (defArgs D44.1) (defBody D44.1) (defScope D44.1) .none kV__law_odd dc__law_odd pm__law_odd an__law_odd cd__law_odd ct__law_odd), sl__law_odd⟩)
    (c__law_odd : PySem.W.codeIn K cd__law_odd "_law_odd" = true)
    (k__law_odd : PySem.W.keepIn K (.ref f__law_odd) = true)
    (n__law_told : PySem.W.nsIn K mainGlobals "_law_told" = some (some (.ref f__law_told)))
    (l__law_told : K.lookup f__law_told = some ⟨oc__law_told, od__law_told, .func (PySem.W.fnOf "_law_told" "_law_told" (defArgs D45.1) (defBody D45.1) (defScope D45.1) .none kV__law_told dc__law_told pm__law_told an__law_told cd__law_told ct__law_told), sl__law_told⟩)
    (c__law_told : PySem.W.codeIn K cd__law_told "_law_told" = true)
    (k__law_told : PySem.W.keepIn K (.ref f__law_told) = true)
    (n__law_alike : PySem.W.nsIn K mainGlobals "_law_alike" = some (some (.ref f__law_alike)))
    (l__law_alike : K.lookup f__law_alike = some ⟨oc__law_alike, od__law_alike, .func (PySem.W.fnOf "_law_alike" "_law_alike" (defArgs D46.1) (defBody D46.1) (defScope D46.1) .none kV__law_alike dc__law_alike pm__law_alike an__law_alike cd__law_alike ct__law_alike), sl__law_alike⟩)
    (c__law_alike : PySem.W.codeIn K cd__law_alike "_law_alike" = true)
    (k__law_alike : PySem.W.keepIn K (.ref f__law_alike) = true)
    (n__law_due : PySem.W.nsIn K mainGlobals "_law_due" = some (some (.ref f__law_due)))
    (l__law_due : K.lookup f__law_due = some ⟨oc__law_due, od__law_due, .func (PySem.W.fnOf "_law_due" "_law_due" (defArgs D47.1) (defBody D47.1) (defScope D47.1) .none kV__law_due dc__law_due pm__law_due an__law_due cd__law_due ct__law_due), sl__law_due⟩)
    (c__law_due : PySem.W.codeIn K cd__law_due "_law_due" = true)
    (k__law_due : PySem.W.keepIn K (.ref f__law_due) = true)
    (n_law : PySem.W.nsIn K mainGlobals "law" = some (some (.ref f_law)))
    (l_law : K.lookup f_law = some ⟨oc_law, od_law, .func (PySem.W.fnOf "law" "law" (defArgs D48.1) (defBody D48.1) (defScope D48.1) .none kV_law dc_law pm_law an_law cd_law ct_law), sl_law⟩)
    (c_law : PySem.W.codeIn K cd_law "law" = true)
    (k_law : PySem.W.keepIn K (.ref f_law) = true) : Nonempty (Txt w K mg) :=
  ⟨{ g_IndexError := PySem.W.mg_none_of X G zz_IndexError,
     g_KeyError := PySem.W.mg_none_of X G zz_KeyError,
     g_LookupError := PySem.W.mg_none_of X G zz_LookupError,
     g_OverflowError := PySem.W.mg_none_of X G zz_OverflowError,
     g_RuntimeError := PySem.W.mg_none_of X G zz_RuntimeError,
     g_ValueError := PySem.W.mg_none_of X G zz_ValueError,
     g_abs := PySem.W.mg_none_of X G zz_abs,
     g_all := PySem.W.mg_none_of X G zz_all,
     g_bool := PySem.W.mg_none_of X G zz_bool,
     g_enumerate := PySem.W.mg_none_of X G zz_enumerate,
     g_int := PySem.W.mg_none_of X G zz_int,
     g_isinstance := PySem.W.mg_none_of X G zz_isinstance,
     g_len := PySem.W.mg_none_of X G zz_len,
     g_max := PySem.W.mg_none_of X G zz_max,
     g_min := PySem.W.mg_none_of X G zz_min,
     g_range := PySem.W.mg_none_of X G zz_range,
     g_repr := PySem.W.mg_none_of X G zz_repr,
     g_set := PySem.W.mg_none_of X G zz_set,
     g_str := PySem.W.mg_none_of X G zz_str,
     g_tuple := PySem.W.mg_none_of X G zz_tuple,
     k_ALONE := cst_texts (xs := ["add", "less", "times", "over", "same", "below", "twin", "swap", "away", "say", "back", "throw", "done", "lead", "turn"]) (PySem.W.mg_of X G n_ALONE) l_ALONE y_ALONE d_ALONE q_ALONE r_ALONE (by decide),
     k_LEADING := cst_texts (xs := ["go", "if", "try"]) (PySem.W.mg_of X G n_LEADING) l_LEADING y_LEADING d_LEADING q_LEADING r_LEADING (by decide),
     k_LETTERS := cst_str (PySem.W.mg_of X G n_LETTERS),
     k_MOST_LETTERS := cst_int (PySem.W.mg_of X G n_MOST_LETTERS),
     k_MOST_LONG := cst_int (PySem.W.mg_of X G n_MOST_LONG),
     k_MOST_NAMES := cst_int (PySem.W.mg_of X G n_MOST_NAMES),
     k_MOST_PARTS := cst_int (PySem.W.mg_of X G n_MOST_PARTS),
     k_MOST_WORTH := cst_int (PySem.W.mg_of X G n_MOST_WORTH),
     k_NAMED := cst_texts (xs := ["get", "set", "look", "change"]) (PySem.W.mg_of X G n_NAMED) l_NAMED y_NAMED d_NAMED q_NAMED r_NAMED (by decide),
     C_NoProgram := C_NoProgram,
     e_NoProgram := ⟨PySem.W.mg_of X G n_NoProgram, xp_NoProgram, kp_NoProgram, bp_NoProgram, tp_NoProgram, ip_NoProgram, sp_NoProgram⟩,
     C_NoPart := C_NoPart,
     n_NoPart := PySem.W.mg_of X G n_NoPart,
     C_NoRow := C_NoRow,
     n_NoRow := PySem.W.mg_of X G n_NoRow,
     C_NoMark := C_NoMark,
     n_NoMark := PySem.W.mg_of X G n_NoMark,
     C_NoWord := C_NoWord,
     n_NoWord := PySem.W.mg_of X G n_NoWord,
     C_NoText := C_NoText,
     n_NoText := PySem.W.mg_of X G n_NoText,
     C_Busy := C_Busy,
     n_Busy := PySem.W.mg_of X G n_Busy,
     C_TooMany := C_TooMany,
     n_TooMany := PySem.W.mg_of X G n_TooMany,
     C_NoHook := C_NoHook,
     n_NoHook := PySem.W.mg_of X G n_NoHook,
     C_NoNumbers := C_NoNumbers,
     n_NoNumbers := PySem.W.mg_of X G n_NoNumbers,
     C_Unsound := C_Unsound,
     n_Unsound := PySem.W.mg_of X G n_Unsound,
     C_TooLong := C_TooLong,
     n_TooLong := PySem.W.mg_of X G n_TooLong,
     n_NoProgram := PySem.W.mg_of X G n_NoProgram,
     I_NoPart := I_NoPart,
     nt_NoPart := { gC := PySem.W.mg_of X G n_NoPart, cls := ⟨nm_NoPart, nq_NoPart, nN_NoPart, nbs_NoPart, _, nsn_NoPart, nsub_NoPart, nab_NoPart, ncol_NoPart, ndd_NoPart, nm0_NoPart, nm1_NoPart, nm2_NoPart, nm3_NoPart, nm5_NoPart, nxL_NoPart, by decide +kernel⟩, sa := nsa_NoPart, ga := nga_NoPart, gg := ngg_NoPart, noN := nnb_NoPart, iC := na1_NoPart, tC := nt1_NoPart, kC := nkC_NoPart, exC := neC_NoPart, tyC := ntC_NoPart, hdC := nhC_NoPart, te := exm_nt neC_NoPart niC_NoPart ntC_NoPart nsC_NoPart, fn := ⟨_, _, _, _, _, _, _, _, _, _, _, _, _, _, nl1_NoPart, nc1_NoPart⟩ },
     I_NoRow := I_NoRow,
     nt_NoRow := { gC := PySem.W.mg_of X G n_NoRow, cls := ⟨nm_NoRow, nq_NoRow, nN_NoRow, nbs_NoRow, _, nsn_NoRow, nsub_NoRow, nab_NoRow, ncol_NoRow, ndd_NoRow, nm0_NoRow, nm1_NoRow, nm2_NoRow, nm3_NoRow, nm5_NoRow, nxL_NoRow, by decide +kernel⟩, sa := nsa_NoRow, ga := nga_NoRow, gg := ngg_NoRow, noN := nnb_NoRow, iC := na1_NoRow, tC := nt1_NoRow, kC := nkC_NoRow, exC := neC_NoRow, tyC := ntC_NoRow, hdC := nhC_NoRow, te := exm_nt neC_NoRow niC_NoRow ntC_NoRow nsC_NoRow, fn := ⟨_, _, _, _, _, _, _, _, _, _, _, _, _, _, nl1_NoRow, nc1_NoRow⟩ },
     sn_NoRow_NoPart := sn_NoRow_NoPart,
     ne_NoPart_NoRow := ne_NoPart_NoRow,
     x_NoPart := ⟨xg_NoPart, xk_NoPart, xs_NoPart, xd_NoPart, xa_NoPart, xn_NoPart, xt_NoPart, xm_NoPart⟩,
     x_NoRow := ⟨xg_NoRow, xk_NoRow, xs_NoRow, xd_NoRow, xa_NoRow, xn_NoRow, xt_NoRow, xm_NoRow⟩,
     i_0 := i_0,
     i_1 := i_1,
     i_2 := i_2,
     i_3 := i_3,
     i_4 := i_4,
     i_5 := i_5,
     i_6 := i_6,
     i_7 := i_7,
     i_8 := i_8,
     i_9 := i_9,
     i_10 := i_10,
     i_11 := i_11,
     i_12 := i_12,
     i_13 := i_13,
     i_14 := i_14,
     i_15 := i_15,
     i_16 := i_16,
     i_17 := i_17,
     i_18 := i_18,
     i_19 := i_19,
     i_20 := i_20,
     i_21 := i_21,
     i_22 := i_22,
     i_23 := i_23,
     i_24 := i_24,
     i_25 := i_25,
     i_26 := i_26,
     i_27 := i_27,
     i_28 := i_28,
     i_29 := i_29,
     i_30 := i_30,
     i_31 := i_31,
     i_32 := i_32,
     i_33 := i_33,
     i_34 := i_34,
     i_35 := i_35,
     a_is_whole := f_is_whole,
     d_is_whole := _,
     F_is_whole := fun_mk l_is_whole c_is_whole k_is_whole,
     g_is_whole := PySem.W.mg_of X G n_is_whole,
     a_is_worth := f_is_worth,
     d_is_worth := _,
     F_is_worth := fun_mk l_is_worth c_is_worth k_is_worth,
     g_is_worth := PySem.W.mg_of X G n_is_worth,
     a_is_name := f_is_name,
     d_is_name := _,
     F_is_name := fun_mk l_is_name c_is_name k_is_name,
     g_is_name := PySem.W.mg_of X G n_is_name,
     a_are_unlike_names := f_are_unlike_names,
     d_are_unlike_names := _,
     F_are_unlike_names := ⟨⟨_, _, _, _, _, _, _, _, _, _, rfl, l_are_unlike_names, c_are_unlike_names, .inl ⟨rfl, rfl⟩, .inr ⟨D_are_unlike_names, rfl, fun q hq => by cases List.mem_singleton.mp hq; exact ⟨_, w_are_unlike_names_least, v_are_unlike_names_least⟩⟩⟩, k_are_unlike_names⟩,
     g_are_unlike_names := PySem.W.mg_of X G n_are_unlike_names,
     a_is_led_to := f_is_led_to,
     d_is_led_to := _,
     F_is_led_to := fun_mk l_is_led_to c_is_led_to k_is_led_to,
     g_is_led_to := PySem.W.mg_of X G n_is_led_to,
     a_is_row := f_is_row,
     d_is_row := _,
     F_is_row := fun_mk l_is_row c_is_row k_is_row,
     g_is_row := PySem.W.mg_of X G n_is_row,
     a_is_headed := f_is_headed,
     d_is_headed := _,
     F_is_headed := fun_mk l_is_headed c_is_headed k_is_headed,
     g_is_headed := PySem.W.mg_of X G n_is_headed,
     a_is_program := f_is_program,
     d_is_program := _,
     F_is_program := fun_mk l_is_program c_is_program k_is_program,
     g_is_program := PySem.W.mg_of X G n_is_program,
     a_look_program := f_look_program,
     d_look_program := _,
     F_look_program := fun_mk l_look_program c_look_program k_look_program,
     g_look_program := PySem.W.mg_of X G n_look_program,
     a_number_of := f_number_of,
     d_number_of := _,
     F_number_of := fun_mk l_number_of c_number_of k_number_of,
     g_number_of := PySem.W.mg_of X G n_number_of,
     a_look_row := f_look_row,
     d_look_row := _,
     F_look_row := fun_mk l_look_row c_look_row k_look_row,
     g_look_row := PySem.W.mg_of X G n_look_row,
     a_part_number := f_part_number,
     d_part_number := _,
     F_part_number := fun_mk l_part_number c_part_number k_part_number,
     g_part_number := PySem.W.mg_of X G n_part_number,
     a_row_at := f_row_at,
     d_row_at := _,
     F_row_at := fun_mk l_row_at c_row_at k_row_at,
     g_row_at := PySem.W.mg_of X G n_row_at,
     a__law_bag := f__law_bag,
     d__law_bag := _,
     F__law_bag := fun_mk l__law_bag c__law_bag k__law_bag,
     g__law_bag := PySem.W.mg_of X G n__law_bag,
     a__law_take := f__law_take,
     d__law_take := _,
     F__law_take := fun_mk l__law_take c__law_take k__law_take,
     g__law_take := PySem.W.mg_of X G n__law_take,
     a__law_worth := f__law_worth,
     d__law_worth := _,
     F__law_worth := fun_mk l__law_worth c__law_worth k__law_worth,
     g__law_worth := PySem.W.mg_of X G n__law_worth,
     a__law_names := f__law_names,
     d__law_names := _,
     F__law_names := fun_mk l__law_names c__law_names k__law_names,
     g__law_names := PySem.W.mg_of X G n__law_names,
     a__law_any_row := f__law_any_row,
     d__law_any_row := _,
     F__law_any_row := fun_mk l__law_any_row c__law_any_row k__law_any_row,
     g__law_any_row := PySem.W.mg_of X G n__law_any_row,
     a__law_any_program := f__law_any_program,
     d__law_any_program := _,
     F__law_any_program := fun_mk l__law_any_program c__law_any_program k__law_any_program,
     g__law_any_program := PySem.W.mg_of X G n__law_any_program,
     a__law_kind := f__law_kind,
     d__law_kind := _,
     F__law_kind := fun_mk l__law_kind c__law_kind k__law_kind,
     g__law_kind := PySem.W.mg_of X G n__law_kind,
     a__law_odd := f__law_odd,
     d__law_odd := _,
     F__law_odd := fun_mk l__law_odd c__law_odd k__law_odd,
     g__law_odd := PySem.W.mg_of X G n__law_odd,
     a__law_told := f__law_told,
     d__law_told := _,
     F__law_told := fun_mk l__law_told c__law_told k__law_told,
     g__law_told := PySem.W.mg_of X G n__law_told,
     a__law_alike := f__law_alike,
     d__law_alike := _,
     F__law_alike := fun_mk l__law_alike c__law_alike k__law_alike,
     g__law_alike := PySem.W.mg_of X G n__law_alike,
     a__law_due := f__law_due,
     d__law_due := _,
     F__law_due := fun_mk l__law_due c__law_due k__law_due,
     g__law_due := PySem.W.mg_of X G n__law_due,
     a_law := f_law,
     d_law := _,
     F_law := fun_mk l_law c_law k_law,
     g_law := PySem.W.mg_of X G n_law }⟩
theorem fin (hl : ∀ C_Busy C_NoHook C_NoMark C_NoNumbers C_NoPart C_NoProgram C_NoRow C_NoText C_NoWord C_TooLong C_TooMany C_Unsound : Addr, C_NoPart ≠ C_NoRow → ∀ ns : List Int, ns.length ≤ 63 → (∀ z ∈ ns, Builtin.Int.intBits z ≤ 1048576) → ∃ h, F_law C_Busy C_NoHook C_NoMark C_NoNumbers C_NoPart C_NoProgram C_NoRow C_NoText C_NoWord C_TooLong C_TooMany C_Unsound [.scr ns] [] = .ok (.bl true) h) {l : PySem.W.OpenLaw} {w : World} {K : PySem.W.Frag} {mg : Str → Option Value} {fa : Addr} (hfa : mg "law" = some (.ref fa)) (N : Nonempty (Txt w K mg)) :
    ∃ fd : FuncData, (∀ (s : Shared) (v : Value), BindsTo s fd ⟨[v], []⟩ [("_law_script", v)]) ∧ ∀ base : Heap, K.In base → base.Ns mainGlobals mg → FnG l.prog w K mg base CX0 8 fa fd ["_law_script"] (spLaw K) := by
  obtain ⟨T⟩ := N
  have e := hfa.symm.trans T.g_law
  cases e
  refine ⟨T.d_law, fun s v => ?_, fun base _ _ => ok_law T (hl T.C_Busy T.C_NoHook T.C_NoMark T.C_NoNumbers T.C_NoPart T.C_NoProgram T.C_NoRow T.C_NoText T.C_NoWord T.C_TooLong T.C_TooMany T.C_Unsound T.ne_NoPart_NoRow)⟩
  obtain ⟨_, _, _, _, _, _, _, _, _, e, _⟩ := T.F_law.ex
  rw [e]
  exact .of_eq rfl
end K03
namespace K03
open PySem PySem.Spec PyProof.Rows L2 Z
def isWhole (w : Val) : Bool := Z.isInt w && !isBl w
theorem ev_whole {w : Val} {h : HH} (e : pl w = true) : F_is_whole [w] h = .ok (.bl (isWhole w)) h := by
  rw [e_is_whole]
  unfold m_is_whole isWhole
  simp [isi_int e, isi_bool e]
  cases Z.isInt w <;> cases isBl w <;> simp
def letters : Str := "abcdefghijklmnopqrstuvwxyz"
def lt1 (w : Val) : Bool := match w with
  | .str c => !(Builtin.Str.occurrences letters c 0 letters.length 1).isEmpty
  | _ => false
def nameB (x : Str) : Bool := decide ((1 : Int) ≤ (x.length : Nat)) && (decide (((x.length : Nat) : Int) ≤ 8) && (Z.signs x).all lt1)
def isName (w : Val) : Bool := match w with
  | .str x => nameB x
  | _ => false
theorem ev_name {w : Val} {h : HH} (e : pl w = true) : F_is_name [w] h = .ok (.bl (isName w)) h := by
  rw [e_is_name]
  cases w with
  | str x =>
    have hl := pl_str e
    have hc : sLc (iVal (sVar 0)) (gNm 1) tYesZ (sBin (bIn false) (sVar 1) (sC c_LETTERS)) [1] [some (.str x), none] h = .ok (.lst ((Z.signs x).map fun w => .bl (lt1 w))) h := by
      refine sLc_map (f := fun w => .bl (lt1 w)) ?_ fun w hw => ?_
      · simp [itmV_str hl]
      · obtain ⟨c, _, rfl⟩ := List.mem_map.mp hw
        rfl
    simp [m_is_name, isi_str e, isStr, len_str hl, hc, fAll_map, isName, nameB, c_MOST_LETTERS]
    by_cases c1 : (1 : Int) ≤ (x.length : Int) <;> by_cases c2 : (x.length : Int) ≤ 8 <;> simp [c1, c2, hc, fAll_map]
  | _ => first | (simp [m_is_name, isi_str e, isStr, isName]; done) | cases e
/-! ### unlike names -/
theorem txts_some : ∀ {xs : List Val}, xs.all isStr = true → ∃ ys, txts xs = some ys
  | [], _ => ⟨[], rfl⟩
  | x :: xs, e => by
    rw [List.all_cons, Bool.and_eq_true] at e
    obtain ⟨ys, h⟩ := txts_some e.2
    cases x with
    | str y => exact ⟨y :: ys, by unfold txts; rw [h]; rfl⟩
    | _ => cases e.1
theorem name_str {w : Val} (h : isName w = true) : isStr w = true := by cases w <;> first | rfl | cases h
theorem all_imp {xs : List Val} {p q : Val → Bool} (i : ∀ w, p w = true → q w = true) (h : xs.all p = true) : xs.all q = true := by
  rw [List.all_eq_true] at h ⊢
  exact fun w hw => i w (h w hw)
def nodB (xs : List Val) : Bool := match txts xs with
  | some ys => decide (ZS.dcnt ys = xs.length)
  | none => false
def unlike (least most : Int) (w : Val) : Bool := match w with
  | .tup xs => decide (least ≤ ((xs.length : Nat) : Int)) && (decide (((xs.length : Nat) : Int) ≤ most) && (xs.all isName && nodB xs))
  | _ => false
theorem lset_ev {xs : List Val} {h : HH} (e : xs.all isStr = true) (l : xs.length ≤ 1000) : ∃ k, uLset (.tup xs) h = .ok (.int (k : Nat)) h ∧ decide (k = xs.length) = nodB xs := by
  obtain ⟨ys, hy⟩ := txts_some e
  have hl := txts_len hy
  refine ⟨ZS.dcnt ys, ?_, ?_⟩
  · show (match txts xs with | some ys => if ys.length + 1 < scanBound then Out.ok (Val.int (ZS.dcnt ys : Nat)) h else .bad | none => .bad) = _
    rw [hy]
    dsimp only
    rw [if_pos (by unfold scanBound; omega)]
  · unfold nodB
    rw [hy]
theorem ev_unlike {w : Val} {h : HH} {most least : Int} (e : pl w = true) (hm : most ≤ 1000) : F_are_unlike_names [w, .int most, .int least] h = .ok (.bl (unlike least most w)) h := by
  rw [e_are_unlike_names]
  cases w with
  | tup xs =>
    have hp : ∀ w ∈ xs, pl w = true := pl_mem e
    have hc : sLc (iVal (sVar 0)) (gNm 3) tYesZ (sCall F_is_name 1 0 1 (fun ws _ => ws) (aCons (sVar 3) aNil) aNil) [3] [some (.tup xs), some (.int most), some (.int least), none] h = .ok (.lst (xs.map fun w => .bl (isName w))) h := by
      refine sLc_map (f := fun w => .bl (isName w)) ?_ fun w hw => ?_
      · simp
      · simp [wipeN, sVar, ev_name (hp w hw)]
    simp [m_are_unlike_names, isi_tuple e, isTup, unlike, hc, fAll_map, sVar]
    by_cases c1 : least ≤ (xs.length : Int)
    · by_cases c2 : (xs.length : Int) ≤ most
      · cases c3 : xs.all isName with
        | true =>
          obtain ⟨k, h1, h2⟩ := lset_ev (h := h) (all_imp (fun w => name_str) c3) (by omega)
          simp [c1, c2, c3, hc, fAll_map, sVar, h1, ← h2]
          omega
        | false => simp [c1, c2, c3, hc, fAll_map, sVar]
      · simp [c1, c2, sVar]
    · simp [c1, sVar]
  | _ => first | (simp [m_are_unlike_names, isi_tuple e, isTup, unlike]; done) | cases e
/-! ### a headed part -/
def rowsB (w : Val) : Bool := match w with
  | .tup rows => decide ((1 : Int) ≤ ((rows.length : Nat) : Int)) && decide (((rows.length : Nat) : Int) ≤ 60)
  | _ => false
def headed (w : Val) : Bool := match w with
  | .tup [a, b, c] => isName a && (unlike 0 3 b && rowsB c)
  | _ => false
theorem ev_headed {w : Val} {h : HH} (e : pl w = true) : F_is_headed [w] h = .ok (.bl (headed w)) h := by
  rw [e_is_headed]
  cases w with
  | tup xs =>
    match xs, e with
    | [], e => simp [m_is_headed, isi_tuple e, isTup, headed]
    | [a], e => simp [m_is_headed, isi_tuple e, isTup, headed]
    | [a, b], e => simp [m_is_headed, isi_tuple e, isTup, headed]
    | [a, b, c], e =>
      have ha : pl a = true := pl_mem e a (by simp)
      have hb : pl b = true := pl_mem e b (by simp)
      have hc : pl c = true := pl_mem e c (by simp)
      simp [m_is_headed, isi_tuple e, isTup, headed, ev_name ha, c_MOST_NAMES]
      cases isName a with
      | false => simp
      | true =>
        simp [g_bz_are_unlike_names_1_most, ev_unlike (most := 3) (least := 0) hb (by omega)]
        cases unlike 0 3 b with
        | false => simp
        | true =>
          cases c with
          | tup rows =>
            simp [isi_tuple hc, isTup, rowsB, c_MOST_LONG]
            by_cases c1 : (1 : Int) ≤ (rows.length : Int) <;> by_cases c2 : (rows.length : Int) ≤ 60 <;> simp [c1, c2]
          | _ => first | (simp [isi_tuple hc, isTup, rowsB]; done) | cases hc
    | a :: b :: c :: d :: r, e =>
      have : ¬ ((r.length : Int) + 1 + 1 + 1 + 1 = 3) := by omega
      simp [m_is_headed, isi_tuple e, isTup, headed, this]
  | _ => first | (simp [m_is_headed, isi_tuple e, isTup, headed]; done) | cases e
end K03
namespace K03
open PySem PySem.Spec PyProof.Rows L2 Z
/-! ### the law's own looks -/
def isLet (c : Nat) : Bool := lt1 (.str ⟨#[c]⟩)
end K03
namespace K03
open PySem PySem.Spec PyProof.Rows L2 Z
/-! ### rows -/
def anyS (xs : List Str) (x : Str) : Bool := (xs.map Val.str).any fun y => eqF y (.str x)
theorem anyS_eq (xs : List Str) (x : Str) : anyS xs x = xs.any (fun y => y == x) := by
  unfold anyS
  rw [List.any_map]
  rfl
def ALONE : List Str := ["add", "less", "times", "over", "same", "below", "twin", "swap", "away", "say", "back", "throw", "done", "lead", "turn"]
def isWorth (w : Val) : Bool := match w with
  | .int i => decide ((if i < 0 then -i else i) ≤ 1000000000000)
  | _ => false
theorem ev_worth {w : Val} {h : HH} (e : pl w = true) : F_is_worth [w] h = .ok (.bl (isWorth w)) h := by
  rw [e_is_worth]
  cases w with
  | int i =>
    have e2 : fAbs [.int i] h = .ok (.int (if i < 0 then -i else i)) h := rfl
    simp [m_is_worth, ev_whole e, isWhole, Z.isInt, isBl, e2, c_MOST_WORTH, isWorth]
  | _ => first | (simp [m_is_worth, ev_whole e, isWhole, Z.isInt, isBl, isWorth]; done) | cases e
/-- goes there -/
def led (x : Str) (b : Val) (at' n : Int) : Bool := match b with
  | .int i => decide (0 ≤ i) && (decide (i < n) && (!decide (x = "try") || !decide (i = at' + 1)))
  | _ => false
theorem ev_led {x : Str} {b : Val} {at' : Int} {rows : List Val} {h : HH} (e : pl b = true) : F_is_led_to [.tup [.str x, b], .int at', .tup rows] h = .ok (.bl (led x b at' (rows.length : Nat))) h := by
  rw [e_is_led_to]
  cases b with
  | int i =>
    simp [m_is_led_to, ev_whole e, isWhole, Z.isInt, isBl, led]
    by_cases c1 : 0 ≤ i
    · have d1 : ¬ i < 0 := by omega
      by_cases c2 : i < (rows.length : Int)
      · have d2 : ¬ (rows.length : Int) ≤ i := by omega
        by_cases c3 : x = "try"
        · simp [c1, c2, c3, d1, d2]
        · simp [c1, c2, c3, d1, d2]
      · have d2 : (rows.length : Int) ≤ i := by omega
        simp [c1, c2, d1, d2]
    · have d1 : i < 0 := by omega
      simp [c1, d1]
  | _ => first | (simp [m_is_led_to, ev_whole e, isWhole, Z.isInt, isBl, led]; done) | cases e
def rowB (r : Val) (at' n : Int) (called : List Val) : Bool := match r with
  | .tup (.str x :: rest) => if anyS ALONE x = true then rest.isEmpty else match rest with
    | [b] => if x = "put" then isWorth b else if x = "call" then (isName b && called.any fun y => eqF y b) else if anyS ["go", "if", "try"] x = true then led x b at' n else anyS ["get", "set", "look", "change"] x && isName b
    | _ => false
  | _ => false
theorem flat_str {w : Val} (h : isStr w = true) : flat w = true := by cases w <;> first | rfl | cases h
theorem name_flat {b : Val} (h : isName b = true) : flat b = true := flat_str (name_str h)
theorem ev_row {r : Val} {at' : Int} {rows called : List Val} {h : HH} (e : pl r = true) (fc : called.all flat = true) : F_is_row [r, .int at', .tup rows, .tup called] h = .ok (.bl (rowB r at' (rows.length : Nat) called)) h := by
  rw [e_is_row]
  cases r with
  | tup xs =>
    match xs, e with
    | [], e => simp [m_is_row, isi_tuple e, isTup, bEq_unit e, isUnit, rowB]
    | a :: rest, e =>
      have ha : pl a = true := pl_mem e a (by simp)
      cases a with
      | str x =>
        have i1 : bIn false (.str x) c_ALONE h = .ok (.bl (anyS ALONE x)) h := in_t rfl (by decide +kernel)
        have i2 : bIn false (.str x) c_LEADING h = .ok (.bl (anyS ["go", "if", "try"] x)) h := in_t rfl (by decide +kernel)
        have i3 : bIn false (.str x) c_NAMED h = .ok (.bl (anyS ["get", "set", "look", "change"] x)) h := in_t rfl (by decide +kernel)
        have eu : isUnit (.tup (.str x :: rest)) = false := rfl
        cases c1 : anyS ALONE x with
        | true =>
          simp [m_is_row, isi_tuple e, isTup, bEq_unit e, eu, isi_str ha, isStr, rowB, i1, c1]
          cases rest with
          | nil => simp
          | cons y ys => simp; omega
        | false =>
          match rest, e with
          | [], e => simp [m_is_row, isi_tuple e, isTup, bEq_unit e, isUnit, isi_str ha, isStr, rowB, i1, c1]
          | y :: z :: ys, e =>
            have : ¬ ((ys.length : Int) + 1 + 1 + 1 = 2) := by omega
            simp [m_is_row, isi_tuple e, isTup, bEq_unit e, isUnit, isi_str ha, isStr, rowB, i1, c1, this]
          | [b], e =>
            have hb : pl b = true := pl_mem e b (by simp)
            by_cases c2 : x = "put"
            · subst c2
              simp [m_is_row, isi_tuple e, isTup, bEq_unit e, isUnit, isi_str ha, isStr, rowB, i1, c1, ev_worth hb]
            · by_cases c3 : x = "call"
              · subst c3
                cases c4 : isName b with
                | false => simp [m_is_row, isi_tuple e, isTup, bEq_unit e, isUnit, isi_str ha, isStr, rowB, i1, c1, ev_name hb, c2, c4]
                | true => simp [m_is_row, isi_tuple e, isTup, bEq_unit e, isUnit, isi_str ha, isStr, rowB, i1, c1, ev_name hb, c2, c4, in_t (name_flat c4) fc]
              · cases c4 : anyS ["go", "if", "try"] x with
                | true => simp [m_is_row, isi_tuple e, isTup, bEq_unit e, isUnit, isi_str ha, isStr, rowB, i1, c1, c2, c3, i2, c4, ev_led hb]
                | false =>
                  cases c5 : anyS ["get", "set", "look", "change"] x with
                  | true => simp [m_is_row, isi_tuple e, isTup, bEq_unit e, isUnit, isi_str ha, isStr, rowB, i1, c1, c2, c3, i2, c4, i3, c5, ev_name hb]
                  | false => simp [m_is_row, isi_tuple e, isTup, bEq_unit e, isUnit, isi_str ha, isStr, rowB, i1, c1, c2, c3, i2, c4, i3, c5, ev_name hb]
      | _ => first | (simp [m_is_row, isi_tuple e, isTup, bEq_unit e, isUnit, isi_str ha, isStr, rowB]; done) | cases ha
  | _ => first | (simp [m_is_row, isi_tuple e, isTup, rowB]; done) | cases e
/-! the law's -/
def rowL (r : Val) (at' n : Int) (called : List Val) : Bool := match r with
  | .tup (.str x :: rest) => match rest with
    | [] => anyS ALONE x
    | [b] => if x = "put" then (match b with | .int i => decide (-1000000000000 ≤ i) && decide (i ≤ 1000000000000) | _ => false)
      else if anyS ["go", "if", "try"] x = true then led x b at' n
      else if anyS ["get", "set", "look", "change", "call"] x = true then (isName b && (!decide (x = "call") || called.any fun y => eqF y b)) else false
    | _ => false
  | _ => false
theorem split_alone : Txt.split "add less times over same below twin swap away say back throw done lead turn" " " = ALONE := by decide +kernel
end K03
namespace K03
open PySem PySem.Spec PyProof.Rows L2 Z
/-! ### rows are alike -/
theorem anyS_mem {xs : List Str} {x : Str} (h : anyS xs x = true) : x ∈ xs := by
  rw [anyS_eq] at h
  obtain ⟨y, hy, q⟩ := List.any_eq_true.mp h
  rw [beq_iff_eq] at q
  exact q ▸ hy
theorem worth_eq (b : Val) : isWorth b = (match b with | .int i => decide (-1000000000000 ≤ i) && decide (i ≤ 1000000000000) | _ => false) := by
  cases b with
  | int i =>
    show decide ((if i < 0 then -i else i) ≤ 1000000000000) = (decide (-1000000000000 ≤ i) && decide (i ≤ 1000000000000))
    rw [Bool.eq_iff_iff, Bool.and_eq_true, decide_eq_true_eq, decide_eq_true_eq, decide_eq_true_eq]
    split <;> omega
  | _ => rfl
theorem row_eq (r : Val) (a n : Int) (called : List Val) : rowB r a n called = rowL r a n called := by
  cases r with
  | tup xs =>
    match xs with
    | [] => rfl
    | .str x :: rest =>
      match rest with
      | [] =>
        show (if anyS ALONE x = true then _ else _) = anyS ALONE x
        cases anyS ALONE x <;> rfl
      | y :: z :: ys =>
        show (if anyS ALONE x = true then false else false) = false
        split <;> rfl
      | [b] =>
        show (if anyS ALONE x = true then false else if x = "put" then isWorth b else if x = "call" then (isName b && called.any fun y => eqF y b) else if anyS ["go", "if", "try"] x = true then led x b a n else anyS ["get", "set", "look", "change"] x && isName b)
          = (if x = "put" then (match b with | .int i => decide (-1000000000000 ≤ i) && decide (i ≤ 1000000000000) | _ => false)
            else if anyS ["go", "if", "try"] x = true then led x b a n
            else if anyS ["get", "set", "look", "change", "call"] x = true then (isName b && (!decide (x = "call") || called.any fun y => eqF y b)) else false)
        rw [← worth_eq b]
        by_cases c1 : anyS ALONE x = true
        · have hm := anyS_mem c1
          rw [if_pos c1]
          have n1 : ¬ x = "put" := by
            rintro rfl
            exact absurd hm (by decide +kernel)
          have n2 : ¬ anyS ["go", "if", "try"] x = true := by
            intro q
            have := anyS_mem q
            simp only [List.mem_cons, List.not_mem_nil, or_false] at this
            rcases this with rfl | rfl | rfl <;> exact absurd hm (by decide +kernel)
          have n3 : ¬ anyS ["get", "set", "look", "change", "call"] x = true := by
            intro q
            have := anyS_mem q
            simp only [List.mem_cons, List.not_mem_nil, or_false] at this
            rcases this with rfl | rfl | rfl | rfl | rfl <;> exact absurd hm (by decide +kernel)
          rw [if_neg n1, if_neg n2, if_neg n3]
        · rw [if_neg c1]
          by_cases c2 : x = "put"
          · rw [if_pos c2, if_pos c2]
          · rw [if_neg c2, if_neg c2]
            by_cases c3 : x = "call"
            · subst c3
              rw [if_pos rfl, if_neg (by decide +kernel), if_pos (by decide +kernel)]
              simp
            · rw [if_neg c3]
              by_cases c4 : anyS ["go", "if", "try"] x = true
              · rw [if_pos c4, if_pos c4]
              · rw [if_neg c4, if_neg c4]
                have e5 : anyS ["get", "set", "look", "change", "call"] x = anyS ["get", "set", "look", "change"] x := by
                  rw [anyS_eq, anyS_eq]
                  have : (("call" : Str) == x) = false := by
                    rw [beq_eq_false_iff_ne]
                    exact fun q => c3 q.symm
                  simp [this]
                rw [e5]
                cases anyS ["get", "set", "look", "change"] x <;> simp [c3]
    | .non :: _ => rfl
    | .bl _ :: _ => rfl
    | .int _ :: _ => rfl
    | .tup _ :: _ => rfl
    | .lst _ :: _ => rfl
    | .ref _ :: _ => rfl
    | .glo _ :: _ => rfl
    | .ty _ :: _ => rfl
    | .scr _ :: _ => rfl
    | .exn .. :: _ => rfl
  | _ => rfl
/-! ### programs -/
def hd0 (w : Val) : Val := match w with
  | .tup (a :: _) => a
  | _ => .non
def rowsOf (f : Val → Int → Bool) (rows : List Val) : List Bool := (prs 0 rows).map fun z => match z with
  | .tup [.int i, r] => f r i
  | _ => false
def FB (called : List Val) (p : Val) : List Bool := match p with
  | .tup [_, _, .tup rows] => rowsOf (fun r i => rowB r i (rows.length : Nat) called) rows
  | _ => []
def progB (w : Val) : Bool := match w with
  | .tup ps => ps.all headed && (unlike 1 8 (.tup (ps.map hd0)) && (ps.flatMap (FB (ps.map hd0))).all id)
  | _ => false
def headL (p : Val) : Bool := match p with
  | .tup [a, _, _] => isName a
  | _ => false
theorem headed_headL {p : Val} (h : headed p = true) : headL p = true := by
  unfold headed at h
  split at h
  · rw [Bool.and_eq_true] at h
    exact h.1
  · cases h
theorem headL_is {p : Val} (h : headL p = true) : ∃ a b c, p = .tup [a, b, c] ∧ isName a = true := by
  unfold headL at h
  split at h
  · exact ⟨_, _, _, rfl, h⟩
  · cases h
theorem heads_pl {ps : List Val} (e : pl (.tup ps) = true) (g : ps.all headL = true) : pl (.tup (ps.map hd0)) = true := by
  refine pl_tup (by rw [List.length_map]; exact pl_len e) fun w hw => ?_
  obtain ⟨p, hp, rfl⟩ := List.mem_map.mp hw
  obtain ⟨a, b, c, rfl, _⟩ := headL_is (List.all_eq_true.mp g p hp)
  exact pl_mem (pl_mem e _ hp) a (by simp)
theorem heads_names {ps : List Val} (g : ps.all headL = true) : (ps.map hd0).all isName = true := by
  rw [List.all_map, List.all_eq_true]
  intro p hp
  obtain ⟨a, b, c, rfl, h⟩ := headL_is (List.all_eq_true.mp g p hp)
  exact h
theorem heads_flat {ps : List Val} (g : ps.all headL = true) : (ps.map hd0).all flat = true := all_imp (fun w => name_flat) (heads_names g)
theorem heads_lc {ps : List Val} {i : Nat} {mi : SI} {own : List Nat} {ro : En} {h : HH} (g : ps.all headL = true) (e : mi ro h = .ok (.st ps, ps.length) h) (hs : ∀ w, sVar i ((wipeN ro own).set i (some w)) h = .ok w h) :
    sLc mi (gNm i) tYesZ (sBin bIx (sVar i) (sC (.int 0))) own ro h = .ok (.lst (ps.map hd0)) h := by
  refine sLc_map e fun w hw => ?_
  obtain ⟨a, b, c, rfl, _⟩ := headL_is (List.all_eq_true.mp g w hw)
  simp [hs, hd0]
theorem prs_mem {z : Val} : ∀ {xs : List Val} {k : Nat}, z ∈ prs k xs → ∃ (i : Int) (r : Val), z = .tup [.int i, r] ∧ r ∈ xs
  | [], k, h => by simp [prs] at h
  | x :: xs, k, h => by
    unfold prs at h
    rcases List.mem_cons.mp h with rfl | h
    · exact ⟨_, _, rfl, List.mem_cons_self⟩
    · obtain ⟨i, r, e, m⟩ := prs_mem h
      exact ⟨i, r, e, List.mem_cons_of_mem _ m⟩
theorem prs_len : ∀ (xs : List Val) (k : Nat), (prs k xs).length = xs.length
  | [], _ => rfl
  | x :: xs, k => by
    show (prs _ xs).length + 1 = _
    rw [prs_len xs]; rfl
theorem ev_program {w : Val} {h : HH} (e : pl w = true) : F_is_program [w] h = .ok (.bl (progB w)) h := by
  rw [e_is_program]
  cases w with
  | tup ps =>
    have hp := pl_mem e
    have hl := pl_len e
    have hc : ∀ a b c d e' f g' : Option Val, sLc (iVal (sVar 0)) (gNm 2) tYesZ (sCall F_is_headed 1 0 1 (fun ws _ => ws) (aCons (sVar 2) aNil) aNil) [2] [some (.tup ps), a, b, c, d, e', f, g'] h = .ok (.lst (ps.map fun w => .bl (headed w))) h := by
      intro a b c d e' f g'
      refine sLc_map (f := fun w => .bl (headed w)) ?_ fun w hw => ?_
      · simp
      · simp [wipeN, ev_headed (hp w hw)]
    cases ca : ps.all headed with
    | false => simp [m_is_program, isi_tuple e, isTup, hc, fAll_map, ca, progB]
    | true =>
      have ga : ps.all headL = true := all_imp (fun w => headed_headL) ca
      have hh : ∀ a b c d e' f g' : Option Val, sLc (iVal (sVar 0)) (gNm 2) tYesZ (sBin bIx (sVar 2) (sC (.int 0))) [2] [some (.tup ps), a, b, c, d, e', f, g'] h = .ok (.lst (ps.map hd0)) h := by
        intro a b c d e' f g'
        exact heads_lc ga (by simp) fun w => by simp [wipeN]
      have hu := ev_unlike (most := 8) (least := 1) (h := h) (heads_pl e ga) (by omega)
      cases cu : unlike 1 8 (.tup (ps.map hd0)) with
      | false => simp [m_is_program, isi_tuple e, isTup, hc, fAll_map, ca, hh, g_bz_are_unlike_names_1_most_least, c_MOST_PARTS, hu, cu, progB]
      | true =>
        have h2 : sLc2 (iVal (sVar 0)) (gTp 3 (gsCons (gNm 3) (gsCons (gNm 4) (gsCons (gNm 5) gsNil)))) tYesZ (iEn (aCons (sVar 5) aNil)) (gTp 2 (gsCons (gNm 6) (gsCons (gNm 7) gsNil))) tYesZ
            (sCall F_is_row 4 0 4 (fun ws _ => ws) (aCons (sVar 7) (aCons (sVar 6) (aCons (sVar 5) (aCons (sVar 1) aNil)))) aNil) [3, 4, 5, 6, 7] [6, 7] [some (.tup ps), some (.tup (ps.map hd0)), none, none, none, none, none, none] h = .ok (.lst (ps.flatMap fun p => (FB (ps.map hd0) p).map Val.bl)) h := by
          have l8 : ps.length ≤ 8 := by
            unfold unlike at cu
            simp at cu
            omega
          refine sLc2_gen (xs := ps) (fun p => (FB (ps.map hd0) p).map Val.bl) (by simp) (by omega) fun w hw => ?_
          have hd := List.all_eq_true.mp ca w hw
          obtain ⟨a, b, c, rfl, _⟩ := headL_is (headed_headL hd)
          have hq := pl_mem (hp _ hw)
          cases c with
          | tup rows =>
            have hr := pl_mem (hq _ (by simp : Val.tup rows ∈ [a, b, .tup rows]))
            refine ⟨[some (.tup ps), some (.tup (ps.map hd0)), none, some a, some b, some (.tup rows), none, none], prs 0 rows, fun z => match z with
              | .tup [.int i, r] => .bl (rowB r i (rows.length : Nat) (ps.map hd0))
              | _ => .bl false, rfl, by simp [prs_len], by rw [prs_len]; exact by (have q60 := hd; simp only [headed, rowsB, Bool.and_eq_true, decide_eq_true_eq] at q60; omega), ?_, ?_⟩
            · unfold FB rowsOf
              dsimp only
              rw [List.map_map]
              refine List.map_congr_left fun z hz => ?_
              obtain ⟨i, r, rfl, _⟩ := prs_mem hz
              rfl
            · intro z hz
              obtain ⟨i, r, rfl, hm⟩ := prs_mem hz
              exact ⟨_, rfl, by simp [wipeN, ev_row (hr r hm) (heads_flat ga)]⟩
          | _ => simp [headed, rowsB] at hd
        have e3 : (ps.flatMap fun p => (FB (ps.map hd0) p).map Val.bl) = (ps.flatMap (FB (ps.map hd0))).map Val.bl := by rw [List.map_flatMap]
        rw [e3] at h2
        have e4 : progB (.tup ps) = (ps.flatMap (FB (ps.map hd0))).all id := by
          show (ps.all headed && (unlike 1 8 (.tup (ps.map hd0)) && _)) = _
          rw [ca, cu]; rfl
        rw [e4]
        simp only [m_is_program, nSeq_e, nIf_e, cOr_e, cNot_e, cV_e, sArgs_e, aCons_e, sVar_0, sC_e, aNil_e, ob_ok, isi_tuple e, isTup, tr_bl, Bool.not_true, sb_ok, Bool.false_eq_true, if_false, hc, fAll_map, ca, nNext_e, sq_nx, nSet_e, hh, fTpl_l, List.set_cons_zero, List.set_cons_succ, sCall_e, sVar_1, sVar_s]
        simp [g_bz_are_unlike_names_1_most_least, c_MOST_PARTS, hu, cu, h2, fAll_bls]
  | _ => first | (simp [m_is_program, isi_tuple e, isTup, progB]; done) | cases e
end K03
namespace K03
open PySem PySem.Spec PyProof.Rows L2 Z
def cntV (xs : List Val) (w : Val) : Nat := xs.countP fun z => eqF z w
def nodL (xs : List Val) : Bool := (xs.filter fun w => decide ((1 : Int) < (cntV xs w : Nat))).isEmpty
def one (xs : List Val) (w : Val) : Bool := decide (cntV xs w = 1)
theorem txts_map : ∀ {xs : List Val} {ys : List Str}, txts xs = some ys → xs = ys.map Val.str
  | [], _, e => by cases e; rfl
  | .str x :: xs, _, e => by
    unfold txts at e
    obtain ⟨cs, e2, rfl⟩ := Option.map_eq_some_iff.mp e
    rw [List.map_cons, ← txts_map e2]
  | .non :: _, _, e => by cases e
  | .bl _ :: _, _, e => by cases e
  | .int _ :: _, _, e => by cases e
  | .tup _ :: _, _, e => by cases e
  | .lst _ :: _, _, e => by cases e
  | .ref _ :: _, _, e => by cases e
  | .glo _ :: _, _, e => by cases e
  | .ty _ :: _, _, e => by cases e
  | .scr _ :: _, _, e => by cases e
theorem cnt_str (y : Str) : ∀ ys : List Str, ((ys.map Val.str).countP fun z => eqF z (.str y)) = ys.countP fun z => z == y
  | [] => rfl
  | z :: ys => by
    rw [List.map_cons, List.countP_cons, List.countP_cons, cnt_str y ys]
    rfl
theorem cnt_pos {y : Str} {ys : List Str} (h : y ∈ ys) : 1 ≤ ys.countP fun z => z == y := List.countP_pos_iff.mpr ⟨y, h, by simp⟩
theorem nodup_few : ∀ ys : List Str, ys.Nodup ↔ ∀ y ∈ ys, (ys.countP fun z => z == y) ≤ 1
  | [] => by simp
  | x :: ys => by
    rw [List.nodup_cons, nodup_few ys]
    constructor
    · rintro ⟨h1, h2⟩ y hy
      rw [List.countP_cons]
      rcases List.mem_cons.mp hy with rfl | hy
      · have : (ys.countP fun z => z == y) = 0 := by
          rw [List.countP_eq_zero]
          intro z hz q
          have : z = y := by simpa using q
          exact h1 (this ▸ hz)
        simp [this]
      · have : (x == y) = false := by
          rw [beq_eq_false_iff_ne]
          rintro rfl
          exact h1 hy
        simp only [this, Bool.false_eq_true, if_false]
        exact h2 y hy
    · intro h
      have hx := h x List.mem_cons_self
      rw [List.countP_cons] at hx
      simp only [beq_self_eq_true, if_true] at hx
      have nx : x ∉ ys := fun q => by
        have := cnt_pos q
        omega
      refine ⟨nx, fun y hy => ?_⟩
      have q := h y (List.mem_cons_of_mem _ hy)
      rw [List.countP_cons] at q
      omega
theorem nod_eq {xs : List Val} (e : xs.all isStr = true) : nodB xs = nodL xs := by
  obtain ⟨ys, hy⟩ := txts_some e
  have hx := txts_map hy
  unfold nodB nodL
  rw [hy, Bool.eq_iff_iff]
  dsimp only
  rw [decide_eq_true_eq, txts_len hy, ZS.dcnt_eq, nodup_few, List.isEmpty_iff, List.filter_eq_nil_iff, hx]
  constructor
  · intro q w hw
    obtain ⟨y, hy, rfl⟩ := List.mem_map.mp hw
    unfold cntV
    rw [cnt_str]
    have := q y hy
    rw [decide_eq_true_eq]
    omega
  · intro q y hy
    have z := q (.str y) (List.mem_map_of_mem hy)
    unfold cntV at z
    rw [cnt_str, decide_eq_true_eq] at z
    omega
/-! ### a part, a program -/
def namesL (b : Val) : Bool := match b with
  | .tup xs => decide (((xs.length : Nat) : Int) ≤ 3) && (xs.all isName && nodL xs)
  | _ => false
def FL (called : List Val) (p : Val) : List Bool := match p with
  | .tup [_, _, .tup rows] => rowsOf (fun r i => rowL r i (rows.length : Nat) called) rows
  | _ => []
def rowsL (c : Val) : Bool := match c with
  | .tup rows => decide ((0 : Int) < ((rows.length : Nat) : Int)) && decide (((rows.length : Nat) : Int) < 61)
  | _ => false
def partL (called : List Val) (p : Val) : Bool := match p with
  | .tup [a, b, c] => namesL b && (rowsL c && (FL called (.tup [a, b, c])).all id)
  | _ => false
def progL (w : Val) : Bool := match w with
  | .tup ps => decide ((1 : Int) ≤ ((ps.length : Nat) : Int)) && (decide (((ps.length : Nat) : Int) < 9) && (ps.all headL && (nodL (ps.map hd0) && ps.all (partL (ps.map hd0)))))
  | _ => false
/-! ### alike -/
theorem all_and (xs : List Val) (p q : Val → Bool) : (xs.all fun w => p w && q w) = (xs.all p && xs.all q) := by
  induction xs with
  | nil => rfl
  | cons x xs ih =>
    rw [List.all_cons, List.all_cons, List.all_cons, ih]
    cases p x <;> cases q x <;> cases xs.all p <;> cases xs.all q <;> rfl
theorem all_flat (f : Val → List Bool) : ∀ ps : List Val, (ps.flatMap f).all id = ps.all fun p => (f p).all id
  | [] => rfl
  | p :: ps => by rw [List.flatMap_cons, List.all_append, List.all_cons, all_flat f ps]
theorem names_eq (b : Val) : unlike 0 3 b = namesL b := by
  cases b with
  | tup xs =>
    show (decide ((0 : Int) ≤ ((xs.length : Nat) : Int)) && (decide (((xs.length : Nat) : Int) ≤ 3) && (xs.all isName && nodB xs))) = (decide (((xs.length : Nat) : Int) ≤ 3) && (xs.all isName && nodL xs))
    have : decide ((0 : Int) ≤ ((xs.length : Nat) : Int)) = true := decide_eq_true (by omega)
    rw [this, Bool.true_and]
    cases c : xs.all isName with
    | false => simp
    | true => rw [nod_eq (all_imp (fun w => name_str) c)]
  | _ => rfl
theorem rows_eq (c : Val) : rowsB c = rowsL c := by
  cases c with
  | tup rows =>
    show (decide ((1 : Int) ≤ ((rows.length : Nat) : Int)) && decide (((rows.length : Nat) : Int) ≤ 60)) = (decide ((0 : Int) < ((rows.length : Nat) : Int)) && decide (((rows.length : Nat) : Int) < 61))
    rw [Bool.eq_iff_iff, Bool.and_eq_true, Bool.and_eq_true, decide_eq_true_eq, decide_eq_true_eq, decide_eq_true_eq, decide_eq_true_eq]
    omega
  | _ => rfl
theorem FB_eq (called : List Val) (p : Val) : FB called p = FL called p := by
  unfold FB FL
  split
  · unfold rowsOf
    refine List.map_congr_left fun z hz => ?_
    obtain ⟨i, r, rfl, _⟩ := prs_mem hz
    exact row_eq _ _ _ _
  · rename_i n
    first
      | rfl
      | (split
         · rename_i a b c
           exact absurd rfl (n a b c)
         · rfl)
def mid (p : Val) : Bool := match p with
  | .tup [_, b, c] => namesL b && rowsL c
  | _ => false
theorem headed_eq (p : Val) : headed p = (headL p && mid p) := by
  unfold headed headL
  split
  · rename_i a b c
    show _ = (isName a && (namesL b && rowsL c))
    rw [names_eq, rows_eq]
  · rename_i n
    first
      | rfl
      | (split
         · rename_i a b c
           exact absurd rfl (n a b c)
         · rfl)
theorem partL_eq (called : List Val) (p : Val) (g : headL p = true) : partL called p = (mid p && (FL called p).all id) := by
  obtain ⟨a, b, c, rfl, _⟩ := headL_is g
  show (namesL b && (rowsL c && _)) = ((namesL b && rowsL c) && _)
  rw [Bool.and_assoc]
theorem prog_eq (w : Val) : progB w = progL w := by
  cases w with
  | tup ps =>
    show (ps.all headed && (unlike 1 8 (.tup (ps.map hd0)) && (ps.flatMap (FB (ps.map hd0))).all id)) = (decide ((1 : Int) ≤ ((ps.length : Nat) : Int)) && (decide (((ps.length : Nat) : Int) < 9) && (ps.all headL && (nodL (ps.map hd0) && ps.all (partL (ps.map hd0))))))
    have e1 : ps.all headed = (ps.all headL && ps.all mid) := by
      rw [← all_and]
      congr 1
      funext p
      exact headed_eq p
    rw [e1]
    cases c : ps.all headL with
    | false => simp
    | true =>
      have e2 : unlike 1 8 (.tup (ps.map hd0)) = (decide ((1 : Int) ≤ ((ps.length : Nat) : Int)) && (decide (((ps.length : Nat) : Int) < 9) && nodL (ps.map hd0))) := by
        show (decide ((1 : Int) ≤ (((ps.map hd0).length : Nat) : Int)) && (decide ((((ps.map hd0).length : Nat) : Int) ≤ 8) && ((ps.map hd0).all isName && nodB (ps.map hd0)))) = _
        rw [heads_names c, nod_eq (all_imp (fun w => name_str) (heads_names c)), List.length_map, Bool.true_and]
        congr 2
        rw [decide_eq_decide]
        omega
      have e3 : ps.all (partL (ps.map hd0)) = (ps.all mid && (ps.flatMap (FB (ps.map hd0))).all id) := by
        rw [all_flat, ← all_and]
        rw [Bool.eq_iff_iff, List.all_eq_true, List.all_eq_true]
        constructor
        · intro h p hp
          have := h p hp
          rw [partL_eq _ p (List.all_eq_true.mp c p hp)] at this
          rw [FB_eq]
          exact this
        · intro h p hp
          have := h p hp
          rw [FB_eq] at this
          rw [partL_eq _ p (List.all_eq_true.mp c p hp)]
          exact this
      rw [e2, e3]
      generalize ps.all mid = m
      generalize (ps.flatMap (FB (ps.map hd0))).all id = f
      generalize nodL (ps.map hd0) = k
      generalize decide ((1 : Int) ≤ ((ps.length : Nat) : Int)) = x
      generalize decide (((ps.length : Nat) : Int) < 9) = y
      cases m <;> cases f <;> cases k <;> cases x <;> cases y <;> rfl
  | _ => rfl
end K03
namespace Z
open PySem PySem.Spec PyProof.Rows L2
/-! ### how long a repr may be -/
mutual
def sz : Val → Nat
  | .non => 5
  | .bl _ => 5
  | .int _ => 60
  | .str x => 10 * x.length + 2
  | .tup xs => szs xs + 3
  | .lst xs => szs xs + 3
  | .ref _ => 5
  | .glo _ => 5
  | .ty _ => 5
  | .scr _ => 5
  | .exn .. => 5
def szs : List Val → Nat
  | [] => 0
  | x :: xs => sz x + 2 + szs xs
end
/-- plain, at most d deep, its numbers and lengths bounded -/
def fine (n : Nat) : Nat → Val → Bool
  | _, .non => true
  | _, .bl _ => true
  | _, .int i => decide (i.natAbs ≤ 10 ^ 39 + n)
  | _, .str x => PyData.strOk x && decide (x.length ≤ 20)
  | d + 1, .tup xs => decide (xs.length ≤ 100 + n) && xs.all (fine n d)
  | d + 1, .lst xs => decide (xs.length ≤ 100 + n) && xs.all (fine n d)
  | _, _ => false
theorem fine_mono {n m : Nat} (h : n ≤ m) : ∀ (d e : Nat) (w : Val), d ≤ e → fine n d w = true → fine m e w = true := by
  intro d
  induction d with
  | zero =>
    intro e w _ q
    cases w with
    | int i =>
      have q' : decide (i.natAbs ≤ 10 ^ 39 + n) = true := q
      rw [decide_eq_true_eq] at q'
      have : fine m e (.int i) = decide (i.natAbs ≤ 10 ^ 39 + m) := by cases e <;> rfl
      rw [this, decide_eq_true_eq]
      exact Nat.le_trans q' (Nat.add_le_add_left h _)
    | str x => cases e <;> exact q
    | non => cases e <;> rfl
    | bl _ => cases e <;> rfl
    | _ => cases q
  | succ d ih =>
    intro e w l q
    obtain ⟨e, rfl⟩ : ∃ e', e = e' + 1 := ⟨e - 1, by omega⟩
    cases w with
    | int i =>
      have q' : decide (i.natAbs ≤ 10 ^ 39 + n) = true := q
      rw [decide_eq_true_eq] at q'
      show decide (i.natAbs ≤ 10 ^ 39 + m) = true
      rw [decide_eq_true_eq]
      exact Nat.le_trans q' (Nat.add_le_add_left h _)
    | str x => exact q
    | non => rfl
    | bl _ => rfl
    | tup xs =>
      have q' : (decide (xs.length ≤ 100 + n) && xs.all (fine n d)) = true := q
      rw [Bool.and_eq_true, decide_eq_true_eq, List.all_eq_true] at q'
      show (decide (xs.length ≤ 100 + m) && xs.all (fine m e)) = true
      rw [Bool.and_eq_true, decide_eq_true_eq, List.all_eq_true]
      exact ⟨by omega, fun w hw => ih e w (by omega) (q'.2 w hw)⟩
    | lst xs =>
      have q' : (decide (xs.length ≤ 100 + n) && xs.all (fine n d)) = true := q
      rw [Bool.and_eq_true, decide_eq_true_eq, List.all_eq_true] at q'
      show (decide (xs.length ≤ 100 + m) && xs.all (fine m e)) = true
      rw [Bool.and_eq_true, decide_eq_true_eq, List.all_eq_true]
      exact ⟨by omega, fun w hw => ih e w (by omega) (q'.2 w hw)⟩
    | _ => cases q
theorem fine_tup {n d : Nat} {xs : List Val} : fine n (d + 1) (.tup xs) = true ↔ xs.length ≤ 100 + n ∧ ∀ w ∈ xs, fine n d w = true := by
  show (decide (xs.length ≤ 100 + n) && xs.all (fine n d)) = true ↔ _
  rw [Bool.and_eq_true, decide_eq_true_eq, List.all_eq_true]
theorem fine_lst {n d : Nat} {xs : List Val} : fine n (d + 1) (.lst xs) = true ↔ xs.length ≤ 100 + n ∧ ∀ w ∈ xs, fine n d w = true := by
  show (decide (xs.length ≤ 100 + n) && xs.all (fine n d)) = true ↔ _
  rw [Bool.and_eq_true, decide_eq_true_eq, List.all_eq_true]
theorem depthAll_le {d : Nat} : ∀ {xs : List Val}, (∀ w ∈ xs, (toD w).depth ≤ d) → PyData.depthAll (toDs xs) ≤ d
  | [], _ => by unfold toDs; unfold PyData.depthAll; omega
  | x :: xs, h => by
    unfold toDs; unfold PyData.depthAll
    have := h x List.mem_cons_self
    have := depthAll_le (xs := xs) fun w hw => h w (List.mem_cons_of_mem _ hw)
    omega
theorem showAll {xs : List Val} (h : ∀ w ∈ xs, (toD w).showable = true) : PyData.showableAll (toDs xs) = true := by
  induction xs with
  | nil => rfl
  | cons x xs ih =>
    unfold toDs; unfold PyData.showableAll
    rw [h x List.mem_cons_self, ih fun w hw => h w (List.mem_cons_of_mem _ hw)]; rfl
theorem shownAll_len {xs : List Val} : (PyData.shownAll (toDs xs)).length = xs.length := by
  induction xs with
  | nil => rfl
  | cons x xs ih =>
    unfold toDs; unfold PyData.shownAll
    rw [List.length_cons, ih]; rfl
theorem shownAll_sum {xs : List Val} (h : ∀ w ∈ xs, (toD w).shown.length ≤ sz w) : ((PyData.shownAll (toDs xs)).map (fun y : Str => y.length)).sum + 2 * xs.length ≤ szs xs := by
  induction xs with
  | nil => exact Nat.le_refl _
  | cons x xs ih =>
    unfold toDs; unfold PyData.shownAll
    rw [List.map_cons, List.sum_cons, List.length_cons]
    have := ih fun w hw => h w (List.mem_cons_of_mem _ hw)
    have := h x List.mem_cons_self
    have : szs (x :: xs) = sz x + 2 + szs xs := rfl
    omega
theorem big39 {n : Nat} (l : n ≤ 1000) {i : Int} (q : i.natAbs ≤ 10 ^ 39 + n) : i.natAbs < 10 ^ 40 := by
  have : (10 : Nat) ^ 39 + 1000 < 10 ^ 40 := by decide
  omega
theorem fine_all {n : Nat} (l : n ≤ 900) : ∀ (d : Nat) (w : Val), fine n d w = true → pl w = true ∧ (toD w).depth ≤ d ∧ (toD w).showable = true ∧ (toD w).shown.length ≤ sz w := by
  have scal : ∀ (d : Nat) (w : Val), fine n d w = true → (∀ xs, w ≠ .tup xs) → (∀ xs, w ≠ .lst xs) → pl w = true ∧ (toD w).depth ≤ d ∧ (toD w).showable = true ∧ (toD w).shown.length ≤ sz w := by
    intro d w q n1 n2
    cases w with
    | non => exact ⟨rfl, by unfold toD; unfold PyData.depth; omega, rfl, by unfold toD; unfold PyData.shown; decide +kernel⟩
    | bl b => exact ⟨rfl, by unfold toD; unfold PyData.depth; omega, rfl, by unfold toD; unfold PyData.shown; cases b <;> decide +kernel⟩
    | int i =>
      have q' : decide (i.natAbs ≤ 10 ^ 39 + n) = true := by cases d <;> exact q
      rw [decide_eq_true_eq] at q'
      have b := big39 (by omega) q'
      refine ⟨rfl, by unfold toD; unfold PyData.depth; omega, ?_, ?_⟩
      · show decide (i.natAbs.log2 < 1920) = true
        rw [decide_eq_true_eq]
        by_cases z : i.natAbs = 0
        · rw [z]; decide
        · have : i.natAbs.log2 < 200 := (Nat.log2_lt z).mpr (Nat.lt_of_lt_of_le b (by decide))
          omega
      · show (Str.ofString (toString i)).length ≤ 60
        rw [PySem.ofString_length]
        have := int_text_length_le10 (k := 40) (by decide) b
        omega
    | str x =>
      have q' : (PyData.strOk x && decide (x.length ≤ 20)) = true := by cases d <;> exact q
      rw [Bool.and_eq_true, decide_eq_true_eq] at q'
      refine ⟨?_, by unfold toD; unfold PyData.depth; omega, rfl, ?_⟩
      · unfold pl
        rw [q'.1]
        simp; omega
      · show (reprText x).length ≤ 10 * x.length + 2
        refine StrLaws.reprText_len x fun c hc => ?_
        have z := q'.1
        unfold PyData.strOk at z
        have z2 := Array.all_eq_true_iff_forall_mem.mp z c (Array.mem_toList_iff.mp hc)
        have : c < 0x110000 := by simpa using z2
        omega
    | tup xs => exact absurd rfl (n1 xs)
    | lst xs => exact absurd rfl (n2 xs)
    | _ => cases d <;> cases q
  intro d
  induction d with
  | zero =>
    intro w q
    exact scal 0 w q (fun xs e => by subst e; cases q) (fun xs e => by subst e; cases q)
  | succ d ih =>
    intro w q
    cases w with
    | tup xs =>
      obtain ⟨q1, q2⟩ := fine_tup.mp q
      have h := fun w hw => ih w (q2 w hw)
      refine ⟨pl_tup (by omega) fun w hw => (h w hw).1, ?_, ?_, ?_⟩
      · show PyData.depthAll (toDs xs) + 1 ≤ d + 1
        exact Nat.succ_le_succ (depthAll_le fun w hw => (h w hw).2.1)
      · exact showAll fun w hw => (h w hw).2.2.1
      · show (tupleText (PyData.shownAll (toDs xs))).length ≤ szs xs + 3
        refine Nat.le_trans (tupleText_len_le _) ?_
        rw [shownAll_len]
        have := shownAll_sum fun w hw => (h w hw).2.2.2
        omega
    | lst xs =>
      obtain ⟨q1, q2⟩ := fine_lst.mp q
      have h := fun w hw => ih w (q2 w hw)
      refine ⟨pl_lst (by omega) fun w hw => (h w hw).1, ?_, ?_, ?_⟩
      · show PyData.depthAll (toDs xs) + 1 ≤ d + 1
        exact Nat.succ_le_succ (depthAll_le fun w hw => (h w hw).2.1)
      · exact showAll fun w hw => (h w hw).2.2.1
      · show (listText (PyData.shownAll (toDs xs))).length ≤ szs xs + 3
        refine Nat.le_trans (listText_len_le _) ?_
        rw [shownAll_len]
        have := shownAll_sum fun w hw => (h w hw).2.2.2
        omega
    | _ => exact scal (d + 1) _ q (fun _ e => nomatch e) (fun _ e => nomatch e)
theorem ev_repr {n d : Nat} {w : Val} {h : HH} (l : n ≤ 900) (ld : d ≤ 60) (q : fine n d w = true) (z : sz w ≤ 16000000) : fRepr [w] h = .ok (.str (toD w).shown) h := by
  obtain ⟨h1, h2, h3, h4⟩ := fine_all l d w q
  have r1 : rd w h = some w := by cases w <;> first | rfl | cases h1
  show (match rd w h with
    | some a => if okV a = true ∧ (toD a).showable = true ∧ (toD a).depth ≤ 60 ∧ (toD a).shown.length ≤ sizeLine then Out.ok (Val.str (toD a).shown) h else .bad
    | none => .bad) = _
  rw [r1]
  dsimp only
  rw [if_pos ⟨pl_ok w h1, h3, by omega, by have := sizeLine_eq; omega⟩]
end Z
namespace K03
open PySem PySem.Spec PyProof.Rows L2 Z
/-! ### draws -/
def BagK (b c : Nat) (h : HH) : Prop := ∃ f l s : Int, h[b]? = some (.lst [.int f, .int l, .int s]) ∧ 0 ≤ f ∧ 0 ≤ l ∧ l ≤ 2 ^ 61 ∧ 0 ≤ s ∧ s ≤ (c : Nat)
theorem BagK.mono {b c c' : Nat} {h : HH} (B : BagK b c h) (l : c ≤ c') : BagK b c' h := by
  obtain ⟨f, m, s, e, a1, a2, a3, a4, a5⟩ := B
  exact ⟨f, m, s, e, a1, a2, a3, a4, by omega⟩
theorem BagK.lt {b c : Nat} {h : HH} (B : BagK b c h) : b < h.length := by
  obtain ⟨f, l, s, e, _⟩ := B
  exact (List.getElem?_eq_some_iff.mp e).1
def primes : List Val := [.int 2147483629, .int 2147483587, .int 2147483579, .int 2147483563, .int 2147483549, .int 2147483543, .int 2147483497]
theorem prime_at {i : Int} (h0 : 0 ≤ i) (h1 : i < 7) {h : HH} : ∃ p : Int, bIx (.tup primes) (.int i) h = .ok (.int p) h ∧ 0 < p ∧ p < 2 ^ 31 := by
  obtain ⟨n, rfl⟩ := Int.eq_ofNat_of_zero_le h0
  have l : n < 7 := by omega
  match n, l with
  | 0, _ => exact ⟨_, ix_t rfl, by decide, by decide⟩
  | 1, _ => exact ⟨_, ix_t rfl, by decide, by decide⟩
  | 2, _ => exact ⟨_, ix_t rfl, by decide, by decide⟩
  | 3, _ => exact ⟨_, ix_t rfl, by decide, by decide⟩
  | 4, _ => exact ⟨_, ix_t rfl, by decide, by decide⟩
  | 5, _ => exact ⟨_, ix_t rfl, by decide, by decide⟩
  | 6, _ => exact ⟨_, ix_t rfl, by decide, by decide⟩
/-- what a draw leaves: the bag alone is changed -/
def Kp (b : Nat) (h h' : HH) : Prop := h.length ≤ h'.length ∧ ∀ i, i < h.length → i ≠ b → h'[i]? = h[i]?
theorem Kp.refl (b : Nat) (h : HH) : Kp b h h := ⟨Nat.le_refl _, fun _ _ _ => rfl⟩
theorem Kp.trans {b : Nat} {h h1 h2 : HH} (a : Kp b h h1) (c : Kp b h1 h2) : Kp b h h2 := ⟨Nat.le_trans a.1 c.1, fun i l n => (c.2 i (Nat.lt_of_lt_of_le l a.1) n).trans (a.2 i l n)⟩
theorem Kp.set {b : Nat} {h : HH} {x : Ob} : Kp b h (h.set b x) := ⟨by simp, fun i l n => by rw [List.getElem?_set_ne (Ne.symm n)]⟩
theorem Kp.new {b : Nat} {h : HH} {x : Ob} : Kp b h (h ++ [x]) := ⟨by simp, fun i l n => by rw [List.getElem?_append_left l]⟩
structure Aft (b c : Nat) (h h' : HH) : Prop where
  kp : Kp b h h'
  bag : BagK b c h'
theorem Aft.trans {b c c' : Nat} {h h1 h2 : HH} (a : Aft b c h h1) (d : Aft b c' h1 h2) : Aft b c' h h2 := ⟨a.kp.trans d.kp, d.bag⟩
theorem Aft.mono {b c c' : Nat} {h h1 : HH} (a : Aft b c h h1) (l : c ≤ c') : Aft b c' h h1 := ⟨a.kp, a.bag.mono l⟩
theorem Aft.refl {b c : Nat} {h : HH} (B : BagK b c h) : Aft b c h h := ⟨Kp.refl b h, B⟩
theorem ev_take {b c : Nat} {h : HH} {many : Int} (B : BagK b c h) (hc : c ≤ 2 ^ 29) (hm : 0 < many) (hm2 : many ≤ 2 ^ 40) :
    ∃ (v : Int) (h' : HH), F__law_take [.ref b, .int many] h = .ok (.int v) h' ∧ 0 ≤ v ∧ v < many ∧ Aft b (c + 1) h h' := by
  obtain ⟨f, l, s, e, f0, l0, l1, s0, s1⟩ := B
  have i0 : bIx (.ref b) (.int 0) h = .ok (.int f) h := ix_r (i := 0) e rfl
  rw [e__law_take]
  by_cases hf : 0 < f
  · refine ⟨f % many, h.set b (.lst [.int (f / many), .int l, .int s]), ?_, Int.emod_nonneg _ (by omega), Int.emod_lt_of_pos _ hm, Kp.set, ⟨_, _, _, set_get e, Int.ediv_nonneg f0 (by omega), l0, l1, s0, by omega⟩⟩
    have g0 : ∀ r : En, r[0]? = some (some (.ref b)) → gSb (sVar 0) (sC (.int 0)) (.int (f / many)) r h = .go .nx r (h.set b (.lst [.int (f / many), .int l, .int s])) := by
      intro r hr
      exact gSb_e (j := 0) (sVar_e hr) rfl e rfl
    simp [m__law_take, i0, hf, mod_ii hm, div_ii hm (by omega), g0]
  · have i2 : bIx (.ref b) (.int 2) h = .ok (.int s) h := ix_r (i := 2) e rfl
    have e1 : (h.set b (.lst [.int f, .int l, .int (s + 1)]))[b]? = some (.lst [.int f, .int l, .int (s + 1)]) := set_get e
    generalize eh : h.set b (.lst [.int f, .int l, .int (s + 1)]) = h1 at e1
    have g0 : ∀ r : En, r[0]? = some (some (.ref b)) → gSb (sVar 0) (sC (.int 2)) (.int (s + 1)) r h = .go .nx r h1 := by
      intro r hr
      rw [← eh]
      exact gSb_e (j := 2) (sVar_e hr) rfl e rfl
    have j1 : bIx (.ref b) (.int 1) h1 = .ok (.int l) h1 := ix_r (i := 1) e1 rfl
    have j2 : bIx (.ref b) (.int 2) h1 = .ok (.int (s + 1)) h1 := ix_r (i := 2) e1 rfl
    obtain ⟨p1, q1, p1a, p1b⟩ := prime_at (i := (s + 1) % 7) (by omega) (by omega) (h := h1)
    obtain ⟨p2, q2, p2a, p2b⟩ := prime_at (i := (s + 1 + 3) % 7) (by omega) (by omega) (h := h1)
    generalize elow : l * (2 * (s + 1) + 1) + 7919 * (s + 1) * (s + 1) + 29 = low
    have hlow : low.natAbs < 2 ^ 110 := by
      have a1 : l * (2 * (s + 1) + 1) ≤ 2 ^ 61 * (2 ^ 40) := Int.mul_le_mul l1 (by omega) (by omega) (by omega)
      have a2 : 7919 * (s + 1) * (s + 1) ≤ (2 ^ 50) * (2 ^ 40) := Int.mul_le_mul (by omega) (by omega) (by omega) (by omega)
      have a3 : 0 ≤ l * (2 * (s + 1) + 1) := Int.mul_nonneg l0 (by omega)
      have a4 : 0 ≤ 7919 * (s + 1) * (s + 1) := Int.mul_nonneg (by omega) (by omega)
      omega
    have m1 : bMul (.int 2) (.int (s + 1)) h1 = .ok (.int (2 * (s + 1))) h1 := mul_ii (.inl ⟨by omega, by omega⟩)
    have m2 : bMul (.int l) (.int (2 * (s + 1) + 1)) h1 = .ok (.int (l * (2 * (s + 1) + 1))) h1 := mul_ii (.inl ⟨by omega, by omega⟩)
    have m3 : bMul (.int 7919) (.int (s + 1)) h1 = .ok (.int (7919 * (s + 1))) h1 := mul_ii (.inl ⟨by omega, by omega⟩)
    have m4 : bMul (.int (7919 * (s + 1))) (.int (s + 1)) h1 = .ok (.int (7919 * (s + 1) * (s + 1))) h1 := mul_ii (.inl ⟨by omega, by omega⟩)
    have pw : bPow (.int low) (.int 3) h1 = .ok (.int (low ^ 3)) h1 := pow_ii (j := 3) hlow (by decide)
    generalize efd : low ^ 3 % p1 = fd
    have fd0 : 0 ≤ fd := by rw [← efd]; exact Int.emod_nonneg _ (by omega)
    have fd1 : fd < 2 ^ 31 := by
      have : low ^ 3 % p1 < p1 := Int.emod_lt_of_pos _ p1a
      omega
    have m5 : bMul (.int fd) (.int (fd / 4096 + (s + 1))) h1 = .ok (.int (fd * (fd / 4096 + (s + 1)))) h1 := mul_ii (.inl ⟨by omega, by omega⟩)
    refine ⟨fd * (fd / 4096 + (s + 1)) % p2 / 16 % many, h1, ?_, Int.emod_nonneg _ (by omega), Int.emod_lt_of_pos _ hm, by rw [← eh]; exact Kp.set, ⟨f, l, s + 1, e1, f0, l0, l1, by omega, by push_cast; omega⟩⟩
    have ft : fTup [.int 2147483629, .int 2147483587, .int 2147483579, .int 2147483563, .int 2147483549, .int 2147483543, .int 2147483497] h = .ok (.tup primes) h := fTup_ok (by simp)
    have n8a : bMod (.int (s + 1)) (.int 7) h1 = .ok (.int ((s + 1) % 7)) h1 := mod_ii (by omega)
    have n8b : bMod (.int (s + 1 + 3)) (.int 7) h1 = .ok (.int ((s + 1 + 3) % 7)) h1 := mod_ii (by omega)
    have k1 : bMod (.int (low ^ 3)) (.int p1) h1 = .ok (.int fd) h1 := by rw [mod_ii p1a, efd]
    have d1 : bDiv (.int fd) (.int 4096) h1 = .ok (.int (fd / 4096)) h1 := div_ii (by omega) (by omega)
    have k2 : bMod (.int (fd * (fd / 4096 + (s + 1)))) (.int p2) h1 = .ok (.int (fd * (fd / 4096 + (s + 1)) % p2)) h1 := mod_ii p2a
    have d2 : bDiv (.int (fd * (fd / 4096 + (s + 1)) % p2)) (.int 16) h1 = .ok (.int (fd * (fd / 4096 + (s + 1)) % p2 / 16)) h1 := div_ii (by omega) (by omega)
    simp [m__law_take, i0, hf, ft, i2, g0, j1, j2, m1, m2, m3, m4, elow, pw, n8a, n8b, q1, q2, k1, d1, m5, k2, d2, mod_ii hm]
/-! ### odd things -/
/-! ### one thing otherwise -/
theorem cutW_to {xs : List Val} {n : Nat} (l : n ≤ xs.length) : cutW xs none (some (n : Int)) = xs.take n := by
  have e : HT.sIx xs.length xs.length (some (n : Int)) = n := by
    unfold HT.sIx
    first
      | (simp; omega)
      | (dsimp only; split <;> omega)
  show (xs.drop (HT.sIx xs.length 0 none)).take (HT.sIx xs.length xs.length (some (n : Int)) - HT.sIx xs.length 0 none) = _
  rw [e]
  rfl
end K03
namespace Z
open PySem PySem.Spec PyProof.Rows L2
/-- a comprehension whose element draws -/
theorem lc_draw {g : GM} {m : SE} {ro : En} {ys : List Val} (P : Nat → HH → Prop) (R : Nat → Val → Prop) (hf : ∀ i w h, ys[i]? = some w → P i h → ∃ ro1 y h1, g w ro h = .go .nx ro1 h ∧ m ro1 h = .ok y h1 ∧ R i y ∧ P (i + 1) h1) :
    ∀ (k i : Nat) (acc : List Val) (h : HH), k + i = ys.length → P i h → ∃ zs h', lcTurns g tYesZ m ro (.st ys) k i acc h = .ok (acc ++ zs) h' ∧ zs.length = k ∧ (∀ j y, zs[j]? = some y → R (i + j) y) ∧ P ys.length h'
  | 0, i, acc, h, e, p => by
    have : i = ys.length := by omega
    subst this
    refine ⟨[], h, ?_, rfl, fun j y q => by simp at q, p⟩
    unfold lcTurns
    have : nxt (.st ys) ys.length h = some none := by show some ys[ys.length]? = _; simp
    rw [this]; simp
  | k + 1, i, acc, h, e, p => by
    have l : i < ys.length := by omega
    have es : ys[i]? = some ys[i] := List.getElem?_eq_getElem l
    obtain ⟨ro1, y, h1, e1, e2, r, p1⟩ := hf i ys[i] h es p
    obtain ⟨zs, h', e3, l3, r3, p3⟩ := lc_draw P R hf k (i + 1) (acc ++ [y]) h1 (by omega) p1
    refine ⟨y :: zs, h', ?_, by simp [l3], fun j z q => ?_, p3⟩
    · unfold lcTurns
      have : nxt (.st ys) i h = some (some ys[i]) := by show some ys[i]? = _; rw [es]
      rw [this]
      simp only [e1, tYesZ_e, if_true, e2, e3, List.append_assoc, List.singleton_append]
    · cases j with
      | zero =>
        have : y = z := by simpa using q
        subst this
        exact r
      | succ j =>
        have := r3 j z (by simpa using q)
        rwa [show i + (j + 1) = i + 1 + j by omega]
theorem sl_l {xs : List Val} {lo hi : Option Int} {h : HH} : bSl (.lst xs) lo hi h = .ok (.lst (cutW xs lo hi)) h := rfl
end Z
namespace K03
open PySem PySem.Spec PyProof.Rows L2 Z
/-! ### names -/
def nmS (f k L : Nat) : Str := (⟨#[97 + (f + k) % 26]⟩ : Str) ++ timesS ⟨#[97 + f]⟩ L
theorem abc_list : (("abcdefghijklmnopqrstuvwxyz" : Str)).cps.toList = (List.range 26).map fun i => 97 + i := by decide +kernel
theorem abc_at {i : Nat} (l : i < 26) {h : HH} : bIx (.str "abcdefghijklmnopqrstuvwxyz") (.int (i : Nat)) h = .ok (.str ⟨#[97 + i]⟩) h := by
  show (if (("abcdefghijklmnopqrstuvwxyz" : Str)).length ≤ sizeLine then (match L2.atI (("abcdefghijklmnopqrstuvwxyz" : Str)).cps.toList (i : Nat) with
    | some c => Out.ok (Val.str ⟨#[c]⟩) h
    | none => .bad) else .bad) = _
  rw [if_pos (by decide +kernel), abc_list]
  have e : ((List.range 26).map fun i => 97 + i)[i]? = some (97 + i) := by
    rw [List.getElem?_map, List.getElem?_range l]; rfl
  have l2 : i < ((List.range 26).map fun i => 97 + i).length := (List.getElem?_eq_some_iff.mp e).1
  have : L2.atI ((List.range 26).map fun i => 97 + i) (i : Nat) = some (97 + i) := atI_nat e
  rw [this]
theorem let_ok : ∀ i : Fin 26, isLet (97 + i.val) = true := by decide +kernel
theorem nm_tl {f k L : Nat} : (nmS f k L).cps.toList = (97 + (f + k) % 26) :: (List.replicate L [97 + f]).flatten := by
  show TL.tl ((⟨#[97 + (f + k) % 26]⟩ : Str) ++ timesS ⟨#[97 + f]⟩ L) = _
  rw [TL.tl_append]
  rfl
theorem nm_len {f k L : Nat} : (nmS f k L).length = 1 + L := by
  show (nmS f k L).cps.size = _
  rw [← Array.length_toList, nm_tl, List.length_cons, rep_len]
  simp
  omega
theorem nm_mem {f k L : Nat} (hf : f < 26) : ∀ c ∈ (nmS f k L).cps.toList, 97 ≤ c ∧ c < 123 := by
  intro c hc
  rw [nm_tl] at hc
  rcases List.mem_cons.mp hc with rfl | hc
  · omega
  · obtain ⟨l, hl, hc⟩ := List.mem_flatten.mp hc
    have := List.eq_of_mem_replicate hl
    subst this
    have := List.mem_singleton.mp hc
    omega
theorem nm_name {f k L : Nat} (hf : f < 26) (hL : L < 8) : nameB (nmS f k L) = true := by
  have e1 : (Z.signs (nmS f k L)).all lt1 = (nmS f k L).cps.toList.all isLet := by
    unfold Z.signs
    rw [List.all_map]; rfl
  unfold nameB
  rw [e1, nm_len]
  have : (nmS f k L).cps.toList.all isLet = true := by
    rw [List.all_eq_true]
    intro c hc
    have := nm_mem hf c hc
    have q := let_ok ⟨c - 97, by omega⟩
    rw [show 97 + (c - 97) = c by omega] at q
    exact q
  rw [this]
  simp
  omega
theorem nm_fine {f k L : Nat} (hf : f < 26) (hL : L < 8) : fine 0 0 (.str (nmS f k L)) = true ∧ sz (.str (nmS f k L)) ≤ 82 := by
  refine ⟨?_, ?_⟩
  · show (PyData.strOk (nmS f k L) && decide ((nmS f k L).length ≤ 20)) = true
    rw [nm_len, Bool.and_eq_true, decide_eq_true_eq]
    refine ⟨?_, by omega⟩
    unfold PyData.strOk
    rw [Array.all_eq_true_iff_forall_mem]
    intro c hc
    have := nm_mem (k := k) (L := L) hf c (Array.mem_toList_iff.mpr hc)
    simp
    omega
  · show 10 * (nmS f k L).length + 2 ≤ 82
    rw [nm_len]
    omega
def nms (f L n : Nat) : List Val := (List.range n).map fun k => .str (nmS f k L)
/-- names that may stand -/
structure Nms (xs : List Val) : Prop where
  nm : ∀ w ∈ xs, isName w = true ∧ fine 0 0 w = true ∧ sz w ≤ 82
  nd : nodL xs = true
theorem nms_len {f L n : Nat} : (nms f L n).length = n := by simp [nms]
theorem nms_txts {f L : Nat} (l : List Nat) : txts (l.map fun k => Val.str (nmS f k L)) = some (l.map fun k => nmS f k L) := by
  induction l with
  | nil => rfl
  | cons k l ih =>
    show (txts (l.map fun k => Val.str (nmS f k L))).map _ = _
    rw [ih]; rfl
theorem nms_ok {f L n : Nat} (hf : f < 26) (hL : L < 8) (hn : n ≤ 26) : Nms (nms f L n) := by
  have h1 : ∀ w ∈ nms f L n, isName w = true ∧ fine 0 0 w = true ∧ sz w ≤ 82 := by
    intro w hw
    obtain ⟨k, _, rfl⟩ := List.mem_map.mp hw
    exact ⟨nm_name hf hL, nm_fine hf hL⟩
  refine ⟨h1, ?_⟩
  rw [← nod_eq (all_imp (fun w => name_str) (List.all_eq_true.mpr fun w hw => (h1 w hw).1))]
  unfold nodB nms
  rw [nms_txts]
  dsimp only
  rw [decide_eq_true_eq]
  have : ((List.range n).map fun k => Val.str (nmS f k L)).length = ((List.range n).map fun k => nmS f k L).length := by simp
  rw [this, ZS.dcnt_eq]
  show List.Pairwise _ _
  rw [List.pairwise_map]
  refine List.Pairwise.imp_of_mem (R := (· < ·)) (fun {a b} ha hb hab e => ?_) List.pairwise_lt_range
  have ha' := List.mem_range.mp ha
  have hb' := List.mem_range.mp hb
  have e2 := congrArg (fun z : Str => z.cps.toList) e
  rw [nm_tl, nm_tl] at e2
  have e3 := (List.cons.inj e2).1
  omega
/-- some of them -/
theorem nms_take {xs : List Val} (N : Nms xs) (j : Nat) : Nms (xs.take j) := by
  refine ⟨fun w hw => N.nm w (List.mem_of_mem_take hw), ?_⟩
  have s1 := all_imp (fun w => name_str) (List.all_eq_true.mpr fun w hw => (N.nm w hw).1)
  have s2 : (xs.take j).all isStr = true := List.all_eq_true.mpr fun w hw => List.all_eq_true.mp s1 w (List.mem_of_mem_take hw)
  have d := N.nd
  rw [← nod_eq s1] at d
  rw [← nod_eq s2]
  obtain ⟨ys, hy⟩ := txts_some s1
  obtain ⟨zs, hz⟩ := txts_some s2
  unfold nodB at d ⊢
  rw [hy] at d
  rw [hz]
  dsimp only at d ⊢
  rw [decide_eq_true_eq, txts_len hy, ZS.dcnt_eq] at d
  rw [decide_eq_true_eq, txts_len hz, ZS.dcnt_eq]
  have ex := txts_map hy
  have ez := txts_map hz
  have : zs = ys.take j := by
    rw [ex, ← List.map_take] at ez
    exact ((List.map_inj_right fun a b e => by cases e; rfl).mp ez).symm
  rw [this]
  exact d.sublist (List.take_sublist j ys)
theorem iRg1_ev {m : SE} {ro : En} {h : HH} {n : Nat} (e : m ro h = .ok (.int (n : Nat)) h) (l : n ≤ 1000) : iRgN 1 (aCons m aNil) ro h = .ok (.st (nums 0 n), (nums 0 n).length) h := by
  have ln : (nums 0 n).length = n := by simp [nums]
  rw [ln]
  simp -implicitDefEqProofs only [iRgN_e, aCons_e, e, aNil_e, ob_ok]
  rw [if_pos (show [Val.int (n : Int)].length = 1 from rfl), fRg1 l]
theorem nm_add {f k L : Nat} (hL : L < 8) {h : HH} : bAdd (.str ⟨#[97 + (f + k) % 26]⟩) (.str (timesS ⟨#[97 + f]⟩ L)) h = .ok (.str (nmS f k L)) h := by
  show (if (⟨#[97 + (f + k) % 26]⟩ : Str).length + (timesS ⟨#[97 + f]⟩ L).length ≤ sizeLine then Out.ok (Val.str (nmS f k L)) h else .bad) = _
  have e1 : (⟨#[97 + (f + k) % 26]⟩ : Str).length = 1 := rfl
  have e2 : (timesS ⟨#[97 + f]⟩ L).length = L := by
    show (List.replicate L [97 + f]).flatten.toArray.size = L
    rw [List.size_toArray, rep_len]; simp
  rw [e1, e2, if_pos (by have := sizeLine_eq; omega)]
theorem nm_mul {f L : Nat} (hL : L < 8) {h : HH} : bMulS (.str ⟨#[97 + f]⟩) (.int (L : Nat)) h = .ok (.str (timesS ⟨#[97 + f]⟩ L)) h := by
  show (if 0 ≤ (L : Int) ∧ (L : Int) ≤ 10000 ∧ (⟨#[97 + f]⟩ : Str).length ≤ 1000 then Out.ok (Val.str (timesS ⟨#[97 + f]⟩ (L : Int).toNat)) h else .bad) = _
  have e1 : (⟨#[97 + f]⟩ : Str).length = 1 := rfl
  rw [if_pos ⟨by omega, by omega, by omega⟩, Int.toNat_natCast]
theorem nms_map {f L n : Nat} : (nums 0 n).map (fun w => match w with | .int i => Val.str (nmS f i.toNat L) | w => w) = nms f L n := by
  unfold nums nms
  rw [List.map_map]
  refine List.map_congr_left fun k _ => ?_
  show Val.str (nmS f ((0 : Int) + (k : Nat)).toNat L) = _
  rw [Int.zero_add, Int.toNat_natCast]
theorem nms_lc {b n f L : Nat} {h : HH} (hf : f < 26) (hL : L < 8) (hn : n ≤ 26) : sLc (iRgN 1 (aCons (sVar 1) aNil)) (gNm 5) tYesZ (sBin bAdd (sBin bIx (sVar 2) (sBin bMod (sBin bAdd (sVar 3) (sVar 5)) (sC (.int 26)))) (sBin bMulS (sBin bIx (sVar 2) (sVar 3)) (sVar 4))) [5]
      [some (.ref b), some (.int (n : Nat)), some (.str "abcdefghijklmnopqrstuvwxyz"), some (.int (f : Nat)), some (.int (L : Nat)), none] h = .ok (.lst (nms f L n)) h := by
  rw [sLc_map (xs := nums 0 n) (f := fun w => match w with | .int i => .str (nmS f i.toNat L) | w => w) (iRg1_ev rfl (by omega)) fun w hw => ?_]
  · rw [nms_map]
  · obtain ⟨k, hk, rfl⟩ := List.mem_map.mp hw
    rw [Int.zero_add]
    have md : bMod (.int ((f : Int) + (k : Nat))) (.int 26) h = .ok (.int (((f : Int) + (k : Nat)) % 26)) h := mod_ii (by decide)
    have i1 : bIx (.str "abcdefghijklmnopqrstuvwxyz") (.int (((f : Int) + (k : Nat)) % 26)) h = .ok (.str ⟨#[97 + (f + k) % 26]⟩) h := by
      rw [show ((f : Int) + (k : Nat)) % 26 = (((f + k) % 26 : Nat) : Int) by push_cast; rfl]
      exact abc_at (Nat.mod_lt _ (by decide))
    have i2 := abc_at (i := f) (h := h) (by omega)
    have ml := nm_mul (f := f) (L := L) hL (h := h)
    have ad := nm_add (f := f) (k := k) (L := L) hL (h := h)
    simp [wipeN, md, i1, i2, ml, ad]
theorem ev_names {b c n : Nat} {h : HH} (B : BagK b c h) (hc : c ≤ 2 ^ 28) (hn : n ≤ 26) : ∃ xs h', F__law_names [.ref b, .int (n : Nat)] h = .ok (.lst xs) h' ∧ xs.length = n ∧ Nms xs ∧ Aft b (c + 2) h h' := by
  obtain ⟨v1, h1, t1, a1, b1, A1⟩ := ev_take (many := 26) B (by omega) (by decide) (by decide)
  obtain ⟨v2, h2, t2, a2, b2, A2⟩ := ev_take (many := 8) A1.bag (by omega) (by decide) (by decide)
  obtain ⟨f, rfl⟩ := Int.eq_ofNat_of_zero_le a1
  obtain ⟨L, rfl⟩ := Int.eq_ofNat_of_zero_le a2
  refine ⟨nms f L n, h2, ?_, nms_len, nms_ok (by omega) (by omega) hn, A1.trans A2⟩
  rw [e__law_names]
  have hc := nms_lc (b := b) (n := n) (f := f) (L := L) (h := h2) (by omega) (by omega) hn
  simp -implicitDefEqProofs [m__law_names, t1, t2, hc]
end K03
namespace K03
open PySem PySem.Spec PyProof.Rows L2 Z
/-! ### rows -/
theorem int_fine {n d : Nat} {i : Int} (h : i.natAbs ≤ 10 ^ 39 + n) : fine n d (.int i) = true := by
  have q : decide (i.natAbs ≤ 10 ^ 39 + n) = true := decide_eq_true h
  cases d <;> exact q
theorem ev_mkworth {b c : Nat} {h : HH} (B : BagK b c h) (hc : c ≤ 2 ^ 28) : ∃ (w : Int) (h' : HH), F__law_worth [.ref b] h = .ok (.int w) h' ∧ -1000000000000 ≤ w ∧ w ≤ 1000000000000 ∧ Aft b (c + 2) h h' := by
  obtain ⟨v1, h1, t1, a1, b1, A1⟩ := ev_take (many := 8) B (by omega) (by decide) (by decide)
  rw [e__law_worth]
  by_cases c1 : v1 < 5
  · obtain ⟨v2, h2, t2, a2, b2, A2⟩ := ev_take (many := 9) A1.bag (by omega) (by decide) (by decide)
    exact ⟨v2 - 3, h2, by simp [m__law_worth, t1, c1, t2], by omega, by omega, A1.trans A2⟩
  · by_cases c2 : v1 = 5
    · obtain ⟨v2, h2, t2, a2, b2, A2⟩ := ev_take (many := 4) A1.bag (by omega) (by decide) (by decide)
      obtain ⟨w, hw, q⟩ := ix_any (xs := [.int (10 ^ 12), .int (-(10 ^ 12)), .int (10 ^ 6), .int (-(10 ^ 6))]) (h := h2) a2 (by simpa using b2)
      have p12 : bPow (.int 10) (.int 12) h1 = .ok (.int (10 ^ 12)) h1 := pow_ii (n := 4) (j := 12) (by decide) (by decide)
      have p6 : bPow (.int 10) (.int 6) h1 = .ok (.int (10 ^ 6)) h1 := pow_ii (n := 4) (j := 6) (by decide) (by decide)
      obtain ⟨k, rfl, k0, k1⟩ : ∃ k : Int, w = .int k ∧ -1000000000000 ≤ k ∧ k ≤ 1000000000000 := by
        simp only [List.mem_cons, List.not_mem_nil, or_false] at hw
        rcases hw with rfl | rfl | rfl | rfl <;> exact ⟨_, rfl, by decide, by decide⟩
      simp at q
      exact ⟨k, h2, by simp [m__law_worth, t1, c2, p12, p6, fLst_ok, t2, q], k0, k1, A1.trans A2⟩
    · obtain ⟨v2, h2, t2, a2, b2, A2⟩ := ev_take (many := 2000001) A1.bag (by omega) (by decide) (by decide)
      exact ⟨v2 - 1000000, h2, by simp [m__law_worth, t1, c1, c2, t2], by omega, by omega, A1.trans A2⟩
def named : List Val := [.str "get", .str "set", .str "look", .str "change"]
/-- a named row's name is one of these -/
def Nd (names : List Val) (r : Val) : Prop := ∀ x y, r = .tup [.str x, y] → Val.str x ∈ named → y ∈ names
theorem nd_no {names : List Val} {x : Str} {y : Val} (h : x ∉ (["get", "set", "look", "change"] : List Str)) : Nd names (.tup [.str x, y]) := fun _ _ e m => by
  cases e
  simp only [named, List.mem_cons, List.not_mem_nil, or_false, Val.str.injEq] at m
  exact absurd (by simpa using m) h
/-- the names that a part's rows tell are of four -/
def Nd4 (w : Val) : Prop := ∃ names : List Val, names.length ≤ 4 ∧ ∀ a b rows, w = .tup [a, b, .tup rows] → ∀ r ∈ rows, Nd names r
/-- a row that may stand there -/
def Rw (at' n : Int) (called names : List Val) (r : Val) : Prop := Nd names r ∧ rowL r at' n called = true ∧ fine 0 1 r = true ∧ sz r ≤ 200
theorem str_fine {x : Str} (h : (PyData.strOk x && decide (x.length ≤ 8)) = true) : fine 0 0 (.str x) = true ∧ sz (.str x) ≤ 82 := by
  rw [Bool.and_eq_true, decide_eq_true_eq] at h
  refine ⟨?_, ?_⟩
  · show (PyData.strOk x && decide (x.length ≤ 20)) = true
    rw [h.1, Bool.true_and, decide_eq_true_eq]
    omega
  · show 10 * x.length + 2 ≤ 82
    omega
theorem two_fine {a b : Val} (h1 : fine 0 0 a = true ∧ sz a ≤ 82) (h2 : fine 0 0 b = true ∧ sz b ≤ 82) : fine 0 1 (.tup [a, b]) = true ∧ sz (.tup [a, b]) ≤ 200 := by
  refine ⟨fine_tup.mpr ⟨by simp, fun w hw => ?_⟩, ?_⟩
  · simp only [List.mem_cons, List.not_mem_nil, or_false] at hw
    rcases hw with rfl | rfl
    · exact h1.1
    · exact h2.1
  · show sz a + 2 + (sz b + 2 + 0) + 3 ≤ 200
    omega
theorem one_fine {a : Val} (h1 : fine 0 0 a = true ∧ sz a ≤ 82) : fine 0 1 (.tup [a]) = true ∧ sz (.tup [a]) ≤ 200 := by
  refine ⟨fine_tup.mpr ⟨by simp, fun w hw => ?_⟩, ?_⟩
  · rw [List.mem_singleton.mp hw]; exact h1.1
  · show sz a + 2 + 0 + 3 ≤ 200
    omega
theorem num_fine {i : Int} (h1 : -1000000000000 ≤ i) (h2 : i ≤ 1000000000000) : fine 0 0 (.int i) = true ∧ sz (.int i) ≤ 82 := by
  refine ⟨int_fine ?_, by show 60 ≤ 82; omega⟩
  have : i.natAbs ≤ 10 ^ 12 := by omega
  exact Nat.le_trans this (by decide)
theorem rowL_two (y : Str) (b : Val) (a n : Int) (called : List Val) : rowL (.tup [.str y, b]) a n called = (if y = "put" then (match b with | .int i => decide (-1000000000000 ≤ i) && decide (i ≤ 1000000000000) | _ => false)
      else if anyS ["go", "if", "try"] y = true then led y b a n
      else if anyS ["get", "set", "look", "change", "call"] y = true then (isName b && (!decide (y = "call") || called.any fun y => eqF y b)) else false) := rfl
theorem rw_put {a n : Int} {called names : List Val} {w : Int} (h1 : -1000000000000 ≤ w) (h2 : w ≤ 1000000000000) : Rw a n called names (.tup [.str "put", .int w]) := by
  have f := two_fine (str_fine (x := "put") (by decide +kernel)) (num_fine h1 h2)
  refine ⟨nd_no (by decide +kernel), ?_, f⟩
  rw [rowL_two, if_pos rfl]
  show (decide (-1000000000000 ≤ w) && decide (w ≤ 1000000000000)) = true
  rw [decide_eq_true h1, decide_eq_true h2]; rfl
theorem rw_named {a n : Int} {called names : List Val} {x b : Val} (hx : x ∈ named) (hb : isName b = true ∧ fine 0 0 b = true ∧ sz b ≤ 82) (hn : b ∈ names) : Rw a n called names (.tup [x, b]) := by
  have key : ∀ y : Str, ¬ y = "put" → anyS ["go", "if", "try"] y = false → anyS ["get", "set", "look", "change", "call"] y = true → ¬ y = "call" → rowL (.tup [.str y, b]) a n called = true := by
    intro y h1 h2 h3 h4
    show (if y = "put" then _ else if anyS ["go", "if", "try"] y = true then _ else if anyS ["get", "set", "look", "change", "call"] y = true then (isName b && (!decide (y = "call") || called.any fun z => eqF z b)) else false) = true
    rw [if_neg h1, h2, h3, hb.1, decide_eq_false h4]
    rfl
  simp only [named, List.mem_cons, List.not_mem_nil, or_false] at hx
  rcases hx with rfl | rfl | rfl | rfl <;>
    exact ⟨fun _ _ e _ => by cases e; exact hn, key _ (by decide +kernel) (by decide +kernel) (by decide +kernel) (by decide +kernel), two_fine (str_fine (by decide +kernel)) hb.2⟩
theorem rw_call {a n : Int} {called names : List Val} {b : Val} (hb : isName b = true ∧ fine 0 0 b = true ∧ sz b ≤ 82) (hm : b ∈ called) : Rw a n called names (.tup [.str "call", b]) := by
  refine ⟨nd_no (by decide +kernel), ?_, two_fine (str_fine (by decide +kernel)) hb.2⟩
  have e : (called.any fun z => eqF z b) = true := by
    refine List.any_eq_true.mpr ⟨b, hm, ?_⟩
    cases b with
    | str y => exact beq_self_eq_true y
    | _ => cases hb.1
  rw [rowL_two, if_neg (by decide +kernel), if_neg (by decide +kernel), if_pos (by decide +kernel), hb.1, e]
  simp
theorem rw_go {a n g : Int} {called names : List Val} {y : Str} (hy : y = ("go" : Str) ∨ y = ("if" : Str) ∨ (y = ("try" : Str) ∧ ¬ g = a + 1)) (h0 : 0 ≤ g) (h1 : g < n) (h2 : n ≤ 60) : Rw a n called names (.tup [.str y, .int g]) := by
  have key : ∀ y : Str, ¬ y = "put" → anyS ["go", "if", "try"] y = true → (!decide (y = "try") || !decide (g = a + 1)) = true → rowL (.tup [.str y, .int g]) a n called = true := by
    intro y c1 c2 c3
    show (if y = "put" then _ else if anyS ["go", "if", "try"] y = true then (decide (0 ≤ g) && (decide (g < n) && (!decide (y = "try") || !decide (g = a + 1)))) else _) = true
    rw [if_neg c1, if_pos c2, c3, decide_eq_true h0, decide_eq_true h1]
    rfl
  have f := num_fine (i := g) (by omega) (by omega)
  rcases hy with rfl | rfl | ⟨rfl, hg⟩
  · exact ⟨nd_no (by decide +kernel), key _ (by decide +kernel) (by decide +kernel) (by rw [decide_eq_false (by decide +kernel)]; rfl), two_fine (str_fine (by decide +kernel)) f⟩
  · exact ⟨nd_no (by decide +kernel), key _ (by decide +kernel) (by decide +kernel) (by rw [decide_eq_false (by decide +kernel)]; rfl), two_fine (str_fine (by decide +kernel)) f⟩
  · exact ⟨nd_no (by decide +kernel), key _ (by decide +kernel) (by decide +kernel) (by rw [decide_eq_false hg]; simp), two_fine (str_fine (by decide +kernel)) f⟩
theorem rw_alone {a n : Int} {called names : List Val} {x : Val} (hx : x ∈ ALONE.map Val.str) : Rw a n called names (.tup [x]) := by
  obtain ⟨y, hy, rfl⟩ := List.mem_map.mp hx
  have : ALONE.all (fun y => PyData.strOk y && decide (y.length ≤ 8)) = true := by decide +kernel
  refine ⟨fun _ _ e _ => (by cases e), ?_, one_fine (str_fine (List.all_eq_true.mp this y hy))⟩
  show anyS ALONE y = true
  rw [anyS_eq]
  exact List.any_eq_true.mpr ⟨y, hy, by simp⟩
theorem split_ev {h : HH} : mSplit (.str "add less times over same below twin swap away say back throw done lead turn") (.str " ") h = .ok (.lst (ALONE.map Val.str)) h := by
  rw [← split_alone]
  rfl
theorem ev_anyrow {b c : Nat} {h : HH} {a n : Nat} {called names : List Val} (B : BagK b c h) (hc : c ≤ 2 ^ 27) (hn : 1 ≤ n) (hn2 : n ≤ 60) (lc1 : 1 ≤ called.length) (lc2 : called.length ≤ 1000) (ln1 : 1 ≤ names.length) (ln2 : names.length ≤ 1000)
    (nc : Nms called) (nn : Nms names) : ∃ r h', F__law_any_row [.ref b, .int (a : Nat), .int (n : Nat), .lst called, .lst names] h = .ok r h' ∧ Rw (a : Nat) (n : Nat) called names r ∧ Aft b (c + 10) h h' := by
  obtain ⟨v1, h1, t1, a1, b1, A1⟩ := ev_take (many := 10) B (by omega) (by decide) (by decide)
  obtain ⟨g, h2, t2, a2, b2, A2⟩ := ev_take (many := (n : Nat)) A1.bag (by omega) (by omega) (by omega)
  have A := A1.trans A2
  have sp := split_ev (h := h)
  rw [e__law_any_row]
  by_cases w0 : v1 = 0
  · obtain ⟨w, h3, e3, k0, k1, A3⟩ := ev_mkworth A2.bag (by omega)
    refine ⟨_, h3, ?_, rw_put k0 k1, (A.trans A3).mono (by omega)⟩
    simp -implicitDefEqProofs [m__law_any_row, sp, t1, t2, w0, e3, fTup_ok]
  · by_cases w1 : v1 < 3
    · obtain ⟨v3, h3, t3, a3, b3, A3⟩ := ev_take (many := 4) A2.bag (by omega) (by decide) (by decide)
      obtain ⟨x, hx, q3⟩ := ix_any (xs := named) (h := h3) a3 (by simpa [named] using b3)
      obtain ⟨v4, h4, t4, a4, b4, A4⟩ := ev_take (many := (names.length : Nat)) A3.bag (by omega) (by omega) (by omega)
      obtain ⟨y, hy, q4⟩ := ix_any (xs := names) (h := h4) a4 b4
      refine ⟨_, h4, ?_, rw_named hx (nn.nm y hy) hy, ((A.trans A3).trans A4).mono (by omega)⟩
      unfold named at q3
      simp -implicitDefEqProofs [m__law_any_row, sp, t1, t2, w0, w1, fLst_ok, t3, q3, t4, q4, fTup_ok]
    · by_cases w3 : v1 = 3
      · obtain ⟨v4, h4, t4, a4, b4, A4⟩ := ev_take (many := (called.length : Nat)) A2.bag (by omega) (by omega) (by omega)
        obtain ⟨y, hy, q4⟩ := ix_any (xs := called) (h := h4) a4 b4
        refine ⟨_, h4, ?_, rw_call (nc.nm y hy) hy, (A.trans A4).mono (by omega)⟩
        simp -implicitDefEqProofs [m__law_any_row, sp, t1, t2, w3, t4, q4, fTup_ok]
      · by_cases w6 : v1 < 6
        · refine ⟨.tup [.str "go", .int g], h2, ?_, rw_go (.inl rfl) a2 b2 (by omega), A.mono (by omega)⟩
          simp -implicitDefEqProofs [m__law_any_row, sp, t1, t2, w0, w1, w3, w6, fTup_ok]
        · by_cases w7 : v1 = 6
          · refine ⟨.tup [.str "if", .int g], h2, ?_, rw_go (.inr (.inl rfl)) a2 b2 (by omega), A.mono (by omega)⟩
            simp -implicitDefEqProofs [m__law_any_row, sp, t1, t2, w7, fTup_ok]
          · have alone : (¬ (v1 = 7 ∧ ¬ g = (a : Int) + 1)) → ∃ r h', outOf (m__law_any_row [some (.ref b), some (.int (a : Nat)), some (.int (n : Nat)), some (.lst called), some (.lst names), none, none, none] h) = .ok r h' ∧ Rw (a : Nat) (n : Nat) called names r ∧ Aft b (c + 10) h h' := by
              intro hno
              obtain ⟨v4, h4, t4, a4, b4, A4⟩ := ev_take (many := 15) A2.bag (by omega) (by decide) (by decide)
              obtain ⟨y, hy, q4⟩ := ix_any (xs := ALONE.map Val.str) (h := h4) a4 (by rw [List.length_map]; exact b4)
              refine ⟨_, h4, ?_, rw_alone hy, (A.trans A4).mono (by omega)⟩
              by_cases w8 : v1 = 7
              · have hg : g = (a : Int) + 1 := Classical.byContradiction fun z => hno ⟨w8, z⟩
                simp -implicitDefEqProofs [m__law_any_row, sp, t1, t2, w8, hg, t4, q4, fTup_ok]
              · simp -implicitDefEqProofs [m__law_any_row, sp, t1, t2, w0, w1, w3, w6, w7, w8, t4, q4, fTup_ok]
            by_cases w8 : v1 = 7 ∧ ¬ g = (a : Int) + 1
            · refine ⟨.tup [.str "try", .int g], h2, ?_, rw_go (.inr (.inr ⟨rfl, w8.2⟩)) a2 b2 (by omega), A.mono (by omega)⟩
              simp -implicitDefEqProofs [m__law_any_row, sp, t1, t2, w8.1, w8.2, fTup_ok]
            · exact alone w8
end K03
namespace K03
open PySem PySem.Spec PyProof.Rows L2 Z
theorem sLc_eq {mi : SI} {g : GM} {t : En → M Bool} {m : SE} {own : List Nat} {ro : En} {h h1 : HH} {x : Itm} {k : Nat} (e : mi ro h = .ok (x, k) h1) : sLc mi g t m own ro h = obind (lcTurns g t m (wipeN ro own) x k 0 [] h1) fun ys => ret (.lst ys) := by
  show obind (mi ro h) _ = _
  rw [e]
  rfl
/-! ### programs -/
theorem rowsOf_all (f : Val → Int → Bool) : ∀ (rows : List Val) (k : Nat), (∀ j r, rows[j]? = some r → f r ((k + j : Nat) : Int) = true) → ((prs k rows).map fun z => match z with
  | .tup [.int i, r] => f r i
  | _ => false).all id = true
  | [], _, _ => rfl
  | r :: rows, k, h => by
    show (f r ((k : Nat) : Int) && ((prs (k + 1) rows).map _).all id) = true
    have h0 := h 0 r rfl
    rw [Nat.add_zero] at h0
    rw [h0, Bool.true_and]
    exact rowsOf_all f rows (k + 1) fun j r' e => by
      have := h (j + 1) r' (by simpa using e)
      rwa [show k + 1 + j = k + (j + 1) by omega]
/-- a good part -/
structure Gd (called : List Val) (nm w : Val) : Prop where
  sh : ∃ b c, w = .tup [nm, b, c]
  ok : partL called w = true
  fn : fine 0 3 w = true
  sm : sz w ≤ 13000
  nd4 : Nd4 w
theorem szs_le {m : Nat} : ∀ {xs : List Val}, (∀ w ∈ xs, sz w ≤ m) → szs xs ≤ xs.length * (m + 2)
  | [], _ => Nat.zero_le _
  | x :: xs, h => by
    have := h x List.mem_cons_self
    have := szs_le (xs := xs) fun w hw => h w (List.mem_cons_of_mem _ hw)
    rw [List.length_cons, Nat.succ_mul]
    show sz x + 2 + szs xs ≤ _
    omega
theorem gd_mk {called names ns rows : List Val} {nm : Val} {n : Nat} (hn : isName nm = true ∧ fine 0 0 nm = true ∧ sz nm ≤ 82) (N : Nms ns) (l3 : ns.length ≤ 3) (lr : rows.length = n) (n1 : 1 ≤ n) (n2 : n ≤ 60) (ln4 : names.length ≤ 4) (hr : ∀ j r, rows[j]? = some r → Rw (j : Nat) (n : Nat) called names r) : Gd called nm (.tup [nm, .tup ns, .tup rows]) := by
  have mem : ∀ r ∈ rows, fine 0 1 r = true ∧ sz r ≤ 200 := by
    intro r hm
    obtain ⟨j, hj, rfl⟩ := List.getElem_of_mem hm
    exact (hr j _ (List.getElem?_eq_getElem hj)).2.2
  refine ⟨⟨_, _, rfl⟩, ?_, ?_, ?_, ⟨names, ln4, fun a b rs e r hr' => by
    cases e
    obtain ⟨j, hj, rfl⟩ := List.getElem_of_mem hr'
    exact (hr j _ (List.getElem?_eq_getElem hj)).1⟩⟩
  · show (namesL (.tup ns) && (rowsL (.tup rows) && (FL called (.tup [nm, .tup ns, .tup rows])).all id)) = true
    have e1 : namesL (.tup ns) = true := by
      show (decide (((ns.length : Nat) : Int) ≤ 3) && (ns.all isName && nodL ns)) = true
      rw [decide_eq_true (by omega), N.nd, List.all_eq_true.mpr fun w hw => (N.nm w hw).1]; rfl
    have e2 : rowsL (.tup rows) = true := by
      show (decide ((0 : Int) < ((rows.length : Nat) : Int)) && decide (((rows.length : Nat) : Int) < 61)) = true
      rw [decide_eq_true (by omega), decide_eq_true (by omega)]; rfl
    have e3 : (FL called (.tup [nm, .tup ns, .tup rows])).all id = true := by
      show (rowsOf (fun r i => rowL r i (rows.length : Nat) called) rows).all id = true
      unfold rowsOf
      refine rowsOf_all _ rows 0 fun j r e => ?_
      rw [Nat.zero_add, lr]
      exact (hr j r e).2.1
    rw [e1, e2, e3]; rfl
  · refine fine_tup.mpr ⟨by simp, fun w hw => ?_⟩
    simp only [List.mem_cons, List.not_mem_nil, or_false] at hw
    rcases hw with rfl | rfl | rfl
    · exact fine_mono (by omega) 0 2 _ (by omega) hn.2.1
    · exact fine_tup.mpr ⟨by omega, fun w hw => fine_mono (by omega) 0 1 _ (by omega) (N.nm w hw).2.1⟩
    · exact fine_tup.mpr ⟨by omega, fun w hw => (mem w hw).1⟩
  · show sz nm + 2 + (szs ns + 3 + 2 + (szs rows + 3 + 2 + 0)) + 3 ≤ 13000
    have h1 := szs_le (m := 82) fun w hw => (N.nm w hw).2.2
    have h2 := szs_le (m := 200) fun w hw => (mem w hw).2
    have h3 : ns.length * (82 + 2) ≤ 3 * (82 + 2) := Nat.mul_le_mul_right _ l3
    have h4 : rows.length * (200 + 2) ≤ 60 * (200 + 2) := Nat.mul_le_mul_right _ (by omega)
    have := hn.2.2
    omega
def tk (n : Int) : SE := sCall F__law_take 2 0 2 (fun ws _ => ws) (aCons (sVar 0) (aCons (sC (.int n)) aNil)) aNil
theorem tk_e {n : Int} {ro : En} {h : HH} {b : Nat} (e : ro[0]? = some (some (.ref b))) : tk n ro h = F__law_take [.ref b, .int n] h := by
  unfold tk
  simp [sVar_e e]
def rowE : SE := sCall F__law_any_row 5 0 5 (fun ws _ => ws) (aCons (sVar 0) (aCons (sVar 8) (aCons (sVar 6) (aCons (sVar 2) (aCons (sVar 3) aNil))))) aNil
theorem rows_lc {b c n : Nat} {h : HH} {called names : List Val} {gr q : Val} {x5 : Option Val} (B : BagK b c h) (hc : c ≤ 2 ^ 26) (hn : 1 ≤ n) (hn2 : n ≤ 60) (lc1 : 1 ≤ called.length) (lc2 : called.length ≤ 1000) (ln1 : 1 ≤ names.length) (ln2 : names.length ≤ 1000)
    (nc : Nms called) (nn : Nms names) (x7 x8 : Option Val) : ∃ rows h', sLc (iRgN 1 (aCons (sVar 6) aNil)) (gNm 8) tYesZ rowE [8] [some (.ref b), some gr, some (.lst called), some (.lst names), some q, x5, some (.int (n : Nat)), x7, x8] h = .ok (.lst rows) h' ∧ rows.length = n ∧ (∀ j r, rows[j]? = some r → Rw (j : Nat) (n : Nat) called names r) ∧ Aft b (c + 10 * n) h h' := by
  have rn : iRgN 1 (aCons (sVar 6) aNil) [some (.ref b), some gr, some (.lst called), some (.lst names), some q, x5, some (.int (n : Nat)), x7, x8] h = .ok (.st (nums 0 n), (nums 0 n).length) h := iRg1_ev rfl (by omega)
  have ln : (nums 0 n).length = n := by simp [nums]
  obtain ⟨zs, h', e, lz, hz, p1, p2⟩ := lc_draw (g := gNm 8) (m := rowE) (ro := [some (.ref b), some gr, some (.lst called), some (.lst names), some q, x5, some (.int (n : Nat)), x7, none]) (ys := nums 0 n) (fun i g => Kp b h g ∧ BagK b (c + 10 * i) g) (fun i r => Rw (i : Nat) (n : Nat) called names r)
    (fun i w g e ⟨p1, p2⟩ => by
      have li : i < n := by have := (List.getElem?_eq_some_iff.mp e).1; omega
      rw [nums_get li] at e
      cases e
      obtain ⟨r, g', e1, r1, A1⟩ := ev_anyrow (a := i) (n := n) (called := called) (names := names) p2 (by omega) hn hn2 lc1 lc2 ln1 ln2 nc nn
      refine ⟨_, r, g', rfl, ?_, r1, p1.trans A1.kp, A1.bag.mono (by omega)⟩
      rw [Int.zero_add]
      simp -implicitDefEqProofs [rowE, e1])
    n 0 [] h (by omega) ⟨Kp.refl b h, by simpa using B⟩
  refine ⟨zs, h', ?_, lz, fun j r e => by simpa using hz j r e, ⟨p1, by rw [ln] at p2; exact p2⟩⟩
  rw [sLc_eq rn, ln]
  have e' : lcTurns (gNm 8) tYesZ rowE (wipeN [some (.ref b), some gr, some (.lst called), some (.lst names), some q, x5, some (.int (n : Nat)), x7, x8] [8]) (.st (nums 0 n)) n 0 [] h = .ok ([] ++ zs) h' := e
  rw [e']
  simp only [ob_ok, ret_e, List.nil_append]
def pbody : SS := (nSeq (nSet 6 (sBin bIx (sArgs fLst (aCons (sBin bAdd (sC (.int 1)) (tk 12)) (aCons (sC (.int 60)) aNil))) (sArgs fInt (aCons (sBin bEq (sVar 1) (sC (.int 7))) aNil)))) (nSeq (nSet 7 (sArgs fTpl (aCons (sLc (iRgN 1 (aCons (sVar 6) aNil)) (gNm 8) tYesZ rowE [8]) aNil))) (nSeq (nExpr (sMtL mApp (sVar 4) (aCons (sArgs fTup (aCons (sVar 5) (aCons (sArgs fTpl (aCons (sSl (sVar 3) oNone (oSome (tk 4))) aNil)) (aCons (sVar 7) aNil)))) aNil))) nNext)))
theorem fint_b {p : Bool} {h : HH} : fInt [.bl p] h = .ok (.int (if p = true then 1 else 0)) h := rfl
theorem part_turn {b c p : Nat} {h : HH} {called names ps : List Val} {gr : Int} {nm : Val} (x6 x7 x8 : Option Val) (B : BagK b c h) (hc : c ≤ 2 ^ 25) (bp : b ≠ p) (e1 : h[p]? = some (.lst ps)) (lp : ps.length ≤ 900) (lc1 : 1 ≤ called.length) (lc2 : called.length ≤ 1000) (ln1 : 1 ≤ names.length) (ln2 : names.length ≤ 4)
    (nc : Nms called) (nn : Nms names) (hnm : nm ∈ called) : ∃ w y6 y7 h', pbody [some (.ref b), some (.int gr), some (.lst called), some (.lst names), some (.ref p), some nm, x6, x7, x8] h = .go .nx [some (.ref b), some (.int gr), some (.lst called), some (.lst names), some (.ref p), some nm, y6, y7, x8] h' ∧
      Gd called nm w ∧ h'[p]? = some (.lst (ps ++ [w])) ∧ BagK b (c + 1000) h' ∧ h.length ≤ h'.length ∧ ∀ i, i < h.length → i ≠ b → i ≠ p → h'[i]? = h[i]? := by
  have hp : p < h.length := (List.getElem?_eq_some_iff.mp e1).1
  obtain ⟨v1, h1, t1, a1, b1, A1⟩ := ev_take (many := 12) B (by omega) (by decide) (by decide)
  obtain ⟨n, n1, n2, q1⟩ : ∃ n : Nat, 1 ≤ n ∧ n ≤ 60 ∧ bIx (.lst [.int (1 + v1), .int 60]) (.int (if decide (gr = 7) = true then 1 else 0)) h1 = .ok (.int (n : Nat)) h1 := by
    by_cases cg : gr = 7
    · refine ⟨60, by omega, by omega, ?_⟩
      rw [decide_eq_true cg]
      exact ix_l (i := 1) rfl
    · obtain ⟨m, rfl⟩ := Int.eq_ofNat_of_zero_le a1
      refine ⟨1 + m, by omega, by omega, ?_⟩
      rw [decide_eq_false cg]
      exact ix_l (i := 0) rfl
  obtain ⟨rows, h2, e2, lr, hr, A2⟩ := rows_lc (gr := .int gr) (q := .ref p) (x5 := some nm) (n := n) A1.bag (by omega) n1 n2 lc1 lc2 ln1 (by omega) nc nn x7 x8
  obtain ⟨v3, h3, t3, a3, b3, A3⟩ := ev_take (many := 4) A2.bag (by omega) (by decide) (by decide)
  obtain ⟨m, rfl⟩ := Int.eq_ofNat_of_zero_le a3
  have A := (A1.trans A2).trans A3
  have f2 : h2[p]? = some (.lst ps) := ((A1.trans A2).kp.2 p hp (Ne.symm bp)).trans e1
  have f3 : h3[p]? = some (.lst ps) := (A.kp.2 p hp (Ne.symm bp)).trans e1
  obtain ⟨j, hj, cu⟩ : ∃ j, j ≤ 3 ∧ cutW names none (some ((m : Nat) : Int)) = names.take j := by
    by_cases z : m ≤ names.length
    · exact ⟨m, by omega, cutW_to z⟩
    · refine ⟨m, by omega, ?_⟩
      have s : HT.sIx names.length names.length (some ((m : Nat) : Int)) = names.length := by
        rw [HT.sIx_nat]; omega
      show (names.drop (HT.sIx names.length 0 none)).take (HT.sIx names.length names.length (some ((m : Nat) : Int)) - HT.sIx names.length 0 none) = _
      rw [s]
      show (names.drop 0).take (names.length - 0) = _
      rw [List.drop_zero, Nat.sub_zero, List.take_of_length_le (Nat.le_refl _), List.take_of_length_le (by omega)]
  have ap := app_l (y := .tup [nm, .tup (names.take j), .tup rows]) f3 (by omega)
  refine ⟨.tup [nm, .tup (names.take j), .tup rows], some (.int (n : Nat)), some (.tup rows), h3.set p (.lst (ps ++ [.tup [nm, .tup (names.take j), .tup rows]])), ?_, gd_mk (nc.nm nm hnm) (nms_take nn j) (by rw [List.length_take]; omega) lr n1 n2 (by omega) hr, set_get f3, ?_, ?_, ?_⟩
  · simp -implicitDefEqProofs only [pbody, nSeq_e, nSet_e, sBin_e, sArgs_e, aCons_e, sC_e, aNil_e, ob_ok, tk_e (show ([some (.ref b), some (.int gr), some (.lst called), some (.lst names), some (.ref p), some nm, x6, x7, x8] : En)[0]? = some (some (.ref b)) from rfl), t1, add_ii, fLst_ok (xs := [.int (1 + v1), .int 60]) (by simp), sVar_1, eq_ii, fint_b, q1, sb_ok, sq_nx, List.set_cons_zero, List.set_cons_succ, e2, fTpl_l,
      nExpr_e, sMtL_e, sVar_s, sVar_0, mtL_r f2, sSl_e, oNone_e, oSome_e, tk_e (show ([some (.ref b), some (.int gr), some (.lst called), some (.lst names), some (.ref p), some nm, some (.int (n : Nat)), some (.tup rows), x8] : En)[0]? = some (some (.ref b)) from rfl), t3, unI_i, sl_l, cu, fTup_ok (xs := [nm, .tup (names.take j), .tup rows]) (by simp), ap, nNext_e]
  · obtain ⟨f, l, s, e, z⟩ := A.bag
    refine BagK.mono (c := c + 1 + 10 * n + 1) ⟨f, l, s, ?_, z⟩ (by omega)
    rw [List.getElem?_set_ne (Ne.symm bp)]; exact e
  · simp; exact A.kp.1
  · intro i hi nb np
    rw [List.getElem?_set_ne (Ne.symm np)]
    exact A.kp.2 i hi nb
end K03
namespace K03
open PySem PySem.Spec PyProof.Rows L2 Z
def PIv (b c p : Nat) (h0 : HH) (gr : Int) (called names : List Val) (i : Nat) (ro : En) (h : HH) : Prop := ∃ (x5 x6 x7 x8 : Option Val) (ps : List Val), ro = [some (.ref b), some (.int gr), some (.lst called), some (.lst names), some (.ref p), x5, x6, x7, x8] ∧
  h[p]? = some (.lst ps) ∧ ps.length = i ∧ (∀ (j : Nat) (w : Val), ps[j]? = some w → ∃ nm, called[j]? = some nm ∧ Gd called nm w) ∧ BagK b (c + 1000 * i) h ∧ h0.length ≤ h.length ∧ ∀ j, j < h0.length → j ≠ b → h[j]? = h0[j]?
theorem prog_turn {b c p : Nat} {h0 : HH} {gr : Int} {called names : List Val} (hc : c ≤ 2 ^ 24) (bp : b ≠ p) (p0 : h0.length ≤ p) (lc2 : called.length ≤ 800) (ln1 : 1 ≤ names.length) (ln2 : names.length ≤ 4) (nc : Nms called) (nn : Nms names) :
    ∀ i ro h, PIv b c p h0 gr called names i ro h → i < called.length → ∃ w ro1 h1 ro2 h2, nxt (.st called) i h = some (some w) ∧ gNm 5 w ro h = .go .nx ro1 h1 ∧ pbody ro1 h1 = .go .nx ro2 h2 ∧ PIv b c p h0 gr called names (i + 1) ro2 h2 := by
  rintro i ro h ⟨x5, x6, x7, x8, ps, rfl, e1, l1, gd, B, kl, kk⟩ hi
  have hp : p < h.length := (List.getElem?_eq_some_iff.mp e1).1
  obtain ⟨w, y6, y7, h', e2, g2, f2, B2, l2, k2⟩ := part_turn (gr := gr) (nm := called[i]) x6 x7 x8 B (by omega) bp e1 (by omega) (by omega) (by omega) ln1 ln2 nc nn (List.getElem_mem hi)
  refine ⟨called[i], _, h, _, h', ?_, rfl, e2, ⟨_, _, _, _, ps ++ [w], rfl, f2, by simp [l1], ?_, B2.mono (by omega), by omega, ?_⟩⟩
  · show some called[i]? = _
    rw [List.getElem?_eq_getElem hi]
  · intro j v hv
    by_cases lj : j < ps.length
    · rw [List.getElem?_append_left lj] at hv
      exact gd j v hv
    · have lj2 : j < (ps ++ [w]).length := (List.getElem?_eq_some_iff.mp hv).1
      rw [List.length_append, List.length_singleton] at lj2
      have : j = ps.length := by omega
      subst this
      rw [List.getElem?_concat_length] at hv
      cases hv
      exact ⟨called[i], by rw [l1, List.getElem?_eq_getElem hi], g2⟩
  · intro j hj nj
    rw [k2 j (by omega) nj (by omega)]
    exact kk j hj nj
/-- a good program -/
structure Gpr (ps : List Val) : Prop where
  ok : progB (.tup ps) = true
  fn : fine 0 4 (.tup ps) = true
  sm : sz (.tup ps) ≤ 110000
  nd4 : ∀ w ∈ ps, Nd4 w
theorem gpr_mk {called ps : List Val} (nc : Nms called) (l1 : 1 ≤ called.length) (l8 : called.length ≤ 8) (lp : ps.length = called.length) (gd : ∀ (j : Nat) (w : Val), ps[j]? = some w → ∃ nm, called[j]? = some nm ∧ Gd called nm w) : Gpr ps := by
  have hd : ps.map hd0 = called := by
    refine List.ext_getElem? fun j => ?_
    rw [List.getElem?_map]
    cases e : ps[j]? with
    | none =>
      have := List.getElem?_eq_none_iff.mp e
      rw [List.getElem?_eq_none (by omega)]; rfl
    | some w =>
      obtain ⟨nm, e2, g⟩ := gd j w e
      obtain ⟨b, c, rfl⟩ := g.sh
      rw [e2]; rfl
  have mem : ∀ w ∈ ps, ∃ nm ∈ called, Gd called nm w := by
    intro w hw
    obtain ⟨j, hj, rfl⟩ := List.getElem_of_mem hw
    obtain ⟨nm, e2, g⟩ := gd j _ (List.getElem?_eq_getElem hj)
    exact ⟨nm, List.mem_of_getElem? e2, g⟩
  refine ⟨?_, ?_, ?_, fun w hw => (mem w hw).choose_spec.2.nd4⟩
  · rw [prog_eq]
    show (decide ((1 : Int) ≤ ((ps.length : Nat) : Int)) && (decide (((ps.length : Nat) : Int) < 9) && (ps.all headL && (nodL (ps.map hd0) && ps.all (partL (ps.map hd0)))))) = true
    have h1 : ps.all headL = true := by
      rw [List.all_eq_true]
      intro w hw
      obtain ⟨nm, hm, g⟩ := mem w hw
      obtain ⟨b, c, rfl⟩ := g.sh
      exact (nc.nm nm hm).1
    have h2 : ps.all (partL called) = true := by
      rw [List.all_eq_true]
      intro w hw
      obtain ⟨nm, hm, g⟩ := mem w hw
      exact g.ok
    rw [hd, h1, h2, nc.nd, decide_eq_true (by omega), decide_eq_true (by omega)]; rfl
  · refine fine_tup.mpr ⟨by omega, fun w hw => ?_⟩
    obtain ⟨nm, hm, g⟩ := mem w hw
    exact g.fn
  · show szs ps + 3 ≤ 110000
    have := szs_le (m := 13000) fun w hw => by
      obtain ⟨nm, hm, g⟩ := mem w hw
      exact g.sm
    have : ps.length * (13000 + 2) ≤ 8 * (13000 + 2) := Nat.mul_le_mul_right _ (by omega)
    omega
theorem ev_mkprog {b c : Nat} {h : HH} (B : BagK b c h) (hc : c ≤ 2 ^ 23) : ∃ ps h', F__law_any_program [.ref b] h = .ok (.tup ps) h' ∧ Gpr ps ∧ Aft b (c + 9000) h h' := by
  obtain ⟨gr, h1, t1, a1, b1, A1⟩ := ev_take (many := 8) B (by omega) (by decide) (by decide)
  obtain ⟨v2, h2, t2, a2, b2, A2⟩ := ev_take (many := 4) A1.bag (by omega) (by decide) (by decide)
  obtain ⟨n, n1, n2, q1⟩ : ∃ n : Nat, 1 ≤ n ∧ n ≤ 8 ∧ bIx (.lst [.int (1 + v2), .int 8]) (.int (if decide (gr = 6) = true then 1 else 0)) h2 = .ok (.int (n : Nat)) h2 := by
    by_cases cg : gr = 6
    · refine ⟨8, by omega, by omega, ?_⟩
      rw [decide_eq_true cg]
      exact ix_l (i := 1) rfl
    · obtain ⟨m, rfl⟩ := Int.eq_ofNat_of_zero_le a2
      refine ⟨1 + m, by omega, by omega, ?_⟩
      rw [decide_eq_false cg]
      exact ix_l (i := 0) rfl
  obtain ⟨called, h3, e3, lc, nc, A3⟩ := ev_names (n := n) A2.bag (by omega) (by omega)
  obtain ⟨names, h4, e4, ln, nn, A4⟩ := ev_names (n := 4) A3.bag (by omega) (by omega)
  have A := ((A1.trans A2).trans A3).trans A4
  have hb := B.lt
  have hk := A.kp.1
  have n5 : fNew [] h4 = .ok (.ref h4.length) (h4 ++ [.lst []]) := fNew_ok (by simp)
  generalize eh5 : h4 ++ [Ob.lst []] = h5 at n5
  have l5 : h5.length = h4.length + 1 := by rw [← eh5]; simp
  have g5 : h5[h4.length]? = some (.lst []) := by rw [← eh5, List.getElem?_concat_length]
  have k5 : ∀ j, j < h4.length → h5[j]? = h4[j]? := fun j hj => by rw [← eh5, List.getElem?_append_left hj]
  have B5 : BagK b (c + 6) h5 := by
    obtain ⟨f, l, s, e, z⟩ := A.bag
    refine BagK.mono (c := c + 1 + 1 + 2 + 2) ⟨f, l, s, ?_, z⟩ (by omega)
    rw [k5 b (by omega)]; exact e
  obtain ⟨ro', h', el, x5, x6, x7, x8, ps, rfl, e1, z1, z2, z3, z4, z5⟩ := turns_inv (g := gNm 5) (body := pbody) (x := .st called) (n := called.length) (PIv b (c + 6) h4.length h gr called names) (prog_turn (by omega) (by omega) (by omega) (by omega) (by omega) (by omega) nc nn)
    (fun ro g _ => by show some called[called.length]? = _; simp) called.length 0 [some (.ref b), some (.int gr), some (.lst called), some (.lst names), some (.ref h4.length), none, none, none, none] h5 (by omega)
    ⟨none, none, none, none, [], rfl, g5, rfl, by simp, by simpa using B5, by omega, fun j hj nj => (k5 j (by omega)).trans (A.kp.2 j hj nj)⟩
  refine ⟨ps, h', ?_, gpr_mk nc (by omega) (by omega) z1 z2, ⟨⟨z4, z5⟩, z3.mono (by omega)⟩⟩
  rw [e__law_any_program]
  unfold pbody tk rowE at el
  have e4' : F__law_names [.ref b, .int 4] h3 = .ok (.lst names) h4 := e4
  simp -implicitDefEqProofs only [m__law_any_program, nSeq_e, nSet_e, sArgs_e, aCons_e, sC_e, aNil_e, ob_ok, sCall_e, sVar_0, List.length_cons, List.length_nil, if_true, and_self, t1, sb_ok, sq_nx, List.set_cons_zero, List.set_cons_succ, sBin_e, t2, add_ii, fLst_ok (xs := [.int (1 + v2), .int 8]) (by simp), sVar_1, eq_ii, fint_b, q1, e3, e4', n5,
    nFor_e, iVal_e, sVar_s, itmV_lst, el, nRet_e, tpl_r e1, sq_ret, outOf_ret]
/-! ### right -/
end K03
namespace K03
open PySem PySem.Spec PyProof.Rows L2 Z
theorem ev_bag {ns : List Int} {i : Nat} {h : HH} (hi : i < 8) : ∃ h', F__law_bag [.scr ns, .int (i : Nat)] h = .ok (.ref h.length) h' ∧ BagK h.length 0 h' ∧ h.length ≤ h'.length := by
  rw [e__law_bag]
  have ln : fLen [.scr ns] h = .ok (.int (ns.length : Nat)) h := by
    show Out.ok (Val.int (((ns.map Val.int).length : Nat) : Int)) h = _
    rw [List.length_map]
  have pw : bPow (.int 10) (.int 18) h = .ok (.int (10 ^ 18)) h := pow_ii (n := 4) (j := 18) (by decide) (by decide)
  have m2 : bMul (.int 104729) (.int (i : Nat)) h = .ok (.int (104729 * (i : Nat))) h := mul_ii (.inl ⟨by omega, by omega⟩)
  have core : ∀ cell : Int, ∃ h', outOf (sq (nSet 3 (sArgs fAbs (aCons (sVar 2) aNil)) [some (.scr ns), some (.int (i : Nat)), some (.int cell), none] h) (nSeq (nIf (cBin (bOrd fun i j => decide (i < j)) (sVar 3) (sBin bPow (sC (.int 10)) (sC (.int 18)))) (nSeq (nSet 3 (sC (.int 0))) nNext) nNext)
      (nSeq (nRet (sArgs fNew (aCons (sVar 3) (aCons (sBin bAdd (sBin bAdd (sBin bMod (sVar 2) (sC (.int 1000000000000000003))) (sBin bMul (sC (.int 104729)) (sVar 1))) (sC (.int 17))) (aCons (sC (.int 0)) aNil))))) nNext))) = .ok (.ref h.length) h' ∧ BagK h.length 0 h' ∧ h.length ≤ h'.length := by
    intro cell
    generalize ef : (if cell < 0 then -cell else cell) = far
    have f0 : 0 ≤ far := by rw [← ef]; split <;> omega
    have ab : fAbs [.int cell] h = .ok (.int far) h := by rw [← ef]; rfl
    have md : bMod (.int cell) (.int 1000000000000000003) h = .ok (.int (cell % 1000000000000000003)) h := mod_ii (by omega)
    generalize eg : (if far < 10 ^ 18 then (0 : Int) else far) = g
    have g0 : 0 ≤ g := by rw [← eg]; split <;> omega
    generalize el : cell % 1000000000000000003 + 104729 * (i : Nat) + 17 = low
    have l0 : 0 ≤ low ∧ low ≤ 2 ^ 61 := by
      have := Int.emod_nonneg cell (show (1000000000000000003 : Int) ≠ 0 by decide)
      have := Int.emod_lt_of_pos cell (show (0 : Int) < 1000000000000000003 by decide)
      omega
    have nw : fNew [.int g, .int low, .int 0] h = .ok (.ref h.length) (h ++ [.lst [.int g, .int low, .int 0]]) := fNew_ok (by simp)
    refine ⟨h ++ [.lst [.int g, .int low, .int 0]], ?_, ⟨g, low, 0, by rw [List.getElem?_concat_length], g0, l0.1, l0.2, by omega, by omega⟩, by simp⟩
    by_cases c : far < 10 ^ 18
    · rw [if_pos c] at eg
      subst eg
      simp -implicitDefEqProofs only [nSet_e, sArgs_e, aCons_e, sVar_2, aNil_e, ob_ok, ab, sb_ok, List.set_cons_succ, List.set_cons_zero, sq_nx, nSeq_e, nIf_e, cBin_e, sVar_s, sVar_0, sBin_e, sC_e, pw, bOrd_e, unB_bl, decide_eq_true c, if_true, nNext_e, nRet_e, md, sVar_1, m2, add_ii, el, nw, sq_ret, outOf_ret]
    · rw [if_neg c] at eg
      subst eg
      simp -implicitDefEqProofs only [nSet_e, sArgs_e, aCons_e, sVar_2, aNil_e, ob_ok, ab, sb_ok, List.set_cons_succ, List.set_cons_zero, sq_nx, nSeq_e, nIf_e, cBin_e, sVar_s, sVar_0, sBin_e, sC_e, pw, bOrd_e, unB_bl, decide_eq_false c, Bool.false_eq_true, if_false, nNext_e, nRet_e, md, sVar_1, m2, add_ii, el, nw, sq_ret, outOf_ret]
  by_cases c : i < ns.length
  · obtain ⟨h', q⟩ := core ns[i]
    refine ⟨h', ?_⟩
    have ix : bIx (.scr ns) (.int (i : Nat)) h = .ok (.int ns[i]) h := by
      show (match L2.atI (ns.map Val.int) (i : Nat) with | some w => Out.ok w h | none => .bad) = _
      have : L2.atI (ns.map Val.int) ((i : Nat) : Int) = some (.int ns[i]) := atI_nat (by rw [List.getElem?_map, List.getElem?_eq_getElem c]; rfl)
      rw [this]
    have cc : ((i : Nat) : Int) < (ns.length : Nat) := by omega
    simp -implicitDefEqProofs [m__law_bag, ln, cc, ix]
    simpa -implicitDefEqProofs using q
  · obtain ⟨h', q⟩ := core 0
    refine ⟨h', ?_⟩
    have cc : ¬ ((i : Nat) : Int) < (ns.length : Nat) := by omega
    simp -implicitDefEqProofs [m__law_bag, ln, cc]
    simpa -implicitDefEqProofs using q
end K03
/-! ZEW: how evaluators of instances go; heaps with what was laid last. -/
namespace Z
open PySem PySem.Spec PyProof.Rows L2
section
variable {h r s : HH} {k : Nat} {o : Ob}
@[simp] theorem happ_k : (h ++ r)[h.length + k]? = r[k]? := by
  rw [List.getElem?_append_right (by omega)]
  congr 1
  omega
@[simp] theorem happ_0 : (h ++ r)[h.length]? = r[0]? := happ_k (k := 0)
@[simp] theorem hset_k : (h ++ r).set (h.length + k) o = h ++ r.set k o := by
  rw [List.set_append, if_neg (by omega)]
  congr 2
  omega
@[simp] theorem hset_0 : (h ++ r).set h.length o = h ++ r.set 0 o := hset_k (k := 0)
end
section
variable {C : Addr} {f : Str} {n : Nat} {h : HH} {ro : En} {w : Val}
@[simp] theorem sAttr_e {m : SE} : sAttr C f m ro h = obind (m ro h) fun x h1 => bAttr C f x h1 := rfl
@[simp] theorem nAttr_e {mo mv : SE} : nAttr C f mo mv ro h = sbind (mv ro h) ro fun w h1 => sbind (mo ro h1) ro fun x h2 => sbind (mAttrS C f x w h2) ro fun _ h3 => .go .nx ro h3 := rfl
@[simp] theorem sMeth_e {m : Str} {F : List Val → M Val} {a np : Nat} {gW : List Val → List Val → List Val} {mo : SE} {ra : En → M (List Val)} : sMeth C m F a np gW mo ra ro h = obind (mo ro h) fun x h1 => if isInsM C m x h1 = true then obind (ra ro h1) fun ws h2 => if ws.length + 1 = a ∧ (gW (x :: ws) []).length = np then F (gW (x :: ws) []) h2 else .bad else .bad := rfl
@[simp] theorem nonOr_non {x : Val} : nonOr x .non h = .ok x h := rfl
@[simp] theorem sMake_e {F : List Val → M Val} {a np : Nat} {gW : List Val → List Val → List Val} {ra : En → M (List Val)} : sMake C F a np gW ra ro h = obind (ra ro h) fun ws h1 => if ws.length + 1 = a ∧ (gW (.ref h1.length :: ws) []).length = np then obind (F (gW (.ref h1.length :: ws) []) (h1 ++ [.ins C []])) (nonOr (.ref h1.length)) else .bad := rfl
@[simp] theorem gsCons_e {g : GM} {r : List Val → En → HH → SO} {ws : List Val} : gsCons g r (w :: ws) ro h = match g w ro h with
  | .go .nx ro1 h1 => r ws ro1 h1
  | _ => .bad := rfl
@[simp] theorem nAug_e {sub : Bool} {i : Nat} {m : SE} : nAug sub i m ro h = sbind (sVar i ro h) ro fun x h1 => sbind (m ro h1) ro fun y h2 => sbind (augI sub x y h2) ro fun z h3 => .go .nx (ro.set i (some z)) h3 := rfl
@[simp] theorem augI_add {i j : Int} : augI false (.int i) (.int j) h = .ok (.int (i + j)) h := rfl
@[simp] theorem gSt2_e {g : List Val → En → HH → SO} {x y : Val} {ys : List Val} : gSt2 g (.tup (x :: y :: ys)) ro h = g [x, y, .lst ys] ro h := rfl
@[simp] theorem nRaiseF_e {f : Str} {m : SE} : nRaiseF C f m ro h = sbind (m ro h) ro fun w h1 => .go (.ex ⟨.ref C, [(f, w)]⟩) ro h1 := rfl
@[simp] theorem nRaiseU_e {m m2 : SE} : nRaise_Unsound C m m2 ro h = sbind (m ro h) ro fun w h1 => sbind (m2 ro h1) ro fun w2 h2 => .go (.ex ⟨.ref C, [("part", w), ("paper", w2)]⟩) ro h2 := rfl
end
section
variable {g : GM} {t : En → M Bool} {mk mv m : SE} {ro ro1 : En} {x : Itm} {k i : Nat} {acc : List (Key × Val)} {ac : List Val} {h h1 h2 h3 h4 : HH} {w y z : Val} {key : Key}
theorem dcT_end (e : nxt x i h = some none) : dcTurns g t mk mv ro x 0 i acc h = .ok acc h := by
  show (match nxt x i h with | some none => Out.ok acc h | _ => .bad) = _
  rw [e]
theorem dcT_nx (e : nxt x i h = some (some w)) (e1 : g w ro h = .go .nx ro1 h1) (e2 : t ro1 h1 = .ok true h2) (e3 : mk ro1 h2 = .ok y h3) (e4 : keyOf y = some key) (e5 : mv ro1 h3 = .ok z h4) :
    dcTurns g t mk mv ro x (k + 1) i acc h = dcTurns g t mk mv ro x k (i + 1) (dput acc key z) h4 := by
  conv => lhs; unfold dcTurns
  rw [e]
  simp only [e1, e2, if_true, e3, e4, e5]
theorem sDc_eq {mi : SI} {own : List Nat} {x : Itm × Nat} (e : mi ro h = .ok x h1) : sDc mi g t mk mv own ro h = obind (dcTurns g t mk mv (wipeN ro own) x.1 x.2 0 [] h1) newD := by
  show obind (mi ro h) _ = _
  rw [e]
  rfl
theorem dgetO_r {n : Nat} {kvs : List (Key × Val)} (e : h[n]? = some (.dic kvs)) (e2 : Z.keyOf w = some key) : bDGetO (.ref n) w h = .ok (dval kvs key) h := by
  unfold bDGetO
  dsimp only
  rw [e]
  dsimp only
  rw [e2]
end
/-! ### try with clauses -/
theorem sFld_e {e : Ex} {a dd : Addr} {n : Str} {i : Nat} {ro : En} {h : HH} {w : Val} (s : ro[i]? = some (some (exV e a dd))) (ne : e.fs.isEmpty = false) (l : lkp n (e.fs.map (·.1)) (e.fs.map (·.2)) = some w) : sFld e a dd n (sVar i) ro h = .ok w h := by
  unfold sFld
  rw [bind_e, sVar_e s, ob_ok]
  unfold exV
  rw [ne]
  simp only [Bool.false_eq_true, if_false, and_self, if_true, l, ret_e]
theorem onlyN_yes {C : Addr} {no : List Addr} : onlyN C no (.ref C) = some true := by unfold onlyN; dsimp only; rw [if_pos rfl]
theorem onlyN_no {C D : Addr} {no : List Addr} (n : C ≠ D) (m : D ∈ no) : onlyN C no (.ref D) = some false := by unfold onlyN; dsimp only; rw [if_neg (Ne.symm n), if_pos m]
/-! ### == of plain data without truths -/
/-! ### == of a thing with itself, truths too -/
def gb : Nat → Val → Bool
  | _, .non => true
  | _, .bl _ => true
  | _, .int _ => true
  | _, .str x => PyData.strOk x
  | d + 1, .tup xs => xs.all (gb d)
  | d + 1, .lst xs => xs.all (gb d)
  | _, _ => false
theorem gb_all {d : Nat} (ih : ∀ w, gb d w = true → okV w = true ∧ (toD w).depth ≤ d ∧ PyData.eqv (toD w) (toD w) = true) : ∀ ys : List Val, (∀ y ∈ ys, gb d y = true) → okVs ys = true ∧ PyData.depthAll (toDs ys) ≤ d ∧ PyData.eqvAll (toDs ys) (toDs ys) = true
  | [], _ => ⟨rfl, by unfold toDs; unfold PyData.depthAll; omega, by simp [toDs, PyData.eqvAll]⟩
  | y :: ys, hy => by
    have a := ih y (hy y List.mem_cons_self)
    have b := gb_all ih ys fun z hz => hy z (List.mem_cons_of_mem _ hz)
    refine ⟨?_, ?_, ?_⟩
    · unfold okVs; rw [a.1, b.1]; rfl
    · unfold toDs; unfold PyData.depthAll; have := a.2.1; have := b.2.1; omega
    · unfold toDs PyData.eqvAll; rw [a.2.2, b.2.2]; rfl
theorem gb_ok : ∀ (d : Nat) (w : Val), gb d w = true → okV w = true ∧ (toD w).depth ≤ d ∧ PyData.eqv (toD w) (toD w) = true := by
  intro d
  induction d with
  | zero =>
    intro w e
    cases w with
    | str x => exact ⟨e, by unfold toD; unfold PyData.depth; omega, by simp [toD, PyData.eqv]⟩
    | non => exact ⟨rfl, by unfold toD; unfold PyData.depth; omega, by simp [toD, PyData.eqv]⟩
    | bl b => exact ⟨rfl, by unfold toD; unfold PyData.depth; omega, by simp [toD, PyData.eqv]⟩
    | int i => exact ⟨rfl, by unfold toD; unfold PyData.depth; omega, by simp [toD, PyData.eqv]⟩
    | _ => cases e
  | succ d ih =>
    intro w e
    cases w with
    | str x => exact ⟨e, by unfold toD; unfold PyData.depth; omega, by simp [toD, PyData.eqv]⟩
    | non => exact ⟨rfl, by unfold toD; unfold PyData.depth; omega, by simp [toD, PyData.eqv]⟩
    | bl b => exact ⟨rfl, by unfold toD; unfold PyData.depth; omega, by simp [toD, PyData.eqv]⟩
    | int i => exact ⟨rfl, by unfold toD; unfold PyData.depth; omega, by simp [toD, PyData.eqv]⟩
    | tup xs =>
      obtain ⟨a, b, c⟩ := gb_all ih xs (List.all_eq_true.mp e)
      refine ⟨by unfold okV; exact a, by unfold toD; unfold PyData.depth; omega, ?_⟩
      unfold toD PyData.eqv
      exact c
    | lst xs =>
      obtain ⟨a, b, c⟩ := gb_all ih xs (List.all_eq_true.mp e)
      refine ⟨by unfold okV; exact a, by unfold toD; unfold PyData.depth; omega, ?_⟩
      unfold toD PyData.eqv
      exact c
    | _ => cases e
end Z
namespace K03
open PySem PySem.Spec PyProof.Rows L2 Z
theorem gpr_pl {ps : List Val} (g : Gpr ps) : pl (.tup ps) = true := (fine_all (by omega) 4 _ g.fn).1
theorem ev_look {C : Addr} {ps : List Val} {h : HH} (g : Gpr ps) : F_look_program C [.tup ps] h = .ok .non h := by
  rw [e_look_program]
  simp [m_look_program, ev_program (gpr_pl g), g.ok]
/-- a good program's parts -/
theorem gpr_part {ps : List Val} (g : Gpr ps) : ∀ w ∈ ps, ∃ (nm : Str) (ns rows : List Val), w = .tup [.str nm, .tup ns, .tup rows] ∧ nameB nm = true ∧ rows.length ≤ 60 := by
  have ok := g.ok
  have e : progB (.tup ps) = (ps.all headed && (unlike 1 8 (.tup (ps.map hd0)) && (ps.flatMap (FB (ps.map hd0))).all id)) := rfl
  rw [e, Bool.and_eq_true, Bool.and_eq_true] at ok
  obtain ⟨h1, _, h2⟩ := ok
  rw [List.all_eq_true] at h1
  intro w hw
  have a := h1 w hw
  obtain ⟨n, c, d, rfl, hn⟩ := headL_is (headed_headL a)
  cases n with
  | str nm =>
    cases c with
    | tup ns =>
      cases d with
      | tup rows =>
        simp only [headed, unlike, rowsB, Bool.and_eq_true, decide_eq_true_eq] at a
        exact ⟨nm, ns, rows, rfl, hn, by omega⟩
      | _ => simp [headed, rowsB] at a
    | _ => simp [headed, unlike] at a
  | _ => cases hn
end K03
namespace K03
open PySem PySem.Spec PyProof.Rows L2 Z
def nmO (w : Val) : Str := match w with
  | .tup (.str x :: _) => x
  | _ => ""
theorem letters_list : letters.cps.toList = (List.range 26).map fun i => 97 + i := by decide +kernel
theorem let_iff {c : Nat} : isLet c = true ↔ 97 ≤ c ∧ c < 123 := by
  show (!(Builtin.Str.occurrences letters ⟨#[c]⟩ 0 letters.length 1).isEmpty) = true ↔ _
  rw [PySem.StrLaws.found_one, decide_eq_true_eq, letters_list, List.mem_map]
  constructor
  · rintro ⟨i, hi, rfl⟩
    have := List.mem_range.mp hi
    omega
  · intro h
    exact ⟨c - 97, List.mem_range.mpr (by omega), by omega⟩
theorem signs_all (x : Str) : (Z.signs x).all lt1 = x.cps.toList.all isLet := by
  unfold Z.signs
  rw [List.all_map]; rfl
theorem name_iff {x : Str} : nameB x = true ↔ 1 ≤ x.length ∧ x.length ≤ 8 ∧ ∀ c ∈ TL.tl x, 97 ≤ c ∧ c < 123 := by
  unfold nameB
  rw [signs_all, Bool.and_eq_true, Bool.and_eq_true, decide_eq_true_eq, decide_eq_true_eq, List.all_eq_true]
  constructor
  · rintro ⟨h1, h2, h3⟩
    exact ⟨by omega, by omega, fun c hc => let_iff.mp (h3 c hc)⟩
  · rintro ⟨h1, h2, h3⟩
    exact ⟨by omega, by omega, fun c hc => let_iff.mpr (h3 c hc)⟩
theorem name_strOk {y : Str} (h : nameB y = true) : PyData.strOk y = true := by
  obtain ⟨h1, h2, h3⟩ := name_iff.mp h
  unfold PyData.strOk
  rw [Array.all_eq_true_iff_forall_mem]
  intro c hc
  have := h3 c (Array.mem_toList_iff.mpr hc)
  simp
  omega
theorem name_pl {y : Str} (h : nameB y = true) : pl (.str y) = true := by
  obtain ⟨h1, h2, h3⟩ := name_iff.mp h
  unfold pl
  rw [name_strOk h, Bool.true_and, decide_eq_true_eq]
  omega
theorem ev_isname {y : Str} {h : HH} (q : nameB y = true) : F_is_name [.str y] h = .ok (.bl true) h := by
  rw [ev_name (name_pl q)]
  show Out.ok (Val.bl (nameB y)) h = _
  rw [q]
/-! ### number_of -/
def nfold : Nat → List Val → List (Key × Val) → List (Key × Val)
  | _, [], acc => acc
  | k, p :: ps, acc => nfold (k + 1) ps (dput acc (.inr (nmO p)) (.int (k : Nat)))
theorem dval_rep {k k' : Key} {w : Val} : ∀ {kvs : List (Key × Val)}, dval (drep kvs k w) k' = if k' = k then (dval kvs k).map (fun _ => w) else dval kvs k'
  | [] => by
    show none = if k' = k then none else none
    split <;> rfl
  | kv :: r => by
    have ih := dval_rep (k := k) (k' := k') (w := w) (kvs := r)
    have e : drep (kv :: r) k w = (if kv.1 = k then (kv.1, w) else kv) :: drep r k w := rfl
    rw [e]
    unfold dval
    by_cases c : kv.1 = k
    · rw [if_pos c]
      dsimp only
      by_cases d : k' = k
      · subst d
        rw [if_pos c, if_pos rfl, if_pos c]; rfl
      · rw [if_neg (fun z => d (z.symm.trans c)), ih, if_neg d, if_neg d, if_neg (fun z => d (z.symm.trans c))]
    · rw [if_neg c]
      by_cases d : k' = k
      · subst d
        rw [if_neg c, ih, if_pos rfl, if_pos rfl, if_neg c]
      · rw [ih, if_neg d, if_neg d]
theorem dval_app {k k' : Key} {w : Val} : ∀ {kvs : List (Key × Val)}, dval kvs k = none → dval (kvs ++ [(k, w)]) k' = if k' = k then some w else dval kvs k'
  | [], _ => by
    show (if k = k' then some w else none) = _
    by_cases c : k' = k
    · rw [if_pos c.symm, if_pos c]
    · rw [if_neg (Ne.symm c), if_neg c]; rfl
  | kv :: r, e => by
    have e' : (if kv.1 = k then some kv.2 else dval r k) = none := e
    by_cases c : kv.1 = k
    · rw [if_pos c] at e'; cases e'
    · rw [if_neg c] at e'
      have ih := dval_app (k := k) (k' := k') (w := w) e'
      show (if kv.1 = k' then some kv.2 else dval (r ++ [(k, w)]) k') = if k' = k then some w else (if kv.1 = k' then some kv.2 else dval r k')
      rw [ih]
      by_cases d : k' = k
      · subst d; rw [if_neg c, if_pos rfl]
        simp
      · rw [if_neg d, if_neg d]
theorem dval_put {k k' : Key} {w : Val} {kvs : List (Key × Val)} : dval (dput kvs k w) k' = if k' = k then some w else dval kvs k' := by
  unfold dput
  cases e : dval kvs k with
  | none => exact dval_app e
  | some v => 
    dsimp only
    rw [dval_rep, e]; rfl
/-- the number of a name, of any parts: the last one -/
theorem nfold_none {y : Str} : ∀ (ps : List Val) (k : Nat) (acc : List (Key × Val)), (∀ p ∈ ps, nmO p ≠ y) → dval (nfold k ps acc) (.inr y) = dval acc (.inr y)
  | [], _, _, _ => rfl
  | p :: ps, k, acc, h => by
    show dval (nfold (k + 1) ps _) _ = _
    rw [nfold_none ps (k + 1) _ fun q hq => h q (List.mem_cons_of_mem _ hq), dval_put, if_neg (fun z => h p List.mem_cons_self (Sum.inr.inj z).symm)]
theorem nfold_some {y : Str} : ∀ (ps : List Val) (k j : Nat) (p : Val) (acc : List (Key × Val)), (ps.map nmO).Nodup → ps[j]? = some p → nmO p = y → dval (nfold k ps acc) (.inr y) = some (.int ((k + j : Nat) : Int))
  | [], _, _, _, _, _, e, _ => by simp at e
  | p :: ps, k, 0, q, acc, nd, e, n => by
    cases e
    rw [List.map_cons, List.nodup_cons] at nd
    show dval (nfold (k + 1) ps _) _ = _
    rw [nfold_none ps (k + 1) _ fun q hq z => nd.1 (List.mem_map.mpr ⟨q, hq, z.trans n.symm⟩), dval_put, if_pos (by rw [n])]
    rfl
  | p :: ps, k, j + 1, q, acc, nd, e, n => by
    rw [List.map_cons, List.nodup_cons] at nd
    show dval (nfold (k + 1) ps _) _ = _
    rw [nfold_some ps (k + 1) j q _ nd.2 (by simpa using e) n]
    congr 2
    push_cast
    omega
theorem prs_get' {xs : List Val} {k j : Nat} : (prs k xs)[j]? = xs[j]?.map fun w => .tup [.int ((k + j : Nat) : Int), w] := prs_get xs k j
theorem dc_num {ro : En} {h : HH} {a0 a1 : Option Val} : ∀ (ps qs : List Val) (k i : Nat) (acc : List (Key × Val)), (∀ p ∈ ps, ∃ nm b c, p = .tup [.str nm, b, c]) → qs.drop i = ps → k = ps.length →
    dcTurns (gTp 2 (gsCons (gNm 5) (gsCons (gSt (gsCons (gNm 6) (gsCons (gNm 7) gsNil))) gsNil))) tYesZ (sVar 6) (sVar 5) [a0, a1, none, none, none, none, none, none] (.st (prs 0 qs)) k i acc h = .ok (nfold i ps acc) h
  | [], qs, k, i, acc, hF, e, hk => by
    subst hk
    have l : qs.length ≤ i := by
      have := congrArg List.length e
      rw [List.length_drop] at this
      simp at this
      omega
    exact dcT_end (by rw [nxt_st, prs_get', List.getElem?_eq_none l]; rfl)
  | p :: ps, qs, k, i, acc, hF, e, hk => by
    subst hk
    have es : qs[i]? = some p := by
      have := congrArg (fun l => l[0]?) e
      simpa using this
    have ed : qs.drop (i + 1) = ps := by
      have := congrArg List.tail e
      simpa using this
    have ih := dc_num (h := h) (ro := ro) (a0 := a0) (a1 := a1) ps qs ps.length (i + 1) (dput acc (.inr (nmO p)) (.int (i : Nat))) (fun p hp => hF p (List.mem_cons_of_mem _ hp)) ed rfl
    obtain ⟨nm, b, c, rfl⟩ := hF p List.mem_cons_self
    have nx : nxt (.st (prs 0 qs)) i h = some (some (.tup [.int (i : Nat), .tup [.str nm, b, c]])) := by
      rw [nxt_st, prs_get', es, Nat.zero_add]; rfl
    rw [List.length_cons]
    rw [dcT_nx (ro1 := [a0, a1, none, none, none, some (.int (i : Nat)), some (.str nm), some (.lst [b, c])]) nx rfl rfl rfl rfl rfl]
    exact ih
theorem num_dc {qs : List Val} {a1 : Option Val} {h : HH} (hF : ∀ p ∈ qs, ∃ nm b c, p = .tup [.str nm, b, c]) (l : qs.length ≤ 1000) : sDc (iEn (aCons (sVar 0) aNil)) (gTp 2 (gsCons (gNm 5) (gsCons (gSt (gsCons (gNm 6) (gsCons (gNm 7) gsNil))) gsNil))) tYesZ (sVar 6) (sVar 5) [5, 6, 7] [some (.tup qs), a1, none, none, none, none, none, none] h = .ok (.ref h.length) (h ++ [.dic (nfold 0 qs [])]) := by
  have e := dc_num (h := h) (ro := []) (a0 := some (.tup qs)) (a1 := a1) qs qs qs.length 0 [] hF rfl rfl
  have m : iEn (aCons (sVar 0) aNil) [some (.tup qs), a1, none, none, none, none, none, none] h = .ok (.st (prs 0 qs), qs.length) h := by simp
  rw [Z.sDc_eq m]
  have w : wipeN [some (.tup qs), a1, none, none, none, none, none, none] [5, 6, 7] = [some (.tup qs), a1, none, none, none, none, none, none] := rfl
  dsimp only
  rw [w, e]
  rfl
theorem ev_number {C : Addr} {qs : List Val} {y : Str} {n : Nat} {h : HH} (nd : (qs.map nmO).Nodup) (l : qs.length ≤ 1000) (hF : ∀ p ∈ qs, ∃ nm b c, p = .tup [.str nm, b, c]) (hy : nameB y = true) {p : Val} (e2 : qs[n]? = some p) (e3 : nmO p = y) : ∃ ob, F_number_of C [.tup (qs), .str y] h = .ok (.int (n : Nat)) (h ++ [ob]) := by
  refine ⟨.dic (nfold 0 qs []), ?_⟩
  have dv := nfold_some qs 0 n p [] nd e2 e3
  rw [Nat.zero_add] at dv
  have nm := ev_isname (y := y) (h := h) hy
  have dc := num_dc (qs := qs) (a1 := some (.str y)) (h := h) hF l
  rw [e_number_of]
  have g : (h ++ [Ob.dic (nfold 0 qs [])])[h.length]? = some (.dic (nfold 0 qs [])) := List.getElem?_concat_length
  have bd : bDGetO (.ref h.length) (.str y) (h ++ [Ob.dic (nfold 0 qs [])]) = .ok (some (.int (n : Nat))) (h ++ [Ob.dic (nfold 0 qs [])]) := by
    rw [dgetO_r g rfl, dv]
  have tr : ∀ (k : Val → SS) (i : Nat) (ms : Addr → SS) (r : En), r[2]? = some (some (.ref h.length)) → r[1]? = some (some (.str y)) → nTryO (sDGetO (sVar 2) (sVar 1)) k i ms r (h ++ [Ob.dic (nfold 0 qs [])]) = k (.int (n : Nat)) r (h ++ [Ob.dic (nfold 0 qs [])]) := by
    intro k i ms r r2 r1
    have : sDGetO (sVar 2) (sVar 1) r (h ++ [Ob.dic (nfold 0 qs [])]) = .ok (some (.int (n : Nat))) (h ++ [Ob.dic (nfold 0 qs [])]) := by
      show obind (sVar 2 r _) _ = _
      rw [sVar_e r2, ob_ok]
      show obind (sVar 1 r _) _ = _
      rw [sVar_e r1, ob_ok]
      exact bd
    unfold nTryO
    rw [this]
  simp -implicitDefEqProofs only [m_number_of, nSeq_e, nIf_e, cNot_e, cV_e, sCall_e, aCons_e, sVar_1, aNil_e, ob_ok, List.length_cons, List.length_nil, if_true, and_self, nm, tr_bl, Bool.not_true, sb_ok, Bool.false_eq_true, if_false, nNext_e, sq_nx, nSet_e, dc, List.set_cons_zero, List.set_cons_succ]
  rw [tr _ _ _ _ rfl rfl]
  simp -implicitDefEqProofs only [sq_nx, List.set_cons_zero, List.set_cons_succ, nSeq_e, nRet_e, sVar_s, sVar_0, sVar_1, sVar_2, sb_ok, sq_ret, outOf_ret]
theorem ev_number_none {C : Addr} {qs : List Val} {y : Str} {h : HH} (l : qs.length ≤ 1000) (hF : ∀ p ∈ qs, ∃ nm b c, p = .tup [.str nm, b, c]) (hy : nameB y = true) (e : ∀ p ∈ qs, nmO p ≠ y) : ∃ ob, F_number_of C [.tup (qs), .str y] h = .ex ⟨.ref C, [("name", .str y)]⟩ (h ++ [ob]) := by
  refine ⟨.dic (nfold 0 qs []), ?_⟩
  have dv := nfold_none (y := y) qs 0 [] e
  have nm := ev_isname (y := y) (h := h) hy
  have dc := num_dc (qs := qs) (a1 := some (.str y)) (h := h) hF l
  rw [e_number_of]
  have g : (h ++ [Ob.dic (nfold 0 qs [])])[h.length]? = some (.dic (nfold 0 qs [])) := List.getElem?_concat_length
  have bd : bDGetO (.ref h.length) (.str y) (h ++ [Ob.dic (nfold 0 qs [])]) = .ok none (h ++ [Ob.dic (nfold 0 qs [])]) := by
    rw [dgetO_r g rfl, dv]
    rfl
  have tr : ∀ (k : Val → SS) (r : En), r = [some (.tup (qs)), some (.str y), some (.ref h.length), none, none, none, none, none] → nTryO (sDGetO (sVar 2) (sVar 1)) k 4 (fun a => (nSeq (nRaiseFr 4 a C "name" (sVar 1)) nNext)) r (h ++ [Ob.dic (nfold 0 qs [])]) = .go (.ex ⟨.ref C, [("name", .str y)]⟩) r (h ++ [Ob.dic (nfold 0 qs [])]) := by
    intro k r hr
    subst hr
    have : sDGetO (sVar 2) (sVar 1) [some (.tup (qs)), some (.str y), some (.ref h.length), none, none, none, none, none] (h ++ [Ob.dic (nfold 0 qs [])]) = .ok none (h ++ [Ob.dic (nfold 0 qs [])]) := bd
    unfold nTryO
    rw [this]
    dsimp only
    refine uni2_e fun a b => ?_
    show goneX 4 (nSeq _ _ [some (.tup (qs)), some (.str y), some (.ref h.length), none, some (.glo a), none, none, none] _) = _
    have x : nRaiseFr 4 a C "name" (sVar 1) [some (.tup (qs)), some (.str y), some (.ref h.length), none, some (.glo a), none, none, none] (h ++ [Ob.dic (nfold 0 qs [])]) = .go (.ex ⟨.ref C, [("name", .str y)]⟩) [some (.tup (qs)), some (.str y), some (.ref h.length), none, some (.glo a), none, none, none] (h ++ [Ob.dic (nfold 0 qs [])]) := by
      unfold nRaiseFr
      rw [if_pos (by show decide (a = a) = true; simp)]
      rfl
    rw [nSeq_e, x, sq_ex]
    rfl
  simp -implicitDefEqProofs only [m_number_of, nSeq_e, nIf_e, cNot_e, cV_e, sCall_e, aCons_e, sVar_1, aNil_e, ob_ok, List.length_cons, List.length_nil, if_true, and_self, nm, tr_bl, Bool.not_true, sb_ok, Bool.false_eq_true, if_false, nNext_e, sq_nx, nSet_e, dc, List.set_cons_zero, List.set_cons_succ]
  rw [tr _ _ rfl]
  simp -implicitDefEqProofs only [sq_ex, outOf_ex]
theorem ev_number_odd {C : Addr} {P w : Val} {h : HH} (p : pl w = true) (q : isName w = false) : F_number_of C [P, w] h = .ex ⟨.ref C, [("name", w)]⟩ h := by
  rw [e_number_of]
  have nm := ev_name (w := w) (h := h) p
  rw [q] at nm
  simp -implicitDefEqProofs only [m_number_of, nSeq_e, nIf_e, cNot_e, cV_e, sCall_e, aCons_e, sVar_1, aNil_e, ob_ok, List.length_cons, List.length_nil, if_true, and_self, nm, tr_bl, Bool.not_false, sb_ok, nRaiseF_e, sq_ex, outOf_ex]
theorem gpr_form {ps : List Val} (g : Gpr ps) : ∀ p ∈ ps, ∃ nm b c, p = .tup [.str nm, b, c] := by
  intro w hw
  obtain ⟨nm, ns, rows, e, _⟩ := gpr_part g w hw
  exact ⟨nm, _, _, e⟩
theorem txts_heads : ∀ {ps : List Val}, (∀ p ∈ ps, ∃ nm b c, p = .tup [.str nm, b, c]) → Z.txts (ps.map hd0) = some (ps.map nmO)
  | [], _ => rfl
  | p :: ps, h => by
    obtain ⟨nm, b, c, rfl⟩ := h p List.mem_cons_self
    show (Z.txts (ps.map hd0)).map _ = _
    rw [txts_heads fun q hq => h q (List.mem_cons_of_mem _ hq)]; rfl
theorem gpr_nd {ps : List Val} (g : Gpr ps) : (ps.map nmO).Nodup ∧ ps.length ≤ 8 ∧ 1 ≤ ps.length := by
  have ok := g.ok
  have e : progB (.tup ps) = (ps.all headed && (unlike 1 8 (.tup (ps.map hd0)) && (ps.flatMap (FB (ps.map hd0))).all id)) := rfl
  rw [e, Bool.and_eq_true, Bool.and_eq_true] at ok
  obtain ⟨_, h, _⟩ := ok
  simp only [unlike, Bool.and_eq_true, decide_eq_true_eq] at h
  obtain ⟨h1, h2, _, h4⟩ := h
  unfold nodB at h4
  rw [txts_heads (gpr_form g)] at h4
  dsimp only at h4
  rw [decide_eq_true_eq] at h4
  rw [List.length_map] at h1 h2 h4
  refine ⟨(ZS.dcnt_eq _).mp (by rw [h4, List.length_map]), by omega, by omega⟩
end K03
namespace K03
open PySem PySem.Spec PyProof.Rows L2 Z
theorem isx_g {e : Ex} {a dd C : Addr} {b : Bool} {w : Val} {h : HH} (q : exIs e a dd w = true) : fIsX e a dd [.glo C] b [w, .glo C] h = .ok (.bl b) h := if_pos ⟨q, by simp [clsL, sameCs, sameC]⟩
theorem isx_t {e : Ex} {a dd : Addr} {t : String} {b : Bool} {w : Val} {h : HH} (q : exIs e a dd w = true) : fIsX e a dd [.ty t] b [w, .ty t] h = .ok (.bl b) h := if_pos ⟨q, by simp [clsL, sameCs, sameC]⟩
theorem f3 (a b c : Val) (g : HH) : fTup [a, b, c] g = .ok (.tup [a, b, c]) g := fTup_ok (by simp)
theorem ev_kind_NoPart {C_Busy C_NoHook C_NoMark C_NoNumbers C_NoPart C_NoProgram C_NoRow C_NoText C_NoWord C_TooLong C_TooMany C_Unsound : Addr} {e : Ex} {a dd : Addr} {w : Val} {h : HH} (q : exIs e a dd w = true) : F__law_kind_NoPart C_Busy C_NoHook C_NoMark C_NoNumbers C_NoPart C_NoProgram C_NoRow C_NoText C_NoWord C_TooLong C_TooMany C_Unsound e a dd [w] h = .ok (.str "NoPart") h := by
  have fl : fLst [.tup [.str "NoProgram", .bl false, .bl false], .tup [.str "NoPart", .bl true, .bl true], .tup [.str "NoRow", .bl false, .bl false], .tup [.str "TooLong", .bl false, .bl false], .tup [.str "Unsound", .bl false, .bl false], .tup [.str "NoNumbers", .bl false, .bl false], .tup [.str "NoHook", .bl false, .bl true], .tup [.str "TooMany", .bl false, .bl false], .tup [.str "Busy", .bl false, .bl false], .tup [.str "NoText", .bl false, .bl false], .tup [.str "NoWord", .bl false, .bl false], .tup [.str "NoMark", .bl false, .bl true]] h = .ok (.lst [.tup [.str "NoProgram", .bl false, .bl false], .tup [.str "NoPart", .bl true, .bl true], .tup [.str "NoRow", .bl false, .bl false], .tup [.str "TooLong", .bl false, .bl false], .tup [.str "Unsound", .bl false, .bl false], .tup [.str "NoNumbers", .bl false, .bl false], .tup [.str "NoHook", .bl false, .bl true], .tup [.str "TooMany", .bl false, .bl false], .tup [.str "Busy", .bl false, .bl false], .tup [.str "NoText", .bl false, .bl false], .tup [.str "NoWord", .bl false, .bl false], .tup [.str "NoMark", .bl false, .bl true]]) h := fLst_ok (by simp)
  have l1 : sLc (iLs (sVar 1)) (gTt 3 (gsCons (gNm 4) (gsCons (gNm 5) (gsCons (gNm 6) gsNil)))) (cV (sVar 5)) (sVar 4) [4, 5, 6] [some w, some (.lst [.tup [.str "NoProgram", .bl false, .bl false], .tup [.str "NoPart", .bl true, .bl true], .tup [.str "NoRow", .bl false, .bl false], .tup [.str "TooLong", .bl false, .bl false], .tup [.str "Unsound", .bl false, .bl false], .tup [.str "NoNumbers", .bl false, .bl false], .tup [.str "NoHook", .bl false, .bl true], .tup [.str "TooMany", .bl false, .bl false], .tup [.str "Busy", .bl false, .bl false], .tup [.str "NoText", .bl false, .bl false], .tup [.str "NoWord", .bl false, .bl false], .tup [.str "NoMark", .bl false, .bl true]]), none, none, none, none, none] h = .ok (.lst [.str "NoPart"]) h := by kernel_rfl
  have l2 : sLc (iLs (sVar 1)) (gTt 3 (gsCons (gNm 4) (gsCons (gNm 5) (gsCons (gNm 6) gsNil)))) (cAnd (cV (sVar 5)) (cV (sVar 6))) (sVar 4) [4, 5, 6] [some w, some (.lst [.tup [.str "NoProgram", .bl false, .bl false], .tup [.str "NoPart", .bl true, .bl true], .tup [.str "NoRow", .bl false, .bl false], .tup [.str "TooLong", .bl false, .bl false], .tup [.str "Unsound", .bl false, .bl false], .tup [.str "NoNumbers", .bl false, .bl false], .tup [.str "NoHook", .bl false, .bl true], .tup [.str "TooMany", .bl false, .bl false], .tup [.str "Busy", .bl false, .bl false], .tup [.str "NoText", .bl false, .bl false], .tup [.str "NoWord", .bl false, .bl false], .tup [.str "NoMark", .bl false, .bl true]]), some (.lst [.str "NoPart"]), none, none, none, none] h = .ok (.lst [.str "NoPart"]) h := by kernel_rfl
  have ln : fLen [.lst [.str "NoPart"]] h = .ok (.int 1) h := rfl
  have qe : bEq (.lst [.str "NoPart"]) (.lst [.str "NoPart"]) h = .ok (.bl true) h := by kernel_rfl
  have q1 : bEq (.int 1) (.int 1) h = .ok (.bl true) h := by kernel_rfl
  have ix : bIx (.lst [.str "NoPart"]) (.int 0) h = .ok (.str "NoPart") h := ix_l (i := 0) rfl
  rw [e__law_kind_NoPart]
  simp -implicitDefEqProofs only [m__law_kind_NoPart, nSeq_e, nSet_e, sArgs_e, aCons_e, sVar_0, sC_e, aNil_e, ob_ok, isx_g q, isx_t q, f3, fl, sb_ok, sq_nx, List.set_cons_zero, List.set_cons_succ, l1, l2, nIf_e, cAnd_e, cBin_e, sVar_2, sVar_s, sVar_1, ln, q1, qe, unB_bl, if_true, nRet_e, sBin_e, ix, sq_ret, outOf_ret]
theorem ev_kind_NoRow {C_Busy C_NoHook C_NoMark C_NoNumbers C_NoPart C_NoProgram C_NoRow C_NoText C_NoWord C_TooLong C_TooMany C_Unsound : Addr} {e : Ex} {a dd : Addr} {w : Val} {h : HH} (q : exIs e a dd w = true) : F__law_kind_NoRow C_Busy C_NoHook C_NoMark C_NoNumbers C_NoPart C_NoProgram C_NoRow C_NoText C_NoWord C_TooLong C_TooMany C_Unsound e a dd [w] h = .ok (.str "NoRow") h := by
  have fl : fLst [.tup [.str "NoProgram", .bl false, .bl false], .tup [.str "NoPart", .bl false, .bl false], .tup [.str "NoRow", .bl true, .bl true], .tup [.str "TooLong", .bl false, .bl false], .tup [.str "Unsound", .bl false, .bl false], .tup [.str "NoNumbers", .bl false, .bl false], .tup [.str "NoHook", .bl false, .bl true], .tup [.str "TooMany", .bl false, .bl false], .tup [.str "Busy", .bl false, .bl false], .tup [.str "NoText", .bl false, .bl false], .tup [.str "NoWord", .bl false, .bl false], .tup [.str "NoMark", .bl false, .bl false]] h = .ok (.lst [.tup [.str "NoProgram", .bl false, .bl false], .tup [.str "NoPart", .bl false, .bl false], .tup [.str "NoRow", .bl true, .bl true], .tup [.str "TooLong", .bl false, .bl false], .tup [.str "Unsound", .bl false, .bl false], .tup [.str "NoNumbers", .bl false, .bl false], .tup [.str "NoHook", .bl false, .bl true], .tup [.str "TooMany", .bl false, .bl false], .tup [.str "Busy", .bl false, .bl false], .tup [.str "NoText", .bl false, .bl false], .tup [.str "NoWord", .bl false, .bl false], .tup [.str "NoMark", .bl false, .bl false]]) h := fLst_ok (by simp)
  have l1 : sLc (iLs (sVar 1)) (gTt 3 (gsCons (gNm 4) (gsCons (gNm 5) (gsCons (gNm 6) gsNil)))) (cV (sVar 5)) (sVar 4) [4, 5, 6] [some w, some (.lst [.tup [.str "NoProgram", .bl false, .bl false], .tup [.str "NoPart", .bl false, .bl false], .tup [.str "NoRow", .bl true, .bl true], .tup [.str "TooLong", .bl false, .bl false], .tup [.str "Unsound", .bl false, .bl false], .tup [.str "NoNumbers", .bl false, .bl false], .tup [.str "NoHook", .bl false, .bl true], .tup [.str "TooMany", .bl false, .bl false], .tup [.str "Busy", .bl false, .bl false], .tup [.str "NoText", .bl false, .bl false], .tup [.str "NoWord", .bl false, .bl false], .tup [.str "NoMark", .bl false, .bl false]]), none, none, none, none, none] h = .ok (.lst [.str "NoRow"]) h := by kernel_rfl
  have l2 : sLc (iLs (sVar 1)) (gTt 3 (gsCons (gNm 4) (gsCons (gNm 5) (gsCons (gNm 6) gsNil)))) (cAnd (cV (sVar 5)) (cV (sVar 6))) (sVar 4) [4, 5, 6] [some w, some (.lst [.tup [.str "NoProgram", .bl false, .bl false], .tup [.str "NoPart", .bl false, .bl false], .tup [.str "NoRow", .bl true, .bl true], .tup [.str "TooLong", .bl false, .bl false], .tup [.str "Unsound", .bl false, .bl false], .tup [.str "NoNumbers", .bl false, .bl false], .tup [.str "NoHook", .bl false, .bl true], .tup [.str "TooMany", .bl false, .bl false], .tup [.str "Busy", .bl false, .bl false], .tup [.str "NoText", .bl false, .bl false], .tup [.str "NoWord", .bl false, .bl false], .tup [.str "NoMark", .bl false, .bl false]]), some (.lst [.str "NoRow"]), none, none, none, none] h = .ok (.lst [.str "NoRow"]) h := by kernel_rfl
  have ln : fLen [.lst [.str "NoRow"]] h = .ok (.int 1) h := rfl
  have qe : bEq (.lst [.str "NoRow"]) (.lst [.str "NoRow"]) h = .ok (.bl true) h := by kernel_rfl
  have q1 : bEq (.int 1) (.int 1) h = .ok (.bl true) h := by kernel_rfl
  have ix : bIx (.lst [.str "NoRow"]) (.int 0) h = .ok (.str "NoRow") h := ix_l (i := 0) rfl
  rw [e__law_kind_NoRow]
  simp -implicitDefEqProofs only [m__law_kind_NoRow, nSeq_e, nSet_e, sArgs_e, aCons_e, sVar_0, sC_e, aNil_e, ob_ok, isx_g q, isx_t q, f3, fl, sb_ok, sq_nx, List.set_cons_zero, List.set_cons_succ, l1, l2, nIf_e, cAnd_e, cBin_e, sVar_2, sVar_s, sVar_1, ln, q1, qe, unB_bl, if_true, nRet_e, sBin_e, ix, sq_ret, outOf_ret]
end K03
namespace K03
open PySem PySem.Spec PyProof.Rows L2 Z
/-! ### plain things -/
theorem gb_fine : ∀ (d : Nat) (w : Val), fine 0 d w = true → gb d w = true := by
  intro d
  induction d with
  | zero =>
    intro w f
    cases w with
    | str x => 
      have f' : (PyData.strOk x && decide (x.length ≤ 20)) = true := f
      rw [Bool.and_eq_true] at f'
      exact f'.1
    | non => rfl
    | bl _ => rfl
    | int _ => rfl
    | _ => cases f
  | succ d ih =>
    intro w f
    cases w with
    | str x => 
      have f' : (PyData.strOk x && decide (x.length ≤ 20)) = true := f
      rw [Bool.and_eq_true] at f'
      exact f'.1
    | non => rfl
    | bl _ => rfl
    | int _ => rfl
    | tup xs =>
      obtain ⟨_, q⟩ := fine_tup.mp f
      show xs.all (gb d) = true
      rw [List.all_eq_true]
      exact fun w hw => ih w (q w hw)
    | lst xs =>
      obtain ⟨_, q⟩ := fine_lst.mp f
      show xs.all (gb d) = true
      rw [List.all_eq_true]
      exact fun w hw => ih w (q w hw)
    | _ => cases f
theorem rds_fine {h : HH} {d : Nat} (ih : ∀ w, fine 0 d w = true → ∀ n, sz w + 1 ≤ n → rdD h n w = some w) : ∀ (xs : List Val), (∀ w ∈ xs, fine 0 d w = true) → ∀ n, szs xs + 1 ≤ n → rdDs h n xs = some xs
  | [], _, n, l => by
    obtain ⟨n, rfl⟩ : ∃ m, n = m + 1 := ⟨n - 1, by omega⟩
    rfl
  | x :: xs, f, n, l => by
    have e : szs (x :: xs) = sz x + 2 + szs xs := rfl
    obtain ⟨n, rfl⟩ : ∃ m, n = m + 1 := ⟨n - 1, by omega⟩
    unfold rdDs
    rw [ih x (f x List.mem_cons_self) n (by omega), rds_fine ih xs (fun w hw => f w (List.mem_cons_of_mem _ hw)) n (by omega)]
theorem rd_fine {h : HH} : ∀ (d : Nat) (w : Val), fine 0 d w = true → ∀ n, sz w + 1 ≤ n → rdD h n w = some w := by
  intro d
  induction d with
  | zero =>
    intro w f n l
    obtain ⟨n, rfl⟩ : ∃ m, n = m + 1 := ⟨n - 1, by omega⟩
    cases w with
    | str x => rfl
    | non => rfl
    | bl _ => rfl
    | int _ => rfl
    | _ => cases f
  | succ d ih =>
    intro w f n l
    obtain ⟨n, rfl⟩ : ∃ m, n = m + 1 := ⟨n - 1, by omega⟩
    cases w with
    | str x => rfl
    | non => rfl
    | bl _ => rfl
    | int _ => rfl
    | tup xs =>
      obtain ⟨_, q⟩ := fine_tup.mp f
      have e : sz (.tup xs) = szs xs + 3 := rfl
      unfold rdD
      rw [rds_fine ih xs q n (by omega)]; rfl
    | lst xs =>
      obtain ⟨_, q⟩ := fine_lst.mp f
      have e : sz (.lst xs) = szs xs + 3 := rfl
      unfold rdD
      rw [rds_fine ih xs q n (by omega)]; rfl
    | _ => cases f
theorem ev_alike {w : Val} {h : HH} (f : fine 0 6 w = true) (z : sz w ≤ 50000) : F__law_alike [w, w] h = .ok (.bl true) h := by
  obtain ⟨o, dp, q⟩ := gb_ok 6 w (gb_fine 6 w f)
  have e := rd_fine (h := h) 6 w f 100000 (by omega)
  have q1 : bEqD false w w h = .ok (.bl true) h := by
    unfold bEqD
    rw [e]
    dsimp only
    rw [if_pos ⟨o, o, by omega⟩, if_neg (by simp), q]
  have rp : fRepr [w] h = .ok (.str (toD w).shown) h := ev_repr (by omega) (by omega) f (by omega)
  have qe : bEq (.str (toD w).shown) (.str (toD w).shown) h = .ok (.bl true) h := bEq_q (fun _ e => nomatch e) (fun _ e => nomatch e) (by unfold quick; simp)
  rw [e__law_alike]
  simp -implicitDefEqProofs only [m__law_alike, nSeq_e, nRet_e, sAnd_e, sBin_e, sVar_0, sVar_1, ob_ok, q1, tr_bl, if_true, sArgs_e, aCons_e, aNil_e, rp, qe, sb_ok, sq_ret, outOf_ret]
/-! ### parts and rows -/
def Kn (h h' : HH) : Prop := h.length ≤ h'.length ∧ ∀ j, j < h.length → h'[j]? = h[j]?
theorem Kn.refl (h : HH) : Kn h h := ⟨Nat.le_refl _, fun _ _ => rfl⟩
theorem Kn.trans {h h1 h2 : HH} (a : Kn h h1) (c : Kn h1 h2) : Kn h h2 := ⟨Nat.le_trans a.1 c.1, fun j l => (c.2 j (Nat.lt_of_lt_of_le l a.1)).trans (a.2 j l)⟩
theorem Kn.new (h : HH) (o : List Ob) : Kn h (h ++ o) := ⟨by simp, fun j l => List.getElem?_append_left l⟩
/-- things that may stand for a part or a row -/
structure Odd (w : Val) : Prop where
  fn : fine 0 4 w = true
  sm : sz w ≤ 1000
theorem Odd.pl {w : Val} (o : Odd w) : Z.pl w = true := (fine_all (by omega) 4 _ o.fn).1
theorem num_yes {CA : Addr} {ps : List Val} (g : Gpr ps) {n : Nat} {p : Val} (e : ps[n]? = some p) {h : HH} : ∃ h', F_number_of CA [.tup ps, .str (nmO p)] h = .ok (.int (n : Nat)) h' ∧ Kn h h' := by
  obtain ⟨nd, l8, _⟩ := gpr_nd g
  have hn : nameB (nmO p) = true := by
    obtain ⟨nm, ns, rows, rfl, hn, _⟩ := gpr_part g p (List.mem_of_getElem? e)
    exact hn
  obtain ⟨ob, q⟩ := ev_number (C := CA) (h := h) nd (by omega) (gpr_form g) hn e rfl
  exact ⟨_, q, Kn.new h _⟩
theorem num_no {CA : Addr} {ps : List Val} (g : Gpr ps) {w : Val} (o : Odd w) (no : ∀ x, w = .str x → x ∉ ps.map nmO) {h : HH} : ∃ h', F_number_of CA [.tup ps, w] h = .ex ⟨.ref CA, [("name", w)]⟩ h' ∧ Kn h h' := by
  cases q : isName w with
  | false => exact ⟨h, ev_number_odd o.pl q, Kn.refl h⟩
  | true =>
    obtain ⟨x, rfl⟩ : ∃ x, w = .str x := by
      cases w with
      | str x => exact ⟨x, rfl⟩
      | _ => cases q
    obtain ⟨_, l8, _⟩ := gpr_nd g
    obtain ⟨ob, e⟩ := ev_number_none (C := CA) (h := h) (by omega) (gpr_form g) (show nameB x = true from q) (fun p hp z => no x rfl (List.mem_map.mpr ⟨p, hp, z⟩))
    exact ⟨_, e, Kn.new h _⟩
theorem pn_yes {CA CP : Addr} {ps : List Val} (g : Gpr ps) {n : Nat} {p : Val} (e : ps[n]? = some p) {h : HH} : ∃ h', F_part_number CA CP [.tup ps, .str (nmO p)] h = .ok (.int (n : Nat)) h' ∧ Kn h h' := by
  obtain ⟨h', q, k⟩ := num_yes (CA := CA) g e (h := h)
  refine ⟨h', ?_, k⟩
  rw [e_part_number]
  simp -implicitDefEqProofs only [m_part_number, nSeq_e, nExpr_e, sCall_e, aCons_e, sVar_0, sVar_1, aNil_e, ob_ok, List.length_cons, List.length_nil, and_self, if_true, ev_look g, sb_ok, sq_nx, nRet_e, q, sq_ret, outOf_ret]
theorem pn_no {CA CP : Addr} {ps : List Val} (g : Gpr ps) {w : Val} (o : Odd w) (no : ∀ x, w = .str x → x ∉ ps.map nmO) {h : HH} : ∃ h', F_part_number CA CP [.tup ps, w] h = .ex ⟨.ref CA, [("name", w)]⟩ h' ∧ Kn h h' := by
  obtain ⟨h', q, k⟩ := num_no (CA := CA) g o no (h := h)
  refine ⟨h', ?_, k⟩
  rw [e_part_number]
  simp -implicitDefEqProofs only [m_part_number, nSeq_e, nExpr_e, sCall_e, aCons_e, sVar_0, sVar_1, aNil_e, ob_ok, List.length_cons, List.length_nil, and_self, if_true, ev_look g, sb_ok, sq_nx, nRet_e, q, sb_ex, sq_ex, outOf_ex]
def rowsO (w : Val) : List Val := match w with
  | .tup [_, _, .tup rows] => rows
  | _ => []
/-- the row that is asked for -/
def rowIn (rows : List Val) (r : Val) : Option Val := match r with
  | .int k => if 0 ≤ k then rows[k.toNat]? else none
  | _ => none
theorem gpr_rows {ps : List Val} (g : Gpr ps) {p : Val} (hp : p ∈ ps) : ∃ nm ns, p = .tup [.str nm, .tup ns, .tup (rowsO p)] ∧ nmO p = nm ∧ (rowsO p).length ≤ 60 := by
  obtain ⟨nm, ns, rows, rfl, hn, l⟩ := gpr_part g p hp
  exact ⟨nm, ns, rfl, rfl, l⟩
theorem look_row {CR : Addr} {ps : List Val} (g : Gpr ps) {n : Nat} {p : Val} (e : ps[n]? = some p) {r : Val} (o : Odd r) {h : HH} :
    F_look_row CR [.tup ps, .int (n : Nat), r] h = match rowIn (rowsO p) r with | some _ => .ok .non h | none => .ex ⟨.ref CR, [("row", r)]⟩ h := by
  obtain ⟨nm, ns, ep, _, l⟩ := gpr_rows g (List.mem_of_getElem? e)
  generalize rowsO p = rows at ep l ⊢
  subst ep
  have ix : bIx (.tup ps) (.int (n : Nat)) h = .ok (.tup [.str nm, .tup ns, .tup rows]) h := ix_t e
  have wh := ev_whole (h := h) o.pl
  have ln : fLen [.tup rows] h = .ok (.int (rows.length : Nat)) h := rfl
  rw [e_look_row]
  by_cases c : ∃ k, r = .int k
  · obtain ⟨k, rfl⟩ := c
    have wk : isWhole (.int k) = true := rfl
    rw [wk] at wh
    by_cases c0 : 0 ≤ k
    · have d0 : decide ((0 : Int) ≤ k) = true := decide_eq_true c0
      by_cases c1 : k < (rows.length : Nat)
      · have d1 : decide (k < ((rows.length : Nat) : Int)) = true := decide_eq_true c1
        have er : rowIn rows (.int k) = some (rows[k.toNat]'(by omega)) := by
          show (if 0 ≤ k then rows[k.toNat]? else none) = _
          rw [if_pos c0, List.getElem?_eq_getElem (by omega)]
        rw [er]
        simp -implicitDefEqProofs [m_look_row, wh, ix, ln, d0, d1]
        first | done | rfl | (simp -implicitDefEqProofs [c0, c1]; done)
      · have d1 : decide (k < ((rows.length : Nat) : Int)) = false := decide_eq_false c1
        have er : rowIn rows (.int k) = none := by
          show (if 0 ≤ k then rows[k.toNat]? else none) = _
          rw [if_pos c0, List.getElem?_eq_none (by omega)]
        rw [er]
        simp -implicitDefEqProofs [m_look_row, wh, ix, ln, d0, d1, c0, c1]
    · have d0 : decide ((0 : Int) ≤ k) = false := decide_eq_false c0
      have er : rowIn rows (.int k) = none := by
        show (if 0 ≤ k then rows[k.toNat]? else none) = _
        rw [if_neg c0]
      rw [er]
      simp -implicitDefEqProofs [m_look_row, wh, ix, ln, d0, c0]
  · have er : rowIn rows r = none := by
      cases r with
      | int k => exact absurd ⟨k, rfl⟩ c
      | _ => rfl
    have wk : isWhole r = false := by
      have f := o.fn
      cases r with
      | int k => exact absurd ⟨k, rfl⟩ c
      | bl b => rfl
      | _ => first | rfl | cases f
    rw [wk] at wh
    rw [er]
    simp -implicitDefEqProofs [m_look_row, wh]
theorem ra_yes {CA CP CR : Addr} {ps : List Val} (g : Gpr ps) {n : Nat} {p : Val} (e : ps[n]? = some p) {r x : Val} (o : Odd r) (er : rowIn (rowsO p) r = some x) {h : HH} : ∃ h', F_row_at CA CP CR [.tup ps, .str (nmO p), r] h = .ok x h' ∧ Kn h h' := by
  obtain ⟨h', q, k⟩ := num_yes (CA := CA) g e (h := h)
  refine ⟨h', ?_, k⟩
  have lk := look_row (CR := CR) g e o (h := h')
  rw [er] at lk
  dsimp only at lk
  obtain ⟨nm, ns, ep, en, l⟩ := gpr_rows g (List.mem_of_getElem? e)
  have ix : bIx (.tup ps) (.int (n : Nat)) h' = .ok p h' := ix_t e
  have ix2 : bIx p (.int 2) h' = .ok (.tup (rowsO p)) h' := by
    rw [ep]; exact ix_t2
  obtain ⟨j, rfl, ej⟩ : ∃ j : Nat, r = .int (j : Nat) ∧ (rowsO p)[j]? = some x := by
    cases r with
    | int z =>
      have er' : (if 0 ≤ z then (rowsO p)[z.toNat]? else none) = some x := er
      by_cases c : 0 ≤ z
      · rw [if_pos c] at er'
        exact ⟨z.toNat, by rw [Int.toNat_of_nonneg c], er'⟩
      · rw [if_neg c] at er'; cases er'
    | _ => cases er
  have ix3 : bIx (.tup (rowsO p)) (.int (j : Nat)) h' = .ok x h' := ix_t ej
  rw [e_row_at]
  simp -implicitDefEqProofs only [m_row_at, nSeq_e, nExpr_e, sCall_e, aCons_e, sVar_0, sVar_1, sVar_2, sVar_s, aNil_e, ob_ok, List.length_cons, List.length_nil, and_self, if_true, ev_look g, sb_ok, sq_nx, nSet_e, q, List.set_cons_zero, List.set_cons_succ, lk, nRet_e, sBin_e, ix, sC_e, ix2, ix3, sq_ret, outOf_ret]
theorem ra_row {CA CP CR : Addr} {ps : List Val} (g : Gpr ps) {n : Nat} {p : Val} (e : ps[n]? = some p) {r : Val} (o : Odd r) (er : rowIn (rowsO p) r = none) {h : HH} : ∃ h', F_row_at CA CP CR [.tup ps, .str (nmO p), r] h = .ex ⟨.ref CR, [("row", r)]⟩ h' ∧ Kn h h' := by
  obtain ⟨h', q, k⟩ := num_yes (CA := CA) g e (h := h)
  refine ⟨h', ?_, k⟩
  have lk := look_row (CR := CR) g e o (h := h')
  rw [er] at lk
  dsimp only at lk
  rw [e_row_at]
  simp -implicitDefEqProofs only [m_row_at, nSeq_e, nExpr_e, sCall_e, aCons_e, sVar_0, sVar_1, sVar_2, sVar_s, aNil_e, ob_ok, List.length_cons, List.length_nil, and_self, if_true, ev_look g, sb_ok, sq_nx, nSet_e, q, List.set_cons_zero, List.set_cons_succ, lk, sb_ex, sq_ex, outOf_ex, ob_ex]
theorem ra_no {CA CP CR : Addr} {ps : List Val} (g : Gpr ps) {w r : Val} (o : Odd w) (no : ∀ x, w = .str x → x ∉ ps.map nmO) {h : HH} : ∃ h', F_row_at CA CP CR [.tup ps, w, r] h = .ex ⟨.ref CA, [("name", w)]⟩ h' ∧ Kn h h' := by
  obtain ⟨h', q, k⟩ := num_no (CA := CA) g o no (h := h)
  refine ⟨h', ?_, k⟩
  rw [e_row_at]
  simp -implicitDefEqProofs only [m_row_at, nSeq_e, nExpr_e, sCall_e, aCons_e, sVar_0, sVar_1, sVar_2, sVar_s, aNil_e, ob_ok, List.length_cons, List.length_nil, and_self, if_true, ev_look g, sb_ok, sq_nx, nSet_e, q, sb_ex, sq_ex, outOf_ex, ob_ex]
end K03
namespace K03
open PySem PySem.Spec PyProof.Rows L2 Z
theorem hand_nx {tb : Value → Option Bool} {i : Nat} {ms : Ex → Addr → Addr → SS} {r : List Z.Cl} {e : Ex} {ro ro2 : En} {h h2 : HH} (t : tb e.cls = some true) (q : ∀ a dd, ∃ ro3, ms e a dd (ro.set i (some (exV e a dd))) h = .go .nx ro3 h2 ∧ ro3.set i none = ro2) : hand ((tb, i, ms) :: r) e ro h = .go .nx ro2 h2 := by
  unfold hand
  rw [t]
  dsimp only
  refine uni2_e fun a dd => ?_
  obtain ⟨ro3, e1, e2⟩ := q a dd
  rw [e1]
  show SO.go _ (ro3.set i none) h2 = _
  rw [e2]
theorem hand_no {tb : Value → Option Bool} {i : Nat} {ms : Ex → Addr → Addr → SS} {r : List Z.Cl} {e : Ex} {ro : En} {h : HH} (t : tb e.cls = some false) : hand ((tb, i, ms) :: r) e ro h = hand r e ro h := by
  conv => lhs; unfold hand
  rw [t]
theorem suite_NoPart_3 {C_Busy C_NoHook C_NoMark C_NoNumbers C_NoPart C_NoProgram C_NoRow C_NoText C_NoWord C_TooLong C_TooMany C_Unsound a dd : Nat} {w : Val} {h : HH} {a0 a1 a2 a3 a5 : Option Val} : (fun (e : Ex) (a dd : Addr) => (nSeq (nSet 3 (sArgs fLst (aCons (sCall ((F__law_kind_NoPart C_Busy C_NoHook C_NoMark C_NoNumbers C_NoPart C_NoProgram C_NoRow C_NoText C_NoWord C_TooLong C_TooMany C_Unsound) e a dd) 1 0 1 (fun ws _ => ws) (aCons (sVar 4) aNil) aNil) (aCons (sFld e a dd "name" (sVar 4)) aNil)))) nNext)) ⟨.ref C_NoPart, [("name", w)]⟩ a dd [a0, a1, a2, a3, some (exV ⟨.ref C_NoPart, [("name", w)]⟩ a dd), a5] h = .go .nx [a0, a1, a2, some (.lst [.str "NoPart", w]), some (exV ⟨.ref C_NoPart, [("name", w)]⟩ a dd), a5] h := by
  have f := sFld_e (e := ⟨.ref C_NoPart, [("name", w)]⟩) (a := a) (dd := dd) (n := "name") (i := 4) (ro := [a0, a1, a2, a3, some (exV ⟨.ref C_NoPart, [("name", w)]⟩ a dd), a5]) (h := h) (w := w) rfl rfl (by show (if ("name" : Str) = "name" then some w else _) = _; rw [if_pos rfl])
  have ei : exIs ⟨.ref C_NoPart, [("name", w)]⟩ a dd (.exn a dd ["name"] [w]) = true := by
    show (decide (a = a) && (decide (dd = dd) && true)) = true
    simp
  have kd := ev_kind_NoPart (C_Busy := C_Busy) (C_NoHook := C_NoHook) (C_NoMark := C_NoMark) (C_NoNumbers := C_NoNumbers) (C_NoPart := C_NoPart) (C_NoProgram := C_NoProgram) (C_NoRow := C_NoRow) (C_NoText := C_NoText) (C_NoWord := C_NoWord) (C_TooLong := C_TooLong) (C_TooMany := C_TooMany) (C_Unsound := C_Unsound) (h := h) ei
  have v4 : sVar 4 [a0, a1, a2, a3, some (exV ⟨.ref C_NoPart, [("name", w)]⟩ a dd), a5] h = .ok (.exn a dd ["name"] [w]) h := rfl
  have fl : fLst [.str "NoPart", w] h = .ok (.lst [.str "NoPart", w]) h := fLst_ok (by simp)
  simp -implicitDefEqProofs only [nSeq_e, nSet_e, sArgs_e, aCons_e, aNil_e, sCall_e, v4, ob_ok, List.length_cons, List.length_nil, and_self, if_true, kd, f, fl, sb_ok, sq_nx, List.set_cons_zero, List.set_cons_succ, nNext_e]
theorem suite_NoPart_5 {C_Busy C_NoHook C_NoMark C_NoNumbers C_NoPart C_NoProgram C_NoRow C_NoText C_NoWord C_TooLong C_TooMany C_Unsound a dd : Nat} {w : Val} {h : HH} {a0 a1 a2 a3 a5 : Option Val} : (fun (e : Ex) (a dd : Addr) => (nSeq (nSet 5 (sArgs fLst (aCons (sCall ((F__law_kind_NoPart C_Busy C_NoHook C_NoMark C_NoNumbers C_NoPart C_NoProgram C_NoRow C_NoText C_NoWord C_TooLong C_TooMany C_Unsound) e a dd) 1 0 1 (fun ws _ => ws) (aCons (sVar 4) aNil) aNil) (aCons (sFld e a dd "name" (sVar 4)) aNil)))) nNext)) ⟨.ref C_NoPart, [("name", w)]⟩ a dd [a0, a1, a2, a3, some (exV ⟨.ref C_NoPart, [("name", w)]⟩ a dd), a5] h = .go .nx [a0, a1, a2, a3, some (exV ⟨.ref C_NoPart, [("name", w)]⟩ a dd), some (.lst [.str "NoPart", w])] h := by
  have f := sFld_e (e := ⟨.ref C_NoPart, [("name", w)]⟩) (a := a) (dd := dd) (n := "name") (i := 4) (ro := [a0, a1, a2, a3, some (exV ⟨.ref C_NoPart, [("name", w)]⟩ a dd), a5]) (h := h) (w := w) rfl rfl (by show (if ("name" : Str) = "name" then some w else _) = _; rw [if_pos rfl])
  have ei : exIs ⟨.ref C_NoPart, [("name", w)]⟩ a dd (.exn a dd ["name"] [w]) = true := by
    show (decide (a = a) && (decide (dd = dd) && true)) = true
    simp
  have kd := ev_kind_NoPart (C_Busy := C_Busy) (C_NoHook := C_NoHook) (C_NoMark := C_NoMark) (C_NoNumbers := C_NoNumbers) (C_NoPart := C_NoPart) (C_NoProgram := C_NoProgram) (C_NoRow := C_NoRow) (C_NoText := C_NoText) (C_NoWord := C_NoWord) (C_TooLong := C_TooLong) (C_TooMany := C_TooMany) (C_Unsound := C_Unsound) (h := h) ei
  have v4 : sVar 4 [a0, a1, a2, a3, some (exV ⟨.ref C_NoPart, [("name", w)]⟩ a dd), a5] h = .ok (.exn a dd ["name"] [w]) h := rfl
  have fl : fLst [.str "NoPart", w] h = .ok (.lst [.str "NoPart", w]) h := fLst_ok (by simp)
  simp -implicitDefEqProofs only [nSeq_e, nSet_e, sArgs_e, aCons_e, aNil_e, sCall_e, v4, ob_ok, List.length_cons, List.length_nil, and_self, if_true, kd, f, fl, sb_ok, sq_nx, List.set_cons_zero, List.set_cons_succ, nNext_e]
theorem suite_NoRow_5 {C_Busy C_NoHook C_NoMark C_NoNumbers C_NoPart C_NoProgram C_NoRow C_NoText C_NoWord C_TooLong C_TooMany C_Unsound a dd : Nat} {w : Val} {h : HH} {a0 a1 a2 a3 a5 : Option Val} : (fun (e : Ex) (a dd : Addr) => (nSeq (nSet 5 (sArgs fLst (aCons (sCall ((F__law_kind_NoRow C_Busy C_NoHook C_NoMark C_NoNumbers C_NoPart C_NoProgram C_NoRow C_NoText C_NoWord C_TooLong C_TooMany C_Unsound) e a dd) 1 0 1 (fun ws _ => ws) (aCons (sVar 4) aNil) aNil) (aCons (sFld e a dd "row" (sVar 4)) aNil)))) nNext)) ⟨.ref C_NoRow, [("row", w)]⟩ a dd [a0, a1, a2, a3, some (exV ⟨.ref C_NoRow, [("row", w)]⟩ a dd), a5] h = .go .nx [a0, a1, a2, a3, some (exV ⟨.ref C_NoRow, [("row", w)]⟩ a dd), some (.lst [.str "NoRow", w])] h := by
  have f := sFld_e (e := ⟨.ref C_NoRow, [("row", w)]⟩) (a := a) (dd := dd) (n := "row") (i := 4) (ro := [a0, a1, a2, a3, some (exV ⟨.ref C_NoRow, [("row", w)]⟩ a dd), a5]) (h := h) (w := w) rfl rfl (by show (if ("row" : Str) = "row" then some w else _) = _; rw [if_pos rfl])
  have ei : exIs ⟨.ref C_NoRow, [("row", w)]⟩ a dd (.exn a dd ["row"] [w]) = true := by
    show (decide (a = a) && (decide (dd = dd) && true)) = true
    simp
  have kd := ev_kind_NoRow (C_Busy := C_Busy) (C_NoHook := C_NoHook) (C_NoMark := C_NoMark) (C_NoNumbers := C_NoNumbers) (C_NoPart := C_NoPart) (C_NoProgram := C_NoProgram) (C_NoRow := C_NoRow) (C_NoText := C_NoText) (C_NoWord := C_NoWord) (C_TooLong := C_TooLong) (C_TooMany := C_TooMany) (C_Unsound := C_Unsound) (h := h) ei
  have v4 : sVar 4 [a0, a1, a2, a3, some (exV ⟨.ref C_NoRow, [("row", w)]⟩ a dd), a5] h = .ok (.exn a dd ["row"] [w]) h := rfl
  have fl : fLst [.str "NoRow", w] h = .ok (.lst [.str "NoRow", w]) h := fLst_ok (by simp)
  simp -implicitDefEqProofs only [nSeq_e, nSet_e, sArgs_e, aCons_e, aNil_e, sCall_e, v4, ob_ok, List.length_cons, List.length_nil, and_self, if_true, kd, f, fl, sb_ok, sq_nx, List.set_cons_zero, List.set_cons_succ, nNext_e]
noncomputable def try1 (C_Busy C_NoHook C_NoMark C_NoNumbers C_NoPart C_NoProgram C_NoRow C_NoText C_NoWord C_TooLong C_TooMany C_Unsound : Addr) : SS := (nTryM (nSeq (nSet 3 (sCall (F_part_number C_NoPart C_NoProgram) 2 0 2 (fun ws _ => ws) (aCons (sVar 0) (aCons (sVar 1) aNil)) aNil)) nNext) ((onlyN C_NoPart [C_NoRow], 4, fun e a dd => (nSeq (nSet 3 (sArgs fLst (aCons (sCall ((F__law_kind_NoPart C_Busy C_NoHook C_NoMark C_NoNumbers C_NoPart C_NoProgram C_NoRow C_NoText C_NoWord C_TooLong C_TooMany C_Unsound) e a dd) 1 0 1 (fun ws _ => ws) (aCons (sVar 4) aNil) aNil) (aCons (sFld e a dd "name" (sVar 4)) aNil)))) nNext)) :: []))
noncomputable def try2 (C_Busy C_NoHook C_NoMark C_NoNumbers C_NoPart C_NoProgram C_NoRow C_NoText C_NoWord C_TooLong C_TooMany C_Unsound : Addr) : SS := (nTryM (nSeq (nSet 5 (sCall (F_row_at C_NoPart C_NoProgram C_NoRow) 3 0 3 (fun ws _ => ws) (aCons (sVar 0) (aCons (sVar 1) (aCons (sVar 2) aNil))) aNil)) nNext) ((onlyN C_NoPart [C_NoRow], 4, fun e a dd => (nSeq (nSet 5 (sArgs fLst (aCons (sCall ((F__law_kind_NoPart C_Busy C_NoHook C_NoMark C_NoNumbers C_NoPart C_NoProgram C_NoRow C_NoText C_NoWord C_TooLong C_TooMany C_Unsound) e a dd) 1 0 1 (fun ws _ => ws) (aCons (sVar 4) aNil) aNil) (aCons (sFld e a dd "name" (sVar 4)) aNil)))) nNext)) :: (onlyN C_NoRow [], 4, fun e a dd => (nSeq (nSet 5 (sArgs fLst (aCons (sCall ((F__law_kind_NoRow C_Busy C_NoHook C_NoMark C_NoNumbers C_NoPart C_NoProgram C_NoRow C_NoText C_NoWord C_TooLong C_TooMany C_Unsound) e a dd) 1 0 1 (fun ws _ => ws) (aCons (sVar 4) aNil) aNil) (aCons (sFld e a dd "row" (sVar 4)) aNil)))) nNext)) :: []))
theorem told_is (C_Busy C_NoHook C_NoMark C_NoNumbers C_NoPart C_NoProgram C_NoRow C_NoText C_NoWord C_TooLong C_TooMany C_Unsound : Addr) : m__law_told C_Busy C_NoHook C_NoMark C_NoNumbers C_NoPart C_NoProgram C_NoRow C_NoText C_NoWord C_TooLong C_TooMany C_Unsound = nSeq (try1 C_Busy C_NoHook C_NoMark C_NoNumbers C_NoPart C_NoProgram C_NoRow C_NoText C_NoWord C_TooLong C_TooMany C_Unsound) (nSeq (try2 C_Busy C_NoHook C_NoMark C_NoNumbers C_NoPart C_NoProgram C_NoRow C_NoText C_NoWord C_TooLong C_TooMany C_Unsound) (nSeq (nRet (sArgs fLst (aCons (sVar 3) (aCons (sVar 5) aNil)))) nNext)) := rfl
section
variable {C_Busy C_NoHook C_NoMark C_NoNumbers C_NoPart C_NoProgram C_NoRow C_NoText C_NoWord C_TooLong C_TooMany C_Unsound : Addr} {ps : List Val} {w r : Val} {h : HH} {a3 a4 a5 : Option Val}
theorem try1_yes {h1 : HH} {v : Val} (e : F_part_number C_NoPart C_NoProgram [.tup ps, w] h = .ok v h1) : try1 C_Busy C_NoHook C_NoMark C_NoNumbers C_NoPart C_NoProgram C_NoRow C_NoText C_NoWord C_TooLong C_TooMany C_Unsound [some (.tup ps), some w, some r, a3, a4, a5] h = .go .nx [some (.tup ps), some w, some r, some v, a4, a5] h1 := by
  have b : (nSeq (nSet 3 (sCall (F_part_number C_NoPart C_NoProgram) 2 0 2 (fun ws _ => ws) (aCons (sVar 0) (aCons (sVar 1) aNil)) aNil)) nNext) [some (.tup ps), some w, some r, a3, a4, a5] h = .go .nx [some (.tup ps), some w, some r, some v, a4, a5] h1 := by
    simp -implicitDefEqProofs only [nSeq_e, nSet_e, sCall_e, aCons_e, sVar_0, sVar_1, aNil_e, ob_ok, List.length_cons, List.length_nil, and_self, if_true, e, sb_ok, sq_nx, List.set_cons_zero, List.set_cons_succ, nNext_e]
  unfold try1 nTryM
  rw [b]
theorem try1_no {h1 : HH} (e : F_part_number C_NoPart C_NoProgram [.tup ps, w] h = .ex ⟨.ref C_NoPart, [("name", w)]⟩ h1) : try1 C_Busy C_NoHook C_NoMark C_NoNumbers C_NoPart C_NoProgram C_NoRow C_NoText C_NoWord C_TooLong C_TooMany C_Unsound [some (.tup ps), some w, some r, a3, a4, a5] h = .go .nx [some (.tup ps), some w, some r, some (.lst [.str "NoPart", w]), none, a5] h1 := by
  have b : (nSeq (nSet 3 (sCall (F_part_number C_NoPart C_NoProgram) 2 0 2 (fun ws _ => ws) (aCons (sVar 0) (aCons (sVar 1) aNil)) aNil)) nNext) [some (.tup ps), some w, some r, a3, a4, a5] h = .go (.ex ⟨.ref C_NoPart, [("name", w)]⟩) [some (.tup ps), some w, some r, a3, a4, a5] h1 := by
    simp -implicitDefEqProofs only [nSeq_e, nSet_e, sCall_e, aCons_e, sVar_0, sVar_1, aNil_e, ob_ok, List.length_cons, List.length_nil, and_self, if_true, e, sb_ex, sq_ex]
  unfold try1 nTryM
  rw [b]
  exact hand_nx onlyN_yes fun a dd => ⟨_, suite_NoPart_3, rfl⟩
theorem try2_yes {h1 : HH} {v : Val} (e : F_row_at C_NoPart C_NoProgram C_NoRow [.tup ps, w, r] h = .ok v h1) : try2 C_Busy C_NoHook C_NoMark C_NoNumbers C_NoPart C_NoProgram C_NoRow C_NoText C_NoWord C_TooLong C_TooMany C_Unsound [some (.tup ps), some w, some r, a3, a4, a5] h = .go .nx [some (.tup ps), some w, some r, a3, a4, some v] h1 := by
  have b : (nSeq (nSet 5 (sCall (F_row_at C_NoPart C_NoProgram C_NoRow) 3 0 3 (fun ws _ => ws) (aCons (sVar 0) (aCons (sVar 1) (aCons (sVar 2) aNil))) aNil)) nNext) [some (.tup ps), some w, some r, a3, a4, a5] h = .go .nx [some (.tup ps), some w, some r, a3, a4, some v] h1 := by
    simp -implicitDefEqProofs only [nSeq_e, nSet_e, sCall_e, aCons_e, sVar_0, sVar_1, sVar_2, aNil_e, ob_ok, List.length_cons, List.length_nil, and_self, if_true, e, sb_ok, sq_nx, List.set_cons_zero, List.set_cons_succ, nNext_e]
  unfold try2 nTryM
  rw [b]
theorem try2_part {h1 : HH} (e : F_row_at C_NoPart C_NoProgram C_NoRow [.tup ps, w, r] h = .ex ⟨.ref C_NoPart, [("name", w)]⟩ h1) : try2 C_Busy C_NoHook C_NoMark C_NoNumbers C_NoPart C_NoProgram C_NoRow C_NoText C_NoWord C_TooLong C_TooMany C_Unsound [some (.tup ps), some w, some r, a3, a4, a5] h = .go .nx [some (.tup ps), some w, some r, a3, none, some (.lst [.str "NoPart", w])] h1 := by
  have b : (nSeq (nSet 5 (sCall (F_row_at C_NoPart C_NoProgram C_NoRow) 3 0 3 (fun ws _ => ws) (aCons (sVar 0) (aCons (sVar 1) (aCons (sVar 2) aNil))) aNil)) nNext) [some (.tup ps), some w, some r, a3, a4, a5] h = .go (.ex ⟨.ref C_NoPart, [("name", w)]⟩) [some (.tup ps), some w, some r, a3, a4, a5] h1 := by
    simp -implicitDefEqProofs only [nSeq_e, nSet_e, sCall_e, aCons_e, sVar_0, sVar_1, sVar_2, aNil_e, ob_ok, List.length_cons, List.length_nil, and_self, if_true, e, sb_ex, sq_ex]
  unfold try2 nTryM
  rw [b]
  exact hand_nx onlyN_yes fun a dd => ⟨_, suite_NoPart_5, rfl⟩
theorem try2_row {h1 : HH} (ne : C_NoPart ≠ C_NoRow) (e : F_row_at C_NoPart C_NoProgram C_NoRow [.tup ps, w, r] h = .ex ⟨.ref C_NoRow, [("row", r)]⟩ h1) : try2 C_Busy C_NoHook C_NoMark C_NoNumbers C_NoPart C_NoProgram C_NoRow C_NoText C_NoWord C_TooLong C_TooMany C_Unsound [some (.tup ps), some w, some r, a3, a4, a5] h = .go .nx [some (.tup ps), some w, some r, a3, none, some (.lst [.str "NoRow", r])] h1 := by
  have b : (nSeq (nSet 5 (sCall (F_row_at C_NoPart C_NoProgram C_NoRow) 3 0 3 (fun ws _ => ws) (aCons (sVar 0) (aCons (sVar 1) (aCons (sVar 2) aNil))) aNil)) nNext) [some (.tup ps), some w, some r, a3, a4, a5] h = .go (.ex ⟨.ref C_NoRow, [("row", r)]⟩) [some (.tup ps), some w, some r, a3, a4, a5] h1 := by
    simp -implicitDefEqProofs only [nSeq_e, nSet_e, sCall_e, aCons_e, sVar_0, sVar_1, sVar_2, aNil_e, ob_ok, List.length_cons, List.length_nil, and_self, if_true, e, sb_ex, sq_ex]
  unfold try2 nTryM
  rw [b]
  dsimp only
  rw [hand_no (onlyN_no ne (by simp))]
  exact hand_nx onlyN_yes fun a dd => ⟨_, suite_NoRow_5, rfl⟩
end
/-- what is due -/
def dueA (w : Val) : Val := .lst [.lst [.str "NoPart", w], .lst [.str "NoPart", w]]
def dueB (n : Nat) (rows : List Val) (r : Val) : Val := .lst [.int (n : Nat), (rowIn rows r).getD (.lst [.str "NoRow", r])]
section
variable {C_Busy C_NoHook C_NoMark C_NoNumbers C_NoPart C_NoProgram C_NoRow C_NoText C_NoWord C_TooLong C_TooMany C_Unsound : Addr} {ps : List Val} {w r : Val} {h : HH}
theorem l2 (a b : Val) (g : HH) : fLst [a, b] g = .ok (.lst [a, b]) g := fLst_ok (by simp)
theorem told_no (g : Gpr ps) (o : Odd w) (no : ∀ x, w = .str x → x ∉ ps.map nmO) : ∃ h', F__law_told C_Busy C_NoHook C_NoMark C_NoNumbers C_NoPart C_NoProgram C_NoRow C_NoText C_NoWord C_TooLong C_TooMany C_Unsound [.tup ps, w, r] h = .ok (dueA w) h' ∧ Kn h h' := by
  obtain ⟨h1, e1, k1⟩ := pn_no (CA := C_NoPart) (CP := C_NoProgram) g o no (h := h)
  obtain ⟨h2, e2, k2⟩ := ra_no (CA := C_NoPart) (CP := C_NoProgram) (CR := C_NoRow) (r := r) g o no (h := h1)
  refine ⟨h2, ?_, k1.trans k2⟩
  rw [e__law_told, told_is, nSeq_e, try1_no e1, sq_nx, nSeq_e, try2_part e2]
  simp -implicitDefEqProofs only [sq_nx, nSeq_e, nRet_e, sArgs_e, aCons_e, sVar_s, sVar_0, aNil_e, ob_ok, l2, sb_ok, sq_ret, outOf_ret, sVar_2, sVar_1]
  rfl
theorem told_yes (ne : C_NoPart ≠ C_NoRow) (g : Gpr ps) {n : Nat} {p : Val} (e : ps[n]? = some p) (o : Odd r) : ∃ h', F__law_told C_Busy C_NoHook C_NoMark C_NoNumbers C_NoPart C_NoProgram C_NoRow C_NoText C_NoWord C_TooLong C_TooMany C_Unsound [.tup ps, .str (nmO p), r] h = .ok (dueB n (rowsO p) r) h' ∧ Kn h h' := by
  obtain ⟨h1, e1, k1⟩ := pn_yes (CA := C_NoPart) (CP := C_NoProgram) g e (h := h)
  unfold dueB
  cases er : rowIn (rowsO p) r with
  | none =>
    obtain ⟨h2, e2, k2⟩ := ra_row (CA := C_NoPart) (CP := C_NoProgram) (CR := C_NoRow) g e o er (h := h1)
    refine ⟨h2, ?_, k1.trans k2⟩
    rw [e__law_told, told_is, nSeq_e, try1_yes e1, sq_nx, nSeq_e, try2_row ne e2]
    simp -implicitDefEqProofs only [sq_nx, nSeq_e, nRet_e, sArgs_e, aCons_e, sVar_s, sVar_0, aNil_e, ob_ok, l2, sb_ok, sq_ret, outOf_ret, sVar_2, sVar_1]
    rfl
  | some x =>
    obtain ⟨h2, e2, k2⟩ := ra_yes (CA := C_NoPart) (CP := C_NoProgram) (CR := C_NoRow) g e o er (h := h1)
    refine ⟨h2, ?_, k1.trans k2⟩
    rw [e__law_told, told_is, nSeq_e, try1_yes e1, sq_nx, nSeq_e, try2_yes e2]
    simp -implicitDefEqProofs only [sq_nx, nSeq_e, nRet_e, sArgs_e, aCons_e, sVar_s, sVar_0, aNil_e, ob_ok, l2, sb_ok, sq_ret, outOf_ret, sVar_2, sVar_1]
    rfl
end
end K03
namespace K03
open PySem PySem.Spec PyProof.Rows L2 Z
theorem eqS {x k : Str} : eqF (.str x) (.str k) = decide (x = k) := by
  show (x == k) = _
  by_cases c : x = k
  · rw [decide_eq_true c, c]; exact beq_self_eq_true k
  · rw [decide_eq_false c]; exact beq_eq_false_iff_ne.mpr c
theorem any_str {acc : List Str} {k : Str} : ((acc.map Val.str).any fun y => eqF y (.str k)) = decide (k ∈ acc) := by
  rw [Bool.eq_iff_iff, List.any_eq_true, decide_eq_true_eq]
  constructor
  · rintro ⟨w, hw, e⟩
    obtain ⟨x, hx, rfl⟩ := List.mem_map.mp hw
    rw [eqS, decide_eq_true_eq] at e
    exact e ▸ hx
  · intro hk
    exact ⟨.str k, List.mem_map.mpr ⟨k, hk, rfl⟩, by rw [eqS, decide_eq_true_eq]⟩
theorem flat_strs (acc : List Str) : (acc.map Val.str).all flat = true := by
  rw [List.all_eq_true]
  intro w hw
  obtain ⟨x, _, rfl⟩ := List.mem_map.mp hw
  rfl
theorem idx_name {y : Str} : ∀ (ps : List Val) (k n : Nat) (p : Val), (ps.map nmO).Nodup → ps[n]? = some p → nmO p = y → idxF (.str y) ((ps.map nmO).map Val.str) k = some (k + n)
  | [], _, _, _, _, e, _ => by simp at e
  | p :: ps, k, 0, q, nd, e, n => by
    cases e
    show (if eqF (.str (nmO p)) (.str y) = true then some k else _) = _
    rw [eqS, if_pos (decide_eq_true n)]; rfl
  | p :: ps, k, j + 1, q, nd, e, n => by
    rw [List.map_cons, List.nodup_cons] at nd
    have e' : ps[j]? = some q := by simpa using e
    have ne : ¬ nmO p = y := fun z => nd.1 (List.mem_map.mpr ⟨q, List.mem_of_getElem? e', n.trans z.symm⟩)
    show (if eqF (.str (nmO p)) (.str y) = true then some k else idxF (.str y) ((ps.map nmO).map Val.str) (k + 1)) = _
    rw [eqS, if_neg (by simpa using ne), idx_name ps (k + 1) j q nd.2 e' n]
    congr 1
    omega
theorem hdn_lc {ps : List Val} (g : Gpr ps) {w r : Val} {h : HH} : sLc (iVal (sVar 0)) (gNm 6) tYesZ (sBin bIx (sVar 6) (sC (.int 0))) [6] [some (.tup ps), some w, some r, none, none, none, none] h = .ok (.lst ((ps.map nmO).map Val.str)) h := by
  have := sLc_map (mi := iVal (sVar 0)) (i := 6) (m := sBin bIx (sVar 6) (sC (.int 0))) (own := [6]) (ro := [some (.tup ps), some w, some r, none, none, none, none]) (h := h) (xs := ps) (f := fun w => .str (nmO w)) (by simp -implicitDefEqProofs only [iVal_e, sVar_0, ob_ok, itmV_tup]) fun p hp => by
    obtain ⟨nm, b, c, rfl⟩ := gpr_form g p hp
    have v : sVar 6 ((wipeN [some (.tup ps), some w, some r, none, none, none, none] [6]).set 6 (some (.tup [.str nm, b, c]))) h = .ok (.tup [.str nm, b, c]) h := rfl
    simp -implicitDefEqProofs only [sBin_e, v, sC_e, ob_ok, ix_t0]
    rfl
  rw [this, List.map_map]
  rfl
section
variable {ps : List Val} {w r : Val} {h : HH}
theorem due_no (g : Gpr ps) (o : Odd w) (no : ∀ x, w = .str x → x ∉ ps.map nmO) : F__law_due [.tup ps, w, r] h = .ok (dueA w) h := by
  have lc := hdn_lc g (w := w) (r := r) (h := h)
  have is := isi_str (h := h) o.pl
  rw [e__law_due]
  cases q : isStr w with
  | false =>
    rw [q] at is
    simp -implicitDefEqProofs only [m__law_due, nSeq_e, nSet_e, lc, sb_ok, sq_nx, List.set_cons_zero, List.set_cons_succ, nIf_e, cOr_e, cNot_e, cV_e, sArgs_e, aCons_e, sVar_1, sC_e, aNil_e, ob_ok, is, tr_bl, Bool.not_false, if_true, nRet_e, l2, sq_ret, outOf_ret]
    rfl
  | true =>
    obtain ⟨x, rfl⟩ : ∃ x, w = .str x := by
      cases w with
      | str x => exact ⟨x, rfl⟩
      | _ => cases q
    rw [q] at is
    have ni : bIn true (.str x) (.lst ((ps.map nmO).map Val.str)) h = .ok (.bl true) h := by
      rw [notin_l rfl (flat_strs _), any_str, decide_eq_false (no x rfl)]; rfl
    simp -implicitDefEqProofs only [m__law_due, nSeq_e, nSet_e, lc, sb_ok, sq_nx, List.set_cons_zero, List.set_cons_succ, nIf_e, cOr_e, cNot_e, cV_e, sArgs_e, aCons_e, sVar_1, sVar_s, sVar_0, sC_e, aNil_e, ob_ok, is, tr_bl, Bool.not_true, Bool.false_eq_true, if_false, cBin_e, ni, unB_bl, if_true, nRet_e, l2, sq_ret, outOf_ret]
    rfl
theorem due_yes (g : Gpr ps) {n : Nat} {p : Val} (e : ps[n]? = some p) (o : Odd r) : F__law_due [.tup ps, .str (nmO p), r] h = .ok (dueB n (rowsO p) r) h := by
  have hp := List.mem_of_getElem? e
  obtain ⟨nm, ns, ep, en, l⟩ := gpr_rows g hp
  obtain ⟨nd, l8, _⟩ := gpr_nd g
  have lc := hdn_lc g (w := .str (nmO p)) (r := r) (h := h)
  have is : fIsi [.str (nmO p), .ty "str"] h = .ok (.bl true) h := rfl
  have ni : bIn true (.str (nmO p)) (.lst ((ps.map nmO).map Val.str)) h = .ok (.bl false) h := by
    rw [notin_l rfl (flat_strs _), any_str, decide_eq_true (List.mem_map.mpr ⟨p, hp, rfl⟩)]; rfl
  have ix0 : mIdxL (.lst ((ps.map nmO).map Val.str)) [.str (nmO p)] h = .ok (.int (n : Nat)) h := by
    show (if flat (.str (nmO p)) = true ∧ ((ps.map nmO).map Val.str).all flat = true then match idxF (.str (nmO p)) ((ps.map nmO).map Val.str) 0 with
      | some j => Out.ok (Val.int (j : Nat)) h
      | none => .bad
      else .bad) = _
    rw [if_pos ⟨rfl, flat_strs _⟩, idx_name ps 0 n p nd e rfl, Nat.zero_add]
  have mt : ∀ ro : En, ro[1]? = some (some (.str (nmO p))) → mtI mIdxL (aCons (sVar 1) aNil) ro (.lst ((ps.map nmO).map Val.str)) h = .ok (.int (n : Nat)) h := fun ro e1 => by
    have : aCons (sVar 1) aNil ro h = .ok [.str (nmO p)] h := by
      rw [aCons_e, sVar_e e1]; rfl
    show obind (aCons (sVar 1) aNil ro h) _ = _
    rw [this]
    exact ix0
  have ix : bIx (.tup ps) (.int (n : Nat)) h = .ok p h := ix_t e
  have ix2 : bIx p (.int 2) h = .ok (.tup (rowsO p)) h := by
    rw [ep]; exact ix_t2
  have ib := isi_bool (h := h) o.pl
  have ii := isi_int (h := h) o.pl
  have ln : fLen [.tup (rowsO p)] h = .ok (.int ((rowsO p).length : Nat)) h := rfl
  rw [e__law_due]
  unfold dueB
  simp -implicitDefEqProofs only [m__law_due, nSeq_e, nSet_e, lc, sb_ok, sq_nx, List.set_cons_zero, List.set_cons_succ, nIf_e, cOr_e, cNot_e, cV_e, sArgs_e, aCons_e, sVar_1, sVar_s, sVar_0, sVar_2, sC_e, aNil_e, ob_ok, is, tr_bl, Bool.not_true, Bool.false_eq_true, if_false, cBin_e, ni, unB_bl, nNext_e, sMtI_e]
  rw [mt _ rfl]
  simp -implicitDefEqProofs only [sb_ok, sq_nx, List.set_cons_zero, List.set_cons_succ, nSeq_e, nSet_e, sBin_e, sVar_1, sVar_s, sVar_0, sVar_2, sC_e, ob_ok, ix, ix2, nIf_e, cOr_e, cNot_e, cV_e, sArgs_e, aCons_e, aNil_e, ib, ii, tr_bl]
  generalize rowsO p = rows at ep l ln ⊢
  by_cases c : ∃ k, r = .int k
  · obtain ⟨k, rfl⟩ := c
    have b1 : isBl (.int k) = false := rfl
    have b2 : Z.isInt (.int k) = true := rfl
    by_cases c0 : 0 ≤ k
    · by_cases c1 : k < (rows.length : Nat)
      · have er : rowIn rows (.int k) = some (rows[k.toNat]'(by omega)) := by
          show (if 0 ≤ k then rows[k.toNat]? else none) = _
          rw [if_pos c0, List.getElem?_eq_getElem (by omega)]
        have ix3 : bIx (.tup rows) (.int k) h = .ok (rows[k.toNat]'(by omega)) h := by
          obtain ⟨j, rfl⟩ := Int.eq_ofNat_of_zero_le c0
          exact ix_t (List.getElem?_eq_getElem (by omega))
        rw [er, b1, b2]
        simp -implicitDefEqProofs [ln, c0, c1, ix3, l2]
      · have er : rowIn rows (.int k) = none := by
          show (if 0 ≤ k then rows[k.toNat]? else none) = _
          rw [if_pos c0, List.getElem?_eq_none (by omega)]
        rw [er, b1, b2]
        simp -implicitDefEqProofs [ln, c0, c1, l2]
    · have er : rowIn rows (.int k) = none := by
        show (if 0 ≤ k then rows[k.toNat]? else none) = _
        rw [if_neg c0]
      rw [er, b1, b2]
      simp -implicitDefEqProofs [ln, c0, l2]
  · have er : rowIn rows r = none := by
      cases r with
      | int k => exact absurd ⟨k, rfl⟩ c
      | _ => rfl
    rw [er]
    have f := o.fn
    cases r with
    | int k => exact absurd ⟨k, rfl⟩ c
    | bl b =>
      have b1 : isBl (.bl b) = true := rfl
      rw [b1]
      simp -implicitDefEqProofs [l2]
    | ref _ => cases f
    | glo _ => cases f
    | ty _ => cases f
    | scr _ => cases f
    | exn => cases f
    | non =>
      have b1 : isBl .non = false := rfl
      have b2 : Z.isInt .non = false := rfl
      rw [b1, b2]
      simp -implicitDefEqProofs [l2]
    | str x =>
      have b1 : isBl (.str x) = false := rfl
      have b2 : Z.isInt (.str x) = false := rfl
      rw [b1, b2]
      simp -implicitDefEqProofs [l2]
    | tup x =>
      have b1 : isBl (.tup x) = false := rfl
      have b2 : Z.isInt (.tup x) = false := rfl
      rw [b1, b2]
      simp -implicitDefEqProofs [l2]
    | lst x =>
      have b1 : isBl (.lst x) = false := rfl
      have b2 : Z.isInt (.lst x) = false := rfl
      rw [b1, b2]
      simp -implicitDefEqProofs [l2]
end
/-! ### all that is told is plain -/
theorem sz_fine0 {w : Val} (f : fine 0 0 w = true) : sz w ≤ 202 := by
  cases w with
  | str x =>
    have f' : (PyData.strOk x && decide (x.length ≤ 20)) = true := f
    rw [Bool.and_eq_true, decide_eq_true_eq] at f'
    have e : sz (.str x) = 10 * x.length + 2 := rfl
    omega
  | non => decide
  | bl _ => show (5 : Nat) ≤ 202; omega
  | int _ => show (60 : Nat) ≤ 202; omega
  | _ => cases f
theorem szs_le2 {m : Nat} : ∀ {xs : List Val}, (∀ w ∈ xs, sz w ≤ m) → szs xs ≤ xs.length * (m + 2)
  | [], _ => by show 0 ≤ _; exact Nat.zero_le _
  | x :: xs, hx => by
    have e : szs (x :: xs) = sz x + 2 + szs xs := rfl
    have a := hx x List.mem_cons_self
    have b := szs_le2 fun w hw => hx w (List.mem_cons_of_mem _ hw)
    rw [List.length_cons, Nat.add_mul, Nat.one_mul]
    omega
theorem sz_fine1 {w : Val} (f : fine 0 1 w = true) : sz w ≤ 21000 := by
  have key : ∀ xs : List Val, xs.length ≤ 100 + 0 → (∀ w ∈ xs, fine 0 0 w = true) → szs xs + 3 ≤ 21000 := by
    intro xs l q
    have := szs_le2 (m := 202) fun w hw => sz_fine0 (q w hw)
    omega
  cases w with
  | tup xs =>
    obtain ⟨l, q⟩ := fine_tup.mp f
    exact key xs l q
  | lst xs =>
    obtain ⟨l, q⟩ := fine_lst.mp f
    exact key xs l q
  | str x =>
    have := sz_fine0 (w := .str x) f
    omega
  | non => decide
  | bl _ => show (5 : Nat) ≤ 21000; omega
  | int _ => show (60 : Nat) ≤ 21000; omega
  | _ => cases f
theorem fine_dueA {w : Val} (o : Odd w) : fine 0 6 (dueA w) = true ∧ sz (dueA w) ≤ 50000 := by
  have f := fine_mono (Nat.le_refl 0) 4 4 w (Nat.le_refl _) o.fn
  have z := o.sm
  refine ⟨?_, ?_⟩
  · have i : fine 0 5 (.lst [.str "NoPart", w]) = true := fine_lst.mpr ⟨by simp, fun v hv => by
      rcases List.mem_cons.mp hv with rfl | hv
      · decide +kernel
      · rw [List.mem_singleton.mp hv]; exact f⟩
    exact fine_lst.mpr ⟨by simp, fun v hv => by
      simp only [List.mem_cons, List.not_mem_nil, or_false, or_self] at hv
      rw [hv]; exact i⟩
  · have e : sz (dueA w) = (10 * Str.length "NoPart" + 2 + 2 + (sz w + 2 + 0) + 3) + 2 + ((10 * Str.length "NoPart" + 2 + 2 + (sz w + 2 + 0) + 3) + 2 + 0) + 3 := rfl
    have : Str.length "NoPart" = 6 := by decide +kernel
    omega
theorem fine_dueB {ps : List Val} (g : Gpr ps) {n : Nat} {p : Val} (e : ps[n]? = some p) {r : Val} (o : Odd r) : fine 0 6 (dueB n (rowsO p) r) = true ∧ sz (dueB n (rowsO p) r) ≤ 50000 := by
  have hp := List.mem_of_getElem? e
  obtain ⟨_, l8, _⟩ := gpr_nd g
  have hn : n < 8 := by
    have := (List.getElem?_eq_some_iff.mp e).1
    omega
  have core : ∀ x : Val, fine 0 5 x = true → sz x ≤ 21000 → fine 0 6 (.lst [.int (n : Nat), x]) = true ∧ sz (.lst [.int (n : Nat), x]) ≤ 50000 := by
    intro x f z
    refine ⟨fine_lst.mpr ⟨by simp, fun v hv => ?_⟩, ?_⟩
    · rcases List.mem_cons.mp hv with rfl | hv
      · show decide ((n : Int).natAbs ≤ 10 ^ 39 + 0) = true
        rw [decide_eq_true_eq, Int.natAbs_natCast]
        exact Nat.le_trans (Nat.le_of_lt hn) (by decide)
      · rw [List.mem_singleton.mp hv]; exact f
    · have e : sz (.lst [.int (n : Nat), x]) = 60 + 2 + (sz x + 2 + 0) + 3 := rfl
      omega
  unfold dueB
  cases er : rowIn (rowsO p) r with
  | none =>
    refine core _ ?_ ?_
    · exact fine_lst.mpr ⟨by simp, fun v hv => by
        rcases List.mem_cons.mp hv with rfl | hv
        · decide +kernel
        · rw [List.mem_singleton.mp hv]; exact o.fn⟩
    · have e : sz (.lst [.str "NoRow", r]) = 10 * Str.length "NoRow" + 2 + 2 + (sz r + 2 + 0) + 3 := rfl
      have : Str.length "NoRow" = 5 := by decide +kernel
      have := o.sm
      show sz (.lst [.str "NoRow", r]) ≤ _
      omega
  | some x =>
    have hx : x ∈ rowsO p := by
      cases r with
      | int z =>
        have er' : (if 0 ≤ z then (rowsO p)[z.toNat]? else none) = some x := er
        by_cases c : 0 ≤ z
        · rw [if_pos c] at er'
          exact List.mem_of_getElem? er'
        · rw [if_neg c] at er'; cases er'
      | _ => cases er
    obtain ⟨nm, ns, ep, _, _⟩ := gpr_rows g hp
    have f1 := (fine_tup.mp g.fn).2 p hp
    generalize rowsO p = rows at ep hx
    subst ep
    have f2 := (fine_tup.mp ((fine_tup.mp f1).2 (.tup rows) (by simp))).2 x hx
    exact core x (fine_mono (Nat.le_refl 0) 1 5 x (by omega) f2) (sz_fine1 f2)
end K03
namespace K03
open PySem PySem.Spec PyProof.Rows L2 Z
def THS : List Val := [.non, .bl true, .bl false, .int (-1), .int 60, .int (10 ^ 39), .str "", .str "none", .str "Main", .str "abcdefghi", .lst [], .tup [], .tup [.int 0], .lst [.str "a"], .tup [.str "back"], .lst [.lst [.int 0]]]
theorem ths_odd : ∀ w ∈ THS, Odd w := by
  intro w hw
  simp only [THS, List.mem_cons, List.not_mem_nil, or_false] at hw
  rcases hw with rfl | rfl | rfl | rfl | rfl | rfl | rfl | rfl | rfl | rfl | rfl | rfl | rfl | rfl | rfl | rfl <;> exact ⟨by decide +kernel, by decide +kernel⟩
theorem ev_odd {b c : Nat} {h : HH} (B : BagK b c h) (hc : c ≤ 2 ^ 28) : ∃ w h', F__law_odd [.ref b] h = .ok w h' ∧ Odd w ∧ Aft b (c + 1) h h' := by
  obtain ⟨v, h1, t, l, u, A⟩ := ev_take (many := 16) B (by omega) (by decide) (by decide)
  obtain ⟨x, m, q⟩ := ix_any (xs := THS) (h := h1) l (by simpa [THS] using u)
  refine ⟨x, h1, ?_, ths_odd _ m, A⟩
  have pw : bPow (.int 10) (.int 39) h = .ok (.int (10 ^ 39)) h := pow_ii (n := 4) (j := 39) (by decide) (by decide)
  have f1 : ∀ (a : Val) (g : HH), fLst [a] g = .ok (.lst [a]) g := fun a g => fLst_ok (by simp)
  have f0 : ∀ (g : HH), fLst [] g = .ok (.lst []) g := fun g => fLst_ok (by simp)
  have p1 : ∀ (a : Val) (g : HH), fTup [a] g = .ok (.tup [a]) g := fun a g => fTup_ok (by simp)
  have pz : ∀ (g : HH), fTup [] g = .ok (.tup []) g := fun g => fTup_ok (by simp)
  have ng : uNeg (.int 1) h = .ok (.int (-1)) h := rfl
  have ft : fLst [.non, .bl true, .bl false, .int (-1), .int 60, .int (10 ^ 39), .str "", .str "none", .str "Main", .str "abcdefghi", .lst [], .tup [], .tup [.int 0], .lst [.str "a"], .tup [.str "back"], .lst [.lst [.int 0]]] h = .ok (.lst THS) h := fLst_ok (by simp)
  rw [e__law_odd]
  simp -implicitDefEqProofs only [m__law_odd, nSeq_e, nSet_e, sCall_e, aCons_e, sVar_1, sVar_0, aNil_e, ob_ok, List.length_cons, List.length_nil, and_self, if_true, sb_ok, sq_nx, List.set_cons_zero, List.set_cons_succ, sArgs_e, sC_e, sUn_e, ng, sBin_e, pw, f0, f1, pz, p1, ft, t, q, nRet_e, sq_ret, outOf_ret]
theorem bag_kn {b c : Nat} {h h' : HH} (B : BagK b c h) (k : Kn h h') : BagK b c h' := by
  have lb := B.lt
  obtain ⟨f, l, s, e, z⟩ := B
  exact ⟨f, l, s, (k.2 b lb).trans e, z⟩
section
variable {C_Busy C_NoHook C_NoMark C_NoNumbers C_NoPart C_NoProgram C_NoRow C_NoText C_NoWord C_TooLong C_TooMany C_Unsound : Addr} {ps : List Val} {h : HH}
/-- what is told is what is due -/
theorem both (ne : C_NoPart ≠ C_NoRow) (g : Gpr ps) {w r : Val} (ow : Odd w) (or : Odd r) : ∃ d h', F__law_told C_Busy C_NoHook C_NoMark C_NoNumbers C_NoPart C_NoProgram C_NoRow C_NoText C_NoWord C_TooLong C_TooMany C_Unsound [.tup ps, w, r] h = .ok d h' ∧ Kn h h' ∧ (∀ k, F__law_due [.tup ps, w, r] k = .ok d k) ∧ fine 0 6 d = true ∧ sz d ≤ 50000 := by
  by_cases c : ∃ x, w = .str x ∧ x ∈ ps.map nmO
  · obtain ⟨x, rfl, hx⟩ := c
    obtain ⟨p, hp, rfl⟩ := List.mem_map.mp hx
    obtain ⟨n, hn, e⟩ := List.getElem_of_mem hp
    have e' : ps[n]? = some p := by rw [List.getElem?_eq_getElem hn, e]
    obtain ⟨h', t, k⟩ := told_yes ne g e' or (h := h) (C_Busy := C_Busy) (C_NoHook := C_NoHook) (C_NoMark := C_NoMark) (C_NoNumbers := C_NoNumbers) (C_NoPart := C_NoPart) (C_NoProgram := C_NoProgram) (C_NoRow := C_NoRow) (C_NoText := C_NoText) (C_NoWord := C_NoWord) (C_TooLong := C_TooLong) (C_TooMany := C_TooMany) (C_Unsound := C_Unsound)
    exact ⟨_, h', t, k, fun k => due_yes g e' or, fine_dueB g e' or⟩
  · have no : ∀ x, w = .str x → x ∉ ps.map nmO := fun x e m => c ⟨x, e, m⟩
    obtain ⟨h', t, k⟩ := told_no (r := r) g ow no (h := h) (C_Busy := C_Busy) (C_NoHook := C_NoHook) (C_NoMark := C_NoMark) (C_NoNumbers := C_NoNumbers) (C_NoPart := C_NoPart) (C_NoProgram := C_NoProgram) (C_NoRow := C_NoRow) (C_NoText := C_NoText) (C_NoWord := C_NoWord) (C_TooLong := C_TooLong) (C_TooMany := C_TooMany) (C_Unsound := C_Unsound)
    exact ⟨_, h', t, k, fun k => due_no g ow no, fine_dueA ow⟩
theorem name_odd (g : Gpr ps) {p : Val} (hp : p ∈ ps) : ∃ rest, p = .tup (.str (nmO p) :: rest) ∧ Odd (.str (nmO p)) := by
  obtain ⟨nm, ns, ep, en, _⟩ := gpr_rows g hp
  have f1 := (fine_tup.mp g.fn).2 p hp
  rw [en]
  generalize rowsO p = rows at ep
  subst ep
  have f2 := (fine_tup.mp f1).2 (.str nm) (by simp)
  have f0 : fine 0 0 (.str nm) = true := f2
  exact ⟨_, rfl, fine_mono (Nat.le_refl 0) 0 4 _ (by omega) f0, Nat.le_trans (sz_fine0 f0) (by omega)⟩
theorem int_odd {v : Int} (l : -1 ≤ v) (u : v < 1000) : Odd (.int v) := by
  refine ⟨?_, by show (60 : Nat) ≤ 1000; omega⟩
  show decide (v.natAbs ≤ 10 ^ 39 + 0) = true
  rw [decide_eq_true_eq]
  exact Nat.le_trans (show v.natAbs ≤ 1000 by omega) (by decide)
noncomputable def inBody (C_Busy C_NoHook C_NoMark C_NoNumbers C_NoPart C_NoProgram C_NoRow C_NoText C_NoWord C_TooLong C_TooMany C_Unsound : Addr) : SS := (nSeq (nSet 5 (sBin bIx (sBin bIx (sVar 3) (sCall F__law_take 2 0 2 (fun ws _ => ws) (aCons (sVar 2) (aCons (sArgs fLen (aCons (sVar 3) aNil)) aNil)) aNil)) (sC (.int 0)))) (nSeq (nSet 6 (sBin bSub (sCall F__law_take 2 0 2 (fun ws _ => ws) (aCons (sVar 2) (aCons (sC (.int 14)) aNil)) aNil) (sC (.int 1)))) (nSeq (nIf (cBin (bOrd fun i j => decide (j < i)) (sVar 4) (sC (.int 7))) (nSeq (nSet 5 (sBin bIx (sArgs fLst (aCons (sVar 5) (aCons (sCall F__law_odd 1 0 1 (fun ws _ => ws) (aCons (sVar 2) aNil) aNil) aNil))) (sCall F__law_take 2 0 2 (fun ws _ => ws) (aCons (sVar 2) (aCons (sC (.int 2)) aNil)) aNil))) (nSeq (nSet 6 (sBin bIx (sArgs fLst (aCons (sVar 6) (aCons (sCall F__law_odd 1 0 1 (fun ws _ => ws) (aCons (sVar 2) aNil) aNil) aNil))) (sCall F__law_take 2 0 2 (fun ws _ => ws) (aCons (sVar 2) (aCons (sC (.int 2)) aNil)) aNil))) nNext)) nNext) (nSeq (nIf (cNot (cV (sCall F__law_alike 2 0 2 (fun ws _ => ws) (aCons (sCall (F__law_told C_Busy C_NoHook C_NoMark C_NoNumbers C_NoPart C_NoProgram C_NoRow C_NoText C_NoWord C_TooLong C_TooMany C_Unsound) 3 0 3 (fun ws _ => ws) (aCons (sVar 3) (aCons (sVar 5) (aCons (sVar 6) aNil))) aNil) (aCons (sCall F__law_due 3 0 3 (fun ws _ => ws) (aCons (sVar 3) (aCons (sVar 5) (aCons (sVar 6) aNil))) aNil) aNil)) aNil))) (nSeq (nRet (sC (.bl false))) nNext) nNext) nNext))))
noncomputable def lawBody (C_Busy C_NoHook C_NoMark C_NoNumbers C_NoPart C_NoProgram C_NoRow C_NoText C_NoWord C_TooLong C_TooMany C_Unsound : Addr) : SS := (nSeq (nSet 2 (sCall F__law_bag 2 0 2 (fun ws _ => ws) (aCons (sVar 0) (aCons (sVar 1) aNil)) aNil)) (nSeq (nSet 3 (sCall F__law_any_program 1 0 1 (fun ws _ => ws) (aCons (sVar 2) aNil) aNil)) (nSeq (nFor (iRgN 1 (aCons (sC (.int 16)) aNil)) (gNm 4) (inBody C_Busy C_NoHook C_NoMark C_NoNumbers C_NoPart C_NoProgram C_NoRow C_NoText C_NoWord C_TooLong C_TooMany C_Unsound)) nNext)))
theorem law_is (C_Busy C_NoHook C_NoMark C_NoNumbers C_NoPart C_NoProgram C_NoRow C_NoText C_NoWord C_TooLong C_TooMany C_Unsound : Addr) : m_law C_Busy C_NoHook C_NoMark C_NoNumbers C_NoPart C_NoProgram C_NoRow C_NoText C_NoWord C_TooLong C_TooMany C_Unsound = (nSeq (nFor (iRgN 1 (aCons (sArgs fMax (aCons (sC (.int 2)) (aCons (sArgs fMin (aCons (sC (.int 6)) (aCons (sArgs fLen (aCons (sVar 0) aNil)) aNil))) aNil))) aNil)) (gNm 1) (lawBody C_Busy C_NoHook C_NoMark C_NoNumbers C_NoPart C_NoProgram C_NoRow C_NoText C_NoWord C_TooLong C_TooMany C_Unsound)) (nSeq (nRet (sC (.bl true))) nNext)) := rfl
theorem in_turn (ne : C_NoPart ≠ C_NoRow) (g : Gpr ps) {b c k : Nat} {a0 a1 a5 a6 : Option Val} (B : BagK b c h) (hc : c ≤ 2 ^ 20) :
    ∃ b5 b6 h', inBody C_Busy C_NoHook C_NoMark C_NoNumbers C_NoPart C_NoProgram C_NoRow C_NoText C_NoWord C_TooLong C_TooMany C_Unsound [a0, a1, some (.ref b), some (.tup ps), some (.int (k : Nat)), a5, a6] h = .go .nx [a0, a1, some (.ref b), some (.tup ps), some (.int (k : Nat)), b5, b6] h' ∧ BagK b (c + 8) h' := by
  obtain ⟨_, l8, l1⟩ := gpr_nd g
  obtain ⟨v1, h1, t1, u1, w1, A1⟩ := ev_take (many := (ps.length : Nat)) B (by omega) (by omega) (by omega)
  obtain ⟨p, hp, q1⟩ := ix_anyT (xs := ps) (h := h1) u1 w1
  obtain ⟨rest, ep, on⟩ := name_odd g hp
  have q2 : bIx p (.int 0) h1 = .ok (.str (nmO p)) h1 := by
    conv => lhs; rw [ep]
    exact ix_t0
  have ln : fLen [.tup ps] h = .ok (.int (ps.length : Nat)) h := rfl
  obtain ⟨v2, h2, t2, u2, w2, A2⟩ := ev_take (many := 14) A1.bag (by omega) (by decide) (by decide)
  have o2 : Odd (.int (v2 - 1)) := int_odd (by omega) (by omega)
  have sb : bSub (.int v2) (.int 1) h2 = .ok (.int (v2 - 1)) h2 := sub_ii
  -- the last row, from any part and row
  have fin : ∀ (w r : Val) (h3 : HH) (d : Nat), Odd w → Odd r → BagK b d h3 → ∃ h', (nSeq (nIf (cNot (cV (sCall F__law_alike 2 0 2 (fun ws _ => ws) (aCons (sCall (F__law_told C_Busy C_NoHook C_NoMark C_NoNumbers C_NoPart C_NoProgram C_NoRow C_NoText C_NoWord C_TooLong C_TooMany C_Unsound) 3 0 3 (fun ws _ => ws) (aCons (sVar 3) (aCons (sVar 5) (aCons (sVar 6) aNil))) aNil) (aCons (sCall F__law_due 3 0 3 (fun ws _ => ws) (aCons (sVar 3) (aCons (sVar 5) (aCons (sVar 6) aNil))) aNil) aNil)) aNil))) (nSeq (nRet (sC (.bl false))) nNext) nNext) nNext) [a0, a1, some (.ref b), some (.tup ps), some (.int (k : Nat)), some w, some r] h3 = .go .nx [a0, a1, some (.ref b), some (.tup ps), some (.int (k : Nat)), some w, some r] h' ∧ BagK b d h' := by
    intro w r h3 d ow or B3
    obtain ⟨x, h4, e1, kn, e2, f, z⟩ := both ne g ow or (h := h3) (C_Busy := C_Busy) (C_NoHook := C_NoHook) (C_NoMark := C_NoMark) (C_NoNumbers := C_NoNumbers) (C_NoPart := C_NoPart) (C_NoProgram := C_NoProgram) (C_NoRow := C_NoRow) (C_NoText := C_NoText) (C_NoWord := C_NoWord) (C_TooLong := C_TooLong) (C_TooMany := C_TooMany) (C_Unsound := C_Unsound)
    have e3 := ev_alike (h := h4) f z
    refine ⟨h4, ?_, bag_kn B3 kn⟩
    simp -implicitDefEqProofs only [nSeq_e, nIf_e, cNot_e, cV_e, sCall_e, aCons_e, sVar_2, sVar_s, sVar_1, sVar_0, aNil_e, ob_ok, List.length_cons, List.length_nil, and_self, if_true, e1, e2, e3, tr_bl, Bool.not_true, sb_ok, Bool.false_eq_true, if_false, nNext_e, sq_nx]
  by_cases ck : 7 < k
  · have dk : decide (((k : Nat) : Int) > 7) = true := decide_eq_true (by omega)
    have dk' : decide ((7 : Int) < ((k : Nat) : Int)) = true := decide_eq_true (by omega)
    obtain ⟨x3, h3, t3, o3, A3⟩ := ev_odd A2.bag (by omega)
    obtain ⟨v4, h4, t4, u4, w4, A4⟩ := ev_take (many := 2) A3.bag (by omega) (by decide) (by decide)
    obtain ⟨w5, m5, q5⟩ := ix_any (xs := [.str (nmO p), x3]) (h := h4) u4 (by simpa using w4)
    have o5 : Odd w5 := by
      simp only [List.mem_cons, List.not_mem_nil, or_false] at m5
      rcases m5 with rfl | rfl
      · exact on
      · exact o3
    obtain ⟨x6, h6, t6, o6, A6⟩ := ev_odd A4.bag (by omega)
    obtain ⟨v7, h7, t7, u7, w7, A7⟩ := ev_take (many := 2) A6.bag (by omega) (by decide) (by decide)
    obtain ⟨r8, m8, q8⟩ := ix_any (xs := [.int (v2 - 1), x6]) (h := h7) u7 (by simpa using w7)
    have o8 : Odd r8 := by
      simp only [List.mem_cons, List.not_mem_nil, or_false] at m8
      rcases m8 with rfl | rfl
      · exact o2
      · exact o6
    obtain ⟨h9, e9, B9⟩ := fin w5 r8 h7 _ o5 o8 A7.bag
    refine ⟨some w5, some r8, h9, ?_, B9.mono (by omega)⟩
    unfold inBody
    simp -implicitDefEqProofs only [nSeq_e, nSet_e, sCall_e, aCons_e, sVar_2, sVar_s, sVar_1, sVar_0, aNil_e, ob_ok, List.length_cons, List.length_nil, and_self, if_true, sb_ok, sq_nx, List.set_cons_zero, List.set_cons_succ, sArgs_e, sC_e, sBin_e, ln, t1, q1, q2, t2, sb, nIf_e, cBin_e, bOrd_e, unB_bl, dk, dk', t3, l2, t4, q5, t6, t7, q8, nNext_e]
    exact e9
  · have dk : decide (((k : Nat) : Int) > 7) = false := decide_eq_false (by omega)
    have dk' : decide ((7 : Int) < ((k : Nat) : Int)) = false := decide_eq_false (by omega)
    obtain ⟨h9, e9, B9⟩ := fin (.str (nmO p)) (.int (v2 - 1)) h2 _ on o2 A2.bag
    refine ⟨some (.str (nmO p)), some (.int (v2 - 1)), h9, ?_, B9.mono (by omega)⟩
    unfold inBody
    simp -implicitDefEqProofs only [nSeq_e, nSet_e, sCall_e, aCons_e, sVar_2, sVar_s, sVar_1, sVar_0, aNil_e, ob_ok, List.length_cons, List.length_nil, and_self, if_true, sb_ok, sq_nx, List.set_cons_zero, List.set_cons_succ, sArgs_e, sC_e, sBin_e, ln, t1, q1, q2, t2, sb, nIf_e, cBin_e, bOrd_e, unB_bl, dk, dk', Bool.false_eq_true, if_false, nNext_e]
    exact e9
theorem in_loop (ne : C_NoPart ≠ C_NoRow) (g : Gpr ps) {b : Nat} {a0 a1 a4 a5 a6 : Option Val} (B : BagK b 9000 h) :
    ∃ b4 b5 b6 h', turns (gNm 4) (inBody C_Busy C_NoHook C_NoMark C_NoNumbers C_NoPart C_NoProgram C_NoRow C_NoText C_NoWord C_TooLong C_TooMany C_Unsound) (.st (nums 0 16)) 16 0 [a0, a1, some (.ref b), some (.tup ps), a4, a5, a6] h = .go .nx [a0, a1, some (.ref b), some (.tup ps), b4, b5, b6] h' := by
  obtain ⟨ro', h', el, b4, b5, b6, er, _⟩ := turns_inv (g := gNm 4) (body := inBody C_Busy C_NoHook C_NoMark C_NoNumbers C_NoPart C_NoProgram C_NoRow C_NoText C_NoWord C_TooLong C_TooMany C_Unsound) (x := .st (nums 0 16)) (n := 16)
    (fun i ro q => ∃ b4 b5 b6, ro = [a0, a1, some (.ref b), some (.tup ps), b4, b5, b6] ∧ BagK b (9000 + 8 * i) q)
    (fun i ro q ⟨b4, b5, b6, er, Bq⟩ hi => by
      subst er
      obtain ⟨c5, c6, q', t, Bt⟩ := in_turn ne g (k := i) (a0 := a0) (a1 := a1) (a5 := b5) (a6 := b6) Bq (by omega) (C_Busy := C_Busy) (C_NoHook := C_NoHook) (C_NoMark := C_NoMark) (C_NoNumbers := C_NoNumbers) (C_NoPart := C_NoPart) (C_NoProgram := C_NoProgram) (C_NoRow := C_NoRow) (C_NoText := C_NoText) (C_NoWord := C_NoWord) (C_TooLong := C_TooLong) (C_TooMany := C_TooMany) (C_Unsound := C_Unsound)
      exact ⟨.int (i : Nat), _, _, _, _, by rw [nxt_st, nums_get hi, Int.zero_add], rfl, t, _, _, _, rfl, Bt.mono (by omega)⟩)
    (fun ro q _ => by rw [nxt_st, nums_end])
    16 0 [a0, a1, some (.ref b), some (.tup ps), a4, a5, a6] h (by omega) ⟨_, _, _, rfl, B⟩
  subst er
  exact ⟨b4, b5, b6, h', el⟩
theorem turn_ok (ne : C_NoPart ≠ C_NoRow) {ns : List Int} {i : Nat} {a2 a3 a4 a5 a6 : Option Val} (hi : i < 8) :
    ∃ b2 b3 b4 b5 b6 h', lawBody C_Busy C_NoHook C_NoMark C_NoNumbers C_NoPart C_NoProgram C_NoRow C_NoText C_NoWord C_TooLong C_TooMany C_Unsound [some (.scr ns), some (.int (i : Nat)), a2, a3, a4, a5, a6] h = .go .nx [some (.scr ns), some (.int (i : Nat)), b2, b3, b4, b5, b6] h' := by
  obtain ⟨h1, eb, B1, _⟩ := ev_bag (ns := ns) (i := i) (h := h) hi
  generalize h.length = b at eb B1
  obtain ⟨ps, h2, ep, g, A2⟩ := ev_mkprog B1 (by omega)
  have rg : ∀ ro : En, iRgN 1 (aCons (sC (.int 16)) aNil) ro h2 = .ok (.st (nums 0 16), (nums 0 16).length) h2 := fun ro => iRg1_ev (n := 16) rfl (by omega)
  have n2 : (nums 0 16).length = 16 := by simp [nums]
  rw [n2] at rg
  obtain ⟨b4, b5, b6, h3, el⟩ := in_loop ne g (a0 := some (.scr ns)) (a1 := some (.int (i : Nat))) (a4 := a4) (a5 := a5) (a6 := a6) (A2.bag.mono (by omega)) (C_Busy := C_Busy) (C_NoHook := C_NoHook) (C_NoMark := C_NoMark) (C_NoNumbers := C_NoNumbers) (C_NoPart := C_NoPart) (C_NoProgram := C_NoProgram) (C_NoRow := C_NoRow) (C_NoText := C_NoText) (C_NoWord := C_NoWord) (C_TooLong := C_TooLong) (C_TooMany := C_TooMany) (C_Unsound := C_Unsound)
  refine ⟨some (.ref b), some (.tup ps), b4, b5, b6, h3, ?_⟩
  unfold lawBody
  simp -implicitDefEqProofs only [nSeq_e, nSet_e, sCall_e, aCons_e, sVar_2, sVar_s, sVar_1, sVar_0, aNil_e, ob_ok, List.length_cons, List.length_nil, and_self, if_true, eb, sb_ok, sq_nx, List.set_cons_zero, List.set_cons_succ, ep, nFor_e, rg, el, nNext_e]
end
theorem law_true : ∀ C_Busy C_NoHook C_NoMark C_NoNumbers C_NoPart C_NoProgram C_NoRow C_NoText C_NoWord C_TooLong C_TooMany C_Unsound : Addr, C_NoPart ≠ C_NoRow → ∀ ns : List Int, ns.length ≤ 63 → (∀ z ∈ ns, Builtin.Int.intBits z ≤ 1048576) → ∃ h, F_law C_Busy C_NoHook C_NoMark C_NoNumbers C_NoPart C_NoProgram C_NoRow C_NoText C_NoWord C_TooLong C_TooMany C_Unsound [.scr ns] [] = .ok (.bl true) h := by
  intro C_Busy C_NoHook C_NoMark C_NoNumbers C_NoPart C_NoProgram C_NoRow C_NoText C_NoWord C_TooLong C_TooMany C_Unsound NE ns _ _
  rw [e_law, law_is]
  have ln : fLen [.scr ns] [] = .ok (.int (ns.length : Nat)) [] := by
    show Out.ok (Val.int (((ns.map Val.int).length : Nat) : Int)) [] = _
    rw [List.length_map]
  obtain ⟨n, hn, en⟩ : ∃ n : Nat, n ≤ 6 ∧ ∀ h : HH, (obind (fMin [.int 6, .int (ns.length : Nat)] h) fun x h1 => fMax [.int 2, x] h1) = .ok (.int (n : Nat)) h := by
    by_cases c : ns.length < 6
    · by_cases c2 : 2 < ns.length
      · refine ⟨ns.length, by omega, fun h => ?_⟩
        show obind (Out.ok (Val.int (if ((ns.length : Nat) : Int) < 6 then ((ns.length : Nat) : Int) else 6)) h) _ = _
        rw [if_pos (by omega)]
        show Out.ok (Val.int (if ((ns.length : Nat) : Int) > 2 then ((ns.length : Nat) : Int) else 2)) h = _
        rw [if_pos (by omega)]
      · refine ⟨2, by omega, fun h => ?_⟩
        show obind (Out.ok (Val.int (if ((ns.length : Nat) : Int) < 6 then ((ns.length : Nat) : Int) else 6)) h) _ = _
        rw [if_pos (by omega)]
        show Out.ok (Val.int (if ((ns.length : Nat) : Int) > 2 then ((ns.length : Nat) : Int) else 2)) h = _
        rw [if_neg (by omega)]
        rfl
    · refine ⟨6, by omega, fun h => ?_⟩
      show obind (Out.ok (Val.int (if ((ns.length : Nat) : Int) < 6 then ((ns.length : Nat) : Int) else 6)) h) _ = _
      rw [if_neg (by omega)]
      rfl
  have en' := en []
  obtain ⟨x, hx, e1⟩ : ∃ x, fMin [.int 6, .int (ns.length : Nat)] [] = .ok x [] ∧ fMax [.int 2, x] [] = .ok (.int (n : Nat)) [] := by
    refine ⟨.int (if ((ns.length : Nat) : Int) < 6 then ((ns.length : Nat) : Int) else 6), rfl, en'⟩
  have rg : iRgN 1 (aCons (sArgs fMax (aCons (sC (.int 2)) (aCons (sArgs fMin (aCons (sC (.int 6)) (aCons (sArgs fLen (aCons (sVar 0) aNil)) aNil))) aNil))) aNil) [some (.scr ns), none, none, none, none, none, none] [] = .ok (.st (nums 0 n), (nums 0 n).length) [] := iRg1_ev (by
    simp -implicitDefEqProofs only [sArgs_e, aCons_e, sC_e, sVar_0, aNil_e, ob_ok, ln, hx, e1]) (by omega)
  have nl : (nums 0 n).length = n := by simp [nums]
  rw [nl] at rg
  obtain ⟨ro', h', el, _⟩ := turns_inv (g := gNm 1) (body := lawBody C_Busy C_NoHook C_NoMark C_NoNumbers C_NoPart C_NoProgram C_NoRow C_NoText C_NoWord C_TooLong C_TooMany C_Unsound) (x := .st (nums 0 n)) (n := n) (fun _ ro _ => ∃ a1 a2 a3 a4 a5 a6, ro = [some (.scr ns), a1, a2, a3, a4, a5, a6])
    (fun i ro h ⟨a1, a2, a3, a4, a5, a6, er⟩ hi => by
      subst er
      obtain ⟨b2, b3, b4, b5, b6, h2, e2⟩ := turn_ok NE (ns := ns) (h := h) (a2 := a2) (a3 := a3) (a4 := a4) (a5 := a5) (a6 := a6) (i := i) (by omega) (C_Busy := C_Busy) (C_NoHook := C_NoHook) (C_NoMark := C_NoMark) (C_NoNumbers := C_NoNumbers) (C_NoPart := C_NoPart) (C_NoProgram := C_NoProgram) (C_NoRow := C_NoRow) (C_NoText := C_NoText) (C_NoWord := C_NoWord) (C_TooLong := C_TooLong) (C_TooMany := C_TooMany) (C_Unsound := C_Unsound)
      refine ⟨.int (i : Nat), _, h, _, h2, ?_, rfl, e2, _, _, _, _, _, _, rfl⟩
      show some (nums 0 n)[i]? = _
      rw [nums_get hi, Int.zero_add])
    (fun ro h _ => by show some (nums 0 n)[n]? = _; rw [nums_end]) n 0 [some (.scr ns), none, none, none, none, none, none] [] (by omega) ⟨_, _, _, _, _, _, rfl⟩
  refine ⟨h', ?_⟩
  simp -implicitDefEqProofs only [nSeq_e, nFor_e, rg, sb_ok, el, sq_nx, nRet_e, sC_e, sq_ret, outOf_ret]
end K03
open PySem PySem.W PyProof.Rows
set_option maxRecDepth 100000 in
set_option maxHeartbeats 0 in
theorem PySem.Challenge.cw_watchedrun_k03_parts_and_rows_holds : PySem.Challenge.rw_watchedrun_k03_parts_and_rows.Holds := by
  w_on; o_law; k_head; (case hw => w_witness2)
  k_fill
  refine Z.walk (k := 8) (x := "_law_script") (l := PySem.Challenge.rw_watchedrun_k03_parts_and_rows) rfl rfl ⟨⟨rfl, by decide, by decide⟩, rfl⟩ (fun w h Y => PySem.W.kIn_of Y) ?F
  case F =>
    intro w mg fa h KX G hmg
    refine K03.fin K03.law_true hmg ?_
    refine' K03.txt_mk KX G ?zz_IndexError ?zz_KeyError ?zz_LookupError ?zz_OverflowError ?zz_RuntimeError ?zz_ValueError ?zz_abs ?zz_all ?zz_bool ?zz_enumerate ?zz_int ?zz_isinstance ?zz_len ?zz_max ?zz_min ?zz_range ?zz_repr ?zz_set ?zz_str ?zz_tuple ?n_ALONE ?l_ALONE ?y_ALONE ?d_ALONE ?q_ALONE ?r_ALONE ?n_LEADING ?l_LEADING ?y_LEADING ?d_LEADING ?q_LEADING ?r_LEADING ?n_LETTERS ?n_MOST_LETTERS ?n_MOST_LONG ?n_MOST_NAMES ?n_MOST_PARTS ?n_MOST_WORTH ?n_NAMED ?l_NAMED ?y_NAMED ?d_NAMED ?q_NAMED ?r_NAMED ?n_NoProgram ?xp_NoProgram ?kp_NoProgram ?bp_NoProgram ?tp_NoProgram ?ip_NoProgram ?sp_NoProgram ?n_NoPart ?n_NoRow ?n_NoMark ?n_NoWord ?n_NoText ?n_Busy ?n_TooMany ?n_NoHook ?n_NoNumbers ?n_Unsound ?n_TooLong ?nxL_NoPart ?nsa_NoPart ?nga_NoPart ?ngg_NoPart ?nnb_NoPart ?na1_NoPart ?nt1_NoPart ?nl1_NoPart ?nc1_NoPart ?nkC_NoPart ?neC_NoPart ?ntC_NoPart ?nhC_NoPart ?niC_NoPart ?nsC_NoPart ?nxL_NoRow ?nsa_NoRow ?nga_NoRow ?ngg_NoRow ?nnb_NoRow ?na1_NoRow ?nt1_NoRow ?nl1_NoRow ?nc1_NoRow ?nkC_NoRow ?neC_NoRow ?ntC_NoRow ?nhC_NoRow ?niC_NoRow ?nsC_NoRow ?sn_NoRow_NoPart ?ne_NoPart_NoRow ?xg_NoPart ?xk_NoPart ?xs_NoPart ?xd_NoPart ?xa_NoPart ?xn_NoPart ?xt_NoPart ?xm_NoPart ?xg_NoRow ?xk_NoRow ?xs_NoRow ?xd_NoRow ?xa_NoRow ?xn_NoRow ?xt_NoRow ?xm_NoRow ?i_0 ?i_1 ?i_2 ?i_3 ?i_4 ?i_5 ?i_6 ?i_7 ?i_8 ?i_9 ?i_10 ?i_11 ?i_12 ?i_13 ?i_14 ?i_15 ?i_16 ?i_17 ?i_18 ?i_19 ?i_20 ?i_21 ?i_22 ?i_23 ?i_24 ?i_25 ?i_26 ?i_27 ?i_28 ?i_29 ?i_30 ?i_31 ?i_32 ?i_33 ?i_34 ?i_35 ?n_is_whole ?l_is_whole ?c_is_whole ?k_is_whole ?n_is_worth ?l_is_worth ?c_is_worth ?k_is_worth ?n_is_name ?l_is_name ?c_is_name ?k_is_name ?n_are_unlike_names ?l_are_unlike_names ?c_are_unlike_names ?k_are_unlike_names ?w_are_unlike_names_least ?v_are_unlike_names_least ?n_is_led_to ?l_is_led_to ?c_is_led_to ?k_is_led_to ?n_is_row ?l_is_row ?c_is_row ?k_is_row ?n_is_headed ?l_is_headed ?c_is_headed ?k_is_headed ?n_is_program ?l_is_program ?c_is_program ?k_is_program ?n_look_program ?l_look_program ?c_look_program ?k_look_program ?n_number_of ?l_number_of ?c_number_of ?k_number_of ?n_look_row ?l_look_row ?c_look_row ?k_look_row ?n_part_number ?l_part_number ?c_part_number ?k_part_number ?n_row_at ?l_row_at ?c_row_at ?k_row_at ?n__law_bag ?l__law_bag ?c__law_bag ?k__law_bag ?n__law_take ?l__law_take ?c__law_take ?k__law_take ?n__law_worth ?l__law_worth ?c__law_worth ?k__law_worth ?n__law_names ?l__law_names ?c__law_names ?k__law_names ?n__law_any_row ?l__law_any_row ?c__law_any_row ?k__law_any_row ?n__law_any_program ?l__law_any_program ?c__law_any_program ?k__law_any_program ?n__law_kind ?l__law_kind ?c__law_kind ?k__law_kind ?n__law_odd ?l__law_odd ?c__law_odd ?k__law_odd ?n__law_told ?l__law_told ?c__law_told ?k__law_told ?n__law_alike ?l__law_alike ?c__law_alike ?k__law_alike ?n__law_due ?l__law_due ?c__law_due ?k__law_due ?n_law ?l_law ?c_law ?k_law
    (case zz_IndexError => k_is)
    (case zz_KeyError => k_is)
    (case zz_LookupError => k_is)
    (case zz_OverflowError => k_is)
    (case zz_RuntimeError => k_is)
    (case zz_ValueError => k_is)
    (case zz_abs => k_is)
    (case zz_all => k_is)
    (case zz_bool => k_is)
    (case zz_enumerate => k_is)
    (case zz_int => k_is)
    (case zz_isinstance => k_is)
    (case zz_len => k_is)
    (case zz_max => k_is)
    (case zz_min => k_is)
    (case zz_range => k_is)
    (case zz_repr => k_is)
    (case zz_set => k_is)
    (case zz_str => k_is)
    (case zz_tuple => k_is)
    (case n_ALONE => k_is)
    (case l_ALONE => k_is)
    (case y_ALONE => rfl)
    (case d_ALONE => rfl)
    (case q_ALONE => rfl)
    (case r_ALONE => rfl)
    (case n_LEADING => k_is)
    (case l_LEADING => k_is)
    (case y_LEADING => rfl)
    (case d_LEADING => rfl)
    (case q_LEADING => rfl)
    (case r_LEADING => rfl)
    (case n_LETTERS => k_is)
    (case n_MOST_LETTERS => k_is)
    (case n_MOST_LONG => k_is)
    (case n_MOST_NAMES => k_is)
    (case n_MOST_PARTS => k_is)
    (case n_MOST_WORTH => k_is)
    (case n_NAMED => k_is)
    (case l_NAMED => k_is)
    (case y_NAMED => rfl)
    (case d_NAMED => rfl)
    (case q_NAMED => rfl)
    (case r_NAMED => rfl)
    (case n_NoProgram => k_is)
    (case xp_NoProgram => first | k_exc | k_is)
    (case kp_NoProgram => k_is)
    (case bp_NoProgram => k_is)
    (case tp_NoProgram => k_is)
    (case ip_NoProgram => k_is)
    (case sp_NoProgram => first | rfl | k_is)
    (case n_NoPart => k_is)
    (case n_NoRow => k_is)
    (case n_NoMark => k_is)
    (case n_NoWord => k_is)
    (case n_NoText => k_is)
    (case n_Busy => k_is)
    (case n_TooMany => k_is)
    (case n_NoHook => k_is)
    (case n_NoNumbers => k_is)
    (case n_Unsound => k_is)
    (case n_TooLong => k_is)
    (case nxL_NoPart => k_is)
    (case nsa_NoPart => k_is)
    (case nga_NoPart => k_is)
    (case ngg_NoPart => k_is)
    (case nnb_NoPart => k_is)
    (case na1_NoPart => k_is)
    (case nt1_NoPart => k_is)
    (case nl1_NoPart => k_is)
    (case nc1_NoPart => k_is)
    (case nkC_NoPart => k_is)
    (case neC_NoPart => k_is)
    (case ntC_NoPart => k_is)
    (case nhC_NoPart => k_is)
    (case niC_NoPart => k_is)
    (case nsC_NoPart => first | rfl | k_is)
    (case nxL_NoRow => k_is)
    (case nsa_NoRow => k_is)
    (case nga_NoRow => k_is)
    (case ngg_NoRow => k_is)
    (case nnb_NoRow => k_is)
    (case na1_NoRow => k_is)
    (case nt1_NoRow => k_is)
    (case nl1_NoRow => k_is)
    (case nc1_NoRow => k_is)
    (case nkC_NoRow => k_is)
    (case neC_NoRow => k_is)
    (case ntC_NoRow => k_is)
    (case nhC_NoRow => k_is)
    (case niC_NoRow => k_is)
    (case nsC_NoRow => first | rfl | k_is)
    (case sn_NoRow_NoPart => first | k_is | rfl | decide +kernel)
    (case ne_NoPart_NoRow => first | decide | (intro h; cases h))
    (case xg_NoPart => first | k_is | rfl | decide +kernel)
    (case xk_NoPart => first | k_is | rfl | decide +kernel)
    (case xs_NoPart => first | k_is | rfl | decide +kernel)
    (case xd_NoPart => first | k_is | rfl | decide +kernel)
    (case xa_NoPart => first | k_is | rfl | decide +kernel)
    (case xn_NoPart => first | k_is | rfl | decide +kernel)
    (case xt_NoPart => first | k_is | rfl | decide +kernel)
    (case xm_NoPart => first | k_is | rfl | decide +kernel)
    (case xg_NoRow => first | k_is | rfl | decide +kernel)
    (case xk_NoRow => first | k_is | rfl | decide +kernel)
    (case xs_NoRow => first | k_is | rfl | decide +kernel)
    (case xd_NoRow => first | k_is | rfl | decide +kernel)
    (case xa_NoRow => first | k_is | rfl | decide +kernel)
    (case xn_NoRow => first | k_is | rfl | decide +kernel)
    (case xt_NoRow => first | k_is | rfl | decide +kernel)
    (case xm_NoRow => first | k_is | rfl | decide +kernel)
    (case i_0 => first | k_is | rfl | decide +kernel)
    (case i_1 => first | k_is | rfl | decide +kernel)
    (case i_2 => first | k_is | rfl | decide +kernel)
    (case i_3 => first | k_is | rfl | decide +kernel)
    (case i_4 => first | k_is | rfl | decide +kernel)
    (case i_5 => first | k_is | rfl | decide +kernel)
    (case i_6 => first | k_is | rfl | decide +kernel)
    (case i_7 => first | k_is | rfl | decide +kernel)
    (case i_8 => first | k_is | rfl | decide +kernel)
    (case i_9 => first | k_is | rfl | decide +kernel)
    (case i_10 => first | k_is | rfl | decide +kernel)
    (case i_11 => first | k_is | rfl | decide +kernel)
    (case i_12 => first | k_is | rfl | decide +kernel)
    (case i_13 => first | k_is | rfl | decide +kernel)
    (case i_14 => first | k_is | rfl | decide +kernel)
    (case i_15 => first | k_is | rfl | decide +kernel)
    (case i_16 => first | k_is | rfl | decide +kernel)
    (case i_17 => first | k_is | rfl | decide +kernel)
    (case i_18 => first | k_is | rfl | decide +kernel)
    (case i_19 => first | k_is | rfl | decide +kernel)
    (case i_20 => first | k_is | rfl | decide +kernel)
    (case i_21 => first | k_is | rfl | decide +kernel)
    (case i_22 => first | k_is | rfl | decide +kernel)
    (case i_23 => first | k_is | rfl | decide +kernel)
    (case i_24 => first | k_is | rfl | decide +kernel)
    (case i_25 => first | k_is | rfl | decide +kernel)
    (case i_26 => first | k_is | rfl | decide +kernel)
    (case i_27 => first | k_is | rfl | decide +kernel)
    (case i_28 => first | k_is | rfl | decide +kernel)
    (case i_29 => first | k_is | rfl | decide +kernel)
    (case i_30 => first | k_is | rfl | decide +kernel)
    (case i_31 => first | k_is | rfl | decide +kernel)
    (case i_32 => first | k_is | rfl | decide +kernel)
    (case i_33 => first | k_is | rfl | decide +kernel)
    (case i_34 => first | k_is | rfl | decide +kernel)
    (case i_35 => first | k_is | rfl | decide +kernel)
    (case n_is_whole => k_is)
    (case l_is_whole => k_is)
    (case c_is_whole => k_is)
    (case k_is_whole => k_is)
    (case n_is_worth => k_is)
    (case l_is_worth => k_is)
    (case c_is_worth => k_is)
    (case k_is_worth => k_is)
    (case n_is_name => k_is)
    (case l_is_name => k_is)
    (case c_is_name => k_is)
    (case k_is_name => k_is)
    (case n_are_unlike_names => k_is)
    (case l_are_unlike_names => k_is)
    (case c_are_unlike_names => k_is)
    (case k_are_unlike_names => k_is)
    (case w_are_unlike_names_least => k_is)
    (case v_are_unlike_names_least => exact ⟨_, rfl⟩)
    (case n_is_led_to => k_is)
    (case l_is_led_to => k_is)
    (case c_is_led_to => k_is)
    (case k_is_led_to => k_is)
    (case n_is_row => k_is)
    (case l_is_row => k_is)
    (case c_is_row => k_is)
    (case k_is_row => k_is)
    (case n_is_headed => k_is)
    (case l_is_headed => k_is)
    (case c_is_headed => k_is)
    (case k_is_headed => k_is)
    (case n_is_program => k_is)
    (case l_is_program => k_is)
    (case c_is_program => k_is)
    (case k_is_program => k_is)
    (case n_look_program => k_is)
    (case l_look_program => k_is)
    (case c_look_program => k_is)
    (case k_look_program => k_is)
    (case n_number_of => k_is)
    (case l_number_of => k_is)
    (case c_number_of => k_is)
    (case k_number_of => k_is)
    (case n_look_row => k_is)
    (case l_look_row => k_is)
    (case c_look_row => k_is)
    (case k_look_row => k_is)
    (case n_part_number => k_is)
    (case l_part_number => k_is)
    (case c_part_number => k_is)
    (case k_part_number => k_is)
    (case n_row_at => k_is)
    (case l_row_at => k_is)
    (case c_row_at => k_is)
    (case k_row_at => k_is)
    (case n__law_bag => k_is)
    (case l__law_bag => k_is)
    (case c__law_bag => k_is)
    (case k__law_bag => k_is)
    (case n__law_take => k_is)
    (case l__law_take => k_is)
    (case c__law_take => k_is)
    (case k__law_take => k_is)
    (case n__law_worth => k_is)
    (case l__law_worth => k_is)
    (case c__law_worth => k_is)
    (case k__law_worth => k_is)
    (case n__law_names => k_is)
    (case l__law_names => k_is)
    (case c__law_names => k_is)
    (case k__law_names => k_is)
    (case n__law_any_row => k_is)
    (case l__law_any_row => k_is)
    (case c__law_any_row => k_is)
    (case k__law_any_row => k_is)
    (case n__law_any_program => k_is)
    (case l__law_any_program => k_is)
    (case c__law_any_program => k_is)
    (case k__law_any_program => k_is)
    (case n__law_kind => k_is)
    (case l__law_kind => k_is)
    (case c__law_kind => k_is)
    (case k__law_kind => k_is)
    (case n__law_odd => k_is)
    (case l__law_odd => k_is)
    (case c__law_odd => k_is)
    (case k__law_odd => k_is)
    (case n__law_told => k_is)
    (case l__law_told => k_is)
    (case c__law_told => k_is)
    (case k__law_told => k_is)
    (case n__law_alike => k_is)
    (case l__law_alike => k_is)
    (case c__law_alike => k_is)
    (case k__law_alike => k_is)
    (case n__law_due => k_is)
    (case l__law_due => k_is)
    (case c__law_due => k_is)
    (case k__law_due => k_is)
    (case n_law => k_is)
    (case l_law => k_is)
    (case c_law => k_is)
    (case k_law => k_is)
#print axioms PySem.Challenge.cw_watchedrun_k03_parts_and_rows_holds
