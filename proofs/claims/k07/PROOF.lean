import PyProof.Rows.All
import Wide.All
import OpenK.AllK
import Wide.FinOn
import HandS.ForMost
import HandS.Exc
import HandS.ExcOwn
import HandS.CallSlots
import HandS.TryOnly
import HandS.Walk
import HandS.Wide
import HandS.Defaults
import HandS.TupAny
import HandS.TupMul
import HandS.Lambda
import HandS.ExcIs
import HandS.HeadHook4
import HandS.HeadWalk
import HandS.IsInst
import HandS.Zip
import HandS.Style
import HandS.TupLe
import HandS.Text
import HandS.Deep
import HandS.Dict
import HandS.Codes
import HandS.SortInts
import HandS.Iter
import HandS.More
import HandS.RaiseMore
import HandS.HeadHook1
import HandS.HeadHook2
import KE.KDictPairs
import KE.KIndexOf
import HandS.Head0
import HandS.Head1
import HandS.Head2
import HandS.HeadEnd
import HandS.Ends
import KE.KStateDown
import PySem.Challenge.RW_wishregions_k07_whole_misses_and_totals
set_option Elab.async false
set_option linter.all false
set_option maxRecDepth 100000
set_option maxHeartbeats 4000000
namespace G
open PySem PySem.Spec PyProof.Rows L2
/-! ### tuples that are known to have no dict of their own: tracked with their object -/
def PlainT (o : Obj) : Prop := o.cls = .type "tuple" ∧ o.dict = none
def newT (its : List Value) : Obj := { cls := .type "tuple", data := .seq its.toArray }
theorem newT_plain (its : List Value) : PlainT (newT its) := ⟨rfl, rfl⟩
section
variable {X : Cx} {pins : List (Addr × Obj)} {σ : L2.St} {H : Hp} {s : Shared}
/-- the new tuple of values is tracked -/
theorem laidT (I : Inv X pins σ H s) {xs : List V} {its : List Value} (r : Vals xs its) (z : xs.length ≤ sizeLine) (t' : Nat) :
    Inv X pins σ (upd H s.heap.objs.size (.frz (newT its) (.tup xs))) { s with heap := s.heap.push (newT its), toks := t' } :=
  I.laid (t' := t') (fun b u e => Heap.get?_push_of_some _ e) (Nat.le_refl _) (show ObjOk X.prog X.w _ _ _ (.frz (newT its) (.tup xs)) from ⟨Heap.get?_push_size _ rfl, z, its, r, ⟨_, Heap.get?_push_size _ rfl, rfl, _, rfl⟩⟩)
/-- what is told of a new tuple -/
def NewT (H : Hp) (xs : List V) (Q : VK) : Prop := ∀ p o, H p = none → PlainT o → Q (.ref p) (upd H p (.frz o (.tup xs)))
theorem newT_fin (I : Inv X pins σ H s) {xs : List V} {its : List Value} (r : Vals xs its) (z : xs.length ≤ sizeLine) (t' : Nat) {Q : VK} (q : NewT H xs Q) :
    ∃ x H', Inv X pins σ H' { s with heap := s.heap.push (newT its), toks := t' } ∧ RelV x (.ref s.heap.objs.size) ∧ Q x H' :=
  ⟨.ref s.heap.objs.size, _, laidT I r z t', rfl, q _ _ (I.hok.fresh (Nat.le_refl _)) (newT_plain its)⟩
variable {e : Expr} {es : List Expr} {t : TA} {pos : Pos}
def tTupF (t : TA) : TE := fun σ H Q => t σ H fun xs H1 => xs.length ≤ sizeLine ∧ NewT H1 xs Q
theorem pe_tupF {x1} (h : PA X es t) : PE X (.Tuple es x1 pos) (tTupF t) :=
  ⟨fun pins s σ H Q I hq => wpAny_Tuple_spliced (thn (h.run pos pins s σ H _ I hq) fun us s1 ⟨xs, H1, I1, r, z, q⟩ => ⟨by rw [← r.length]; exact z, newT_fin I1 r z s1.toks q⟩)⟩
def rTupleF (K : PySem.W.Frag) : List V → Hp → VK → Prop := fun xs H Q => ∃ p ys, xs = [.ref p] ∧ ((SqL K H p ys ∧ NewT H ys Q) ∨ (SqT K H p ys ∧ Q (.ref p) H))
theorem call_tupleF : CallR X (.type "tuple") (rTupleF X.K) := by
  intro pins s σ H xs us Q I r h
  obtain ⟨p, ys, rfl, h⟩ := h
  obtain ⟨u, rfl, rx⟩ := vals1 r
  cases rx
  rcases h with ⟨hq, q⟩ | ⟨hq, q⟩
  · obtain ⟨its, r', pl, hz⟩ := I.list hq
    have hlen := r'.length
    exact call_tuple_list pl.isList (fun h' kp => newT_fin (I.kept (t' := s.toks) kp) r' hz s.toks q) (by simp only [List.size_toArray] <;> omega)
  · obtain ⟨its, r', pl, hz⟩ := I.tuple hq
    exact call_tuple_same pl ⟨.ref p, H, I, rfl, q⟩
def rSlF (K : PySem.W.Frag) : V → Option Int → Option Int → Hp → VK → Prop := fun x lo hi H Q => ∃ a xs, x = .ref a ∧ SqT K H a xs ∧
  (HT.sIx xs.length 0 lo = 0 ∧ HT.sIx xs.length xs.length hi = xs.length → Q (.ref a) H) ∧ (¬ (HT.sIx xs.length 0 lo = 0 ∧ HT.sIx xs.length xs.length hi = xs.length) → NewT H (cutV xs lo hi) Q)
theorem sl_tupF : SlR X (rSlF X.K) := by
  intro pins s σ H x v vl vu lo hi sl Q I rx hs pl pu h
  obtain ⟨a, xs, rfl, hx, q1, q2⟩ := h
  cases rx
  obtain ⟨its, r, ht, hz⟩ := I.tuple hx
  have hlen : its.toArray.size = xs.length := List.size_toArray.trans r.length.symm
  refine ⟨"tuple", _, PyProof.Rows.slot_tuple_getitem.lookup, ht.typeIs, ?_⟩
  by_cases hw : HT.sIx xs.length 0 lo = 0 ∧ HT.sIx xs.length xs.length hi = xs.length
  · exact getItem_tuple_whole ht hs pl pu (by rwa [hlen]) ⟨.ref a, H, I, rfl, q1 hw⟩
  · refine HT.getItem_tuple_cut ht hs pl pu (by rwa [hlen]) ?_ (by rwa [hlen])
    have rr := (r.drop (HT.sIx xs.length 0 lo)).take (HT.sIx xs.length xs.length hi - HT.sIx xs.length 0 lo)
    have fin := newT_fin I (xs := cutV xs lo hi) rr (Nat.le_trans (cutV_length xs lo hi) hz) s.toks (q2 hw)
    rw [hlen]
    exact fin
def rCatF (K : PySem.W.Frag) : R2 := fun x y H Q => ∃ a b xs ys, x = .ref a ∧ y = .ref b ∧ SqT K H a xs ∧ SqT K H b ys ∧ xs.length + ys.length ≤ sizeLine ∧
  (xs = [] → Q (.ref b) H) ∧ (xs ≠ [] → ys = [] → Q (.ref a) H) ∧ (xs ≠ [] → ys ≠ [] → NewT H (xs ++ ys) Q)
theorem op_catF : OpR X (binaryOp .Add) (rCatF X.K) := by
  intro pins s σ H x y v u Q I rx ry h
  obtain ⟨a, b, xs, ys, rfl, rfl, ha, hb, hz, q0, q1, q2⟩ := h
  by_cases hx : xs = []
  · exact op_catA pins s σ H _ _ v u Q I rx ry ⟨a, b, xs, ys, rfl, rfl, ha, hb, hz, q0, fun z => absurd hx z, fun z => absurd hx z⟩
  by_cases hy : ys = []
  · exact op_catA pins s σ H _ _ v u Q I rx ry ⟨a, b, xs, ys, rfl, rfl, ha, hb, hz, q0, q1, fun _ z => absurd hy z⟩
  cases rx
  cases ry
  obtain ⟨its, r1, p1, _⟩ := I.tuple ha
  obtain ⟨its2, r2, p2, _⟩ := I.tuple hb
  refine HT.cat_tup p1 p2 (fun z => hx (r1.nil_iff.mp z)) (fun z => absurd (r2.nil_iff.mp z) hy) (fun z => ?_) (by rw [← r1.length, ← r2.length]; exact hz)
  exact newT_fin I (r1.append r2) (by rw [List.length_append]; exact hz) s.toks (q2 hx hy)
/-- a tuple some times: from two times on -/
def rRepF (K : PySem.W.Frag) : R2 := fun x y H Q => ∃ l k xs, x = .ref l ∧ y = .int k ∧ SqT K H l xs ∧ xs ≠ [] ∧ (2 ≤ k ∧ k ≤ 1000) ∧ xs.length ≤ 1000 ∧ NewT H (List.replicate k.toNat xs).flatten Q
theorem op_repF : OpR X (binaryOp .Mult) (rRepF X.K) := by
  intro pins s σ H x y v u Q I rx ry h
  obtain ⟨l, k, xs, rfl, rfl, hT, hne, ⟨h1, h2⟩, hz, q⟩ := h
  cases rx
  obtain ⟨t, rfl⟩ := ry
  obtain ⟨its, r, ⟨⟨cls, dd, data, sl⟩, ho, hc, n, hd⟩, hs⟩ := I.tuple hT
  simp only at hc hd; subst hc hd
  have hle : its.length = xs.length := r.length.symm
  have he : its.toArray.isEmpty = false := by cases its with | nil => exact absurd (List.eq_nil_of_length_eq_zero hle.symm) hne | cons a b => rfl
  have a1 : k.toNat * xs.length ≤ 1000 * 1000 := Nat.mul_le_mul (by omega) hz
  have sl0 := sizeLine_eq
  have fl : (List.replicate k.toNat its).flatten.length ≤ sizeLine := by rw [PyProof.Rows.lm_len_rep_flat, hle]; omega
  have hm : ((its.toArray.size : Nat) : Int) * k ≤ 1000000 := by
    rw [List.size_toArray, hle]
    have := Int.mul_le_mul_of_nonneg_right (a := ((xs.length : Nat) : Int)) (b := 1000) (c := k) (by omega) (by omega)
    omega
  have d0 : (decide (k < -(2 ^ 63)) || decide (k ≥ 2 ^ 63)) = false := by rw [decide_eq_false (by omega), decide_eq_false (by omega)] <;> rfl
  have d1 : (its.toArray.isEmpty || k == 1) = false := by rw [he, Bool.false_or]; exact beq_eq_false_iff_ne.mpr (by omega)
  have d2 : (decide (k ≤ 0) || its.toArray.isEmpty) = false := by rw [he, Bool.or_false]; exact decide_eq_false (by omega)
  have d4 : Builtin.Tuple.tupleTooMany (((its.toArray.size : Nat) : Int) * k) = false := by unfold Builtin.Tuple.tupleTooMany; rw [sizeLine_eq]; exact decide_eq_false (by omega)
  have fin := newT_fin I (xs := (List.replicate k.toNat xs).flatten) (r.rep k.toNat) (by rw [PyProof.Rows.lm_len_rep_flat]; omega) s.toks q
  have m2 := tuple_mulW l its.toArray n dd sl k t d0 d1 d2 (by omega) d4 (by rw [size_rep, List.size_toArray]; exact fl)
  rw [size_rep] at m2
  exact wpAny_binaryOp_repeat_ref (T := "tuple") (U := "int") (by decide) ⟨_, ho, rfl⟩ (fun s' => typeIs_int s' k t) noFill_tuple_mul F.fills_int_mul F.slot_int_rmul repeat_tuple F.slot_int_index.lookup (call_meets F.slot_int_rmul (typeIs_int s k t) F.entry_int_rmul (F.args_int_rmul_2 _ _) (int_rmul_tuple k t l its.toArray n dd sl) ⟨ho, rfl, ⟨_, ho, rfl⟩, call_meets F.slot_tuple_mul ⟨_, ho, rfl⟩ F.entry_tuple_mul (F.args_tuple_mul_2 _ _) m2 ⟨ho, fin⟩⟩)
end
end G

namespace G
open PySem PySem.Spec PyProof.Rows L2

/-! ### data -/
inductive D where
  | non | bl (b : Bool) | int (i : Int) | str (x : Str)
  | tup (ds : List D) | lst (ds : List D) | dic (ks : List Key) (ds : List D) | exc (c : Str)
deriving Inhabited

abbrev St := L2.St
abbrev Av := Addr → Prop
abbrev Frag := PySem.W.Frag

def TupK (K : Frag) (a : Addr) (xs : List V) : Prop :=
  ∃ (o : Obj) (its : Array Value) (n : Nat), K.lookup a = some o ∧ PlainT o ∧ o.data = .seq its n ∧ its.size ≤ sizeLine ∧ Vals xs its.toList
def ListK (K : Frag) (a : Addr) (xs : List V) : Prop :=
  ∃ (o : Obj) (its : Array Value) (n : Nat), K.lookup a = some o ∧ o.cls = .type "list" ∧ o.dict = none ∧ o.data = .seq its n ∧ its.size ≤ sizeLine ∧ Vals xs its.toList
def FzT (K : Frag) (A : Av) (H : Hp) (a : Addr) (xs : List V) : Prop := (¬ A a ∧ ∃ o, PlainT o ∧ H a = some (.frz o (.tup xs))) ∨ TupK K a xs
def FzL (A : Av) (H : Hp) (a : Addr) (xs : List V) : Prop := ¬ A a ∧ H a = some (.lst xs)
def FzD (A : Av) (H : Hp) (a : Addr) (xs : List (Key × V)) : Prop := ¬ A a ∧ Rd H a (.dK xs)
theorem FzT.sq {K : Frag} {A : Av} {H : Hp} {a : Addr} {xs : List V} (h : FzT K A H a xs) : SqT K H a xs := by
  rcases h with ⟨_, o, _, h⟩ | ⟨o, its, n, h1, h2, h3⟩
  · exact .inl (.inr ⟨o, h⟩)
  · exact .inr ⟨o, its, n, h1, h2.1, h3⟩
theorem FzL.sq {K : Frag} {A : Av} {H : Hp} {a : Addr} {xs : List V} (h : FzL A H a xs) : SqL K H a xs := .of h.2

/-! ### exceptions that were caught -/
/-- the class that a name of the module means -/
def clsOf (K : Frag) (c : Str) : Option Addr := match PySem.W.nsIn K mainGlobals c with
  | some (some (.ref C)) => some C
  | _ => none
def ExcO (a C : Addr) : HO := .ext fun h => ∃ o : Obj, PySem.W.InstAt h a o C none
def excNames : List Str := ["NoNumber", "NoPoint", "NoText", "NoTurn", "NoTable", "NoWay", "NoName", "Twice", "Used", "NoWish", "NoDeed", "NoPast", "TooMany"]
structure ExcN (K : Frag) (c : Str) (C : Addr) : Prop where
  cls : clsOf K c = some C
  ok : L2.ExcC K C
  no : ∀ T ∈ ["int", "bool", "str", "tuple", "list", "dict"], PySem.W.kitOne K (.ref C) (.type T) = some false
  own : ∀ d ∈ excNames, ∀ D, clsOf K d = some D → PySem.W.kitOne K (.ref C) (.ref D) = some (decide (c = d))
/-! ### what stands in a heap, tables of code objects aside -/
def Live (o : HO) : Prop := ∀ ps, o ≠ .tbl ps
def At (H : Hp) (a : Addr) (o : HO) : Prop := H a = some o ∧ Live o
theorem At.mk {H : Hp} {a : Addr} {o : HO} (h : H a = some o) (l : Live o := by intro _ e; cases e) : At H a o := ⟨h, l⟩
theorem At.ne {H : Hp} {a p : Addr} {o : HO} (h : At H a o) (n : H p = none) : a ≠ p := ne_of_none h.1 n
theorem At.grow {H H' : Hp} (g : ∀ a o, H a = some o → H' a = some o) {a : Addr} {o : HO} (h : At H a o) : At H' a o := ⟨g a o h.1, h.2⟩
theorem At.new {H : Hp} {a p : Addr} {o u : HO} (h : At H a o) (n : H p = none) : At (upd H p u) a o := ⟨by rw [upd_ne (h.ne n)]; exact h.1, h.2⟩
theorem At.but {H : Hp} {a p : Addr} {o u : HO} (h : At H a o) (n : a ≠ p) : At (upd H p u) a o := ⟨by rw [upd_ne n]; exact h.1, h.2⟩
def Lv (H : Hp) (a : Addr) : Prop := ∃ o, At H a o
def Gone (H : Hp) (a : Addr) : Prop := ∀ o, ¬ At H a o
theorem Gone.of {H : Hp} {a : Addr} (h : H a = none) : Gone H a := fun o x => by have y := x.1; rw [h] at y; cases y
theorem Lv.no {H : Hp} {a : Addr} (h : Lv H a) (g : Gone H a) : False := let ⟨o, x⟩ := h; g o x
theorem Lv.ne {H : Hp} {a : Addr} (h : Lv H a) : H a ≠ none := fun e => by obtain ⟨o, x⟩ := h; have y := x.1; rw [e] at y; cases y
mutual
/-- the value stands for the datum; no list, tuple, dict of it lies in A -/
def Rz (K : Frag) (A : Av) (H : Hp) : D → V → Prop
  | .non, v => v = .non
  | .bl b, v => v = .bl b
  | .int i, v => v = .int i
  | .str x, v => v = .str x ∧ x.length ≤ sizeLine
  | .tup ds, v => ∃ a vs, v = .ref a ∧ FzT K A H a vs ∧ ds.length ≤ sizeLine ∧ Rzs K A H ds vs
  | .lst ds, v => ∃ a vs, v = .ref a ∧ FzL A H a vs ∧ ds.length ≤ sizeLine ∧ Rzs K A H ds vs
  | .dic ks ds, v => ∃ a vs, v = .ref a ∧ FzD A H a (ks.zip vs) ∧ (ks.length = ds.length ∧ ds.length ≤ sizeLine) ∧ Rzs K A H ds vs
  | .exc c, v => ∃ a C, v = .ref a ∧ ¬ A a ∧ H a = some (ExcO a C) ∧ ExcN K c C
def Rzs (K : Frag) (A : Av) (H : Hp) : List D → List V → Prop
  | [], vs => vs = []
  | d :: ds, vs => ∃ v r, vs = v :: r ∧ Rz K A H d v ∧ Rzs K A H ds r
end

mutual
/-- sizes that every object has -/
def D.ok : D → Prop
  | .str x => x.length ≤ sizeLine
  | .tup ds => ds.length ≤ sizeLine ∧ D.oks ds
  | .lst ds => ds.length ≤ sizeLine ∧ D.oks ds
  | .dic ks ds => (ks.length = ds.length ∧ ds.length ≤ sizeLine) ∧ D.oks ds
  | _ => True
def D.oks : List D → Prop
  | [] => True
  | d :: ds => D.ok d ∧ D.oks ds
end
mutual
theorem Rz.ok {K : Frag} {A : Av} {H : Hp} : ∀ {d : D} {v : V}, Rz K A H d v → d.ok
  | .non, _, h => by simp only [D.ok]
  | .bl _, _, h => by simp only [D.ok]
  | .int _, _, h => by simp only [D.ok]
  | .str _, _, h => by simp only [Rz] at h; simp only [D.ok]; exact h.2
  | .tup ds, v, h => by
    simp only [Rz] at h
    obtain ⟨a, vs, e, h1, h3, h2⟩ := h
    simp only [D.ok]; exact ⟨h3, Rzs.oks h2⟩
  | .lst ds, v, h => by
    simp only [Rz] at h
    obtain ⟨a, vs, e, h1, h3, h2⟩ := h
    simp only [D.ok]; exact ⟨h3, Rzs.oks h2⟩
  | .dic ks ds, v, h => by
    simp only [Rz] at h
    obtain ⟨a, vs, e, h1, h3, h2⟩ := h
    simp only [D.ok]; exact ⟨h3, Rzs.oks h2⟩
  | .exc _, _, h => by simp only [D.ok]
theorem Rzs.oks {K : Frag} {A : Av} {H : Hp} : ∀ {ds : List D} {vs : List V}, Rzs K A H ds vs → D.oks ds
  | [], _, h => by simp only [D.oks]
  | d :: ds, vs, h => by
    simp only [Rzs] at h
    obtain ⟨v, r, e, h1, h2⟩ := h
    simp only [D.oks]; exact ⟨h1.ok, h2.oks⟩
end
/-- what stands outside A stands, outside A' -/
structure Kp (A A' : Av) (H H' : Hp) : Prop where
  l : ∀ a xs, ¬ A a → H a = some (.lst xs) → ¬ A' a ∧ H' a = some (.lst xs)
  t : ∀ a o xs, ¬ A a → H a = some (.frz o (.tup xs)) → ¬ A' a ∧ H' a = some (.frz o (.tup xs))
  d : ∀ a xs, ¬ A a → Rd H a (.dK xs) → ¬ A' a ∧ Rd H' a (.dK xs)
  e : ∀ a C, ¬ A a → H a = some (ExcO a C) → ¬ A' a ∧ H' a = some (ExcO a C)
theorem Kp.of {A A' : Av} {H H' : Hp} (f : ∀ a o, ¬ A a → At H a o → ¬ A' a ∧ At H' a o) : Kp A A' H H' := by
  have f' : ∀ a o, Live o → ¬ A a → H a = some o → ¬ A' a ∧ H' a = some o := fun a o l n r => ⟨(f a o n ⟨r, l⟩).1, (f a o n ⟨r, l⟩).2.1⟩
  refine ⟨fun a xs => f' a _ (by intro _ e; cases e), fun a o xs => f' a _ (by intro _ e; cases e), fun a xs n r => ?_, fun a C => f' a _ (by intro _ e; cases e)⟩
  rcases r with r | ⟨u, r⟩
  · exact ⟨(f' a _ (by intro _ e; cases e) n r).1, .inl (f' a _ (by intro _ e; cases e) n r).2⟩
  · exact ⟨(f' a _ (by intro _ e; cases e) n r).1, .inr ⟨u, (f' a _ (by intro _ e; cases e) n r).2⟩⟩
theorem rd_at {A A' : Av} {H H' : Hp} (f : ∀ a o, ¬ A a → At H a o → ¬ A' a ∧ At H' a o) {a : Addr} {xs : List V} (n : ¬ A a) (r : Rd H a (.lst xs)) : ¬ A' a ∧ Rd H' a (.lst xs) := by
  rcases r with r | ⟨u, r⟩
  · exact ⟨(f a _ n (.mk r)).1, .inl (f a _ n (.mk r)).2.1⟩
  · exact ⟨(f a _ n (.mk r)).1, .inr ⟨u, (f a _ n (.mk r)).2.1⟩⟩
section
variable {K : Frag} {A A' : Av} {H H' : Hp}
mutual
theorem Rz.map (f : Kp A A' H H') : ∀ {d : D} {v : V}, Rz K A H d v → Rz K A' H' d v
  | .non, _, h => by simpa [Rz] using h
  | .bl _, _, h => by simpa [Rz] using h
  | .int _, _, h => by simpa [Rz] using h
  | .str _, _, h => by simpa [Rz] using h
  | .tup ds, v, h => by
    simp only [Rz] at h ⊢
    obtain ⟨a, vs, e, h1, h3, h2⟩ := h
    refine ⟨a, vs, e, ?_, h3, Rzs.map f h2⟩
    rcases h1 with ⟨n, o, po, r⟩ | h1
    · exact .inl ⟨(f.t a o _ n r).1, o, po, (f.t a o _ n r).2⟩
    · exact .inr h1
  | .lst ds, v, h => by
    simp only [Rz] at h ⊢
    obtain ⟨a, vs, e, h1, h3, h2⟩ := h
    exact ⟨a, vs, e, f.l a _ h1.1 h1.2, h3, Rzs.map f h2⟩
  | .dic ks ds, v, h => by
    simp only [Rz] at h ⊢
    obtain ⟨a, vs, e, h1, h3, h2⟩ := h
    exact ⟨a, vs, e, f.d a _ h1.1 h1.2, h3, Rzs.map f h2⟩
  | .exc c, v, h => by
    simp only [Rz] at h ⊢
    obtain ⟨a, C, e, n, h1, h2⟩ := h
    exact ⟨a, C, e, (f.e a C n h1).1, (f.e a C n h1).2, h2⟩
theorem Rzs.map (f : Kp A A' H H') : ∀ {ds : List D} {vs : List V}, Rzs K A H ds vs → Rzs K A' H' ds vs
  | [], _, h => by simpa [Rzs] using h
  | d :: ds, vs, h => by
    simp only [Rzs] at h ⊢
    obtain ⟨v, r, e, h1, h2⟩ := h
    exact ⟨v, r, e, Rz.map f h1, Rzs.map f h2⟩
end
theorem Rzs.length : ∀ {ds : List D} {vs : List V}, Rzs K A H ds vs → vs.length = ds.length
  | [], vs, h => by simp only [Rzs] at h; rw [h]; rfl
  | d :: ds, vs, h => by
    simp only [Rzs] at h
    obtain ⟨v, r, e, _, h2⟩ := h
    rw [e, List.length_cons, List.length_cons, Rzs.length h2]
theorem Rzs.get : ∀ {ds : List D} {vs : List V} {i : Nat} {v : V}, Rzs K A H ds vs → vs[i]? = some v → ∃ d, ds[i]? = some d ∧ Rz K A H d v
  | [], vs, i, v, h, e => by simp only [Rzs] at h; rw [h] at e; simp at e
  | d :: ds, vs, i, v, h, e => by
    simp only [Rzs] at h
    obtain ⟨w, r, rfl, h1, h2⟩ := h
    cases i with
    | zero => simp at e; subst e; exact ⟨d, by simp, h1⟩
    | succ i =>
      obtain ⟨d', e', q⟩ := Rzs.get (i := i) h2 (by simpa using e)
      exact ⟨d', by simpa using e', q⟩
theorem Rzs.getD : ∀ {ds : List D} {vs : List V} {i : Nat} {d : D}, Rzs K A H ds vs → ds[i]? = some d → ∃ v, vs[i]? = some v ∧ Rz K A H d v
  | [], vs, i, v, h, e => by simp at e
  | d :: ds, vs, i, d', h, e => by
    simp only [Rzs] at h
    obtain ⟨w, r, rfl, h1, h2⟩ := h
    cases i with
    | zero => simp at e; subst e; exact ⟨w, by simp, h1⟩
    | succ i =>
      obtain ⟨v', e', q⟩ := Rzs.getD (i := i) h2 (by simpa using e)
      exact ⟨v', by simpa using e', q⟩
theorem Rzs.append : ∀ {ds es : List D} {vs ws : List V}, Rzs K A H ds vs → Rzs K A H es ws → Rzs K A H (ds ++ es) (vs ++ ws)
  | [], es, vs, ws, h, q => by simp only [Rzs] at h; rw [h]; exact q
  | d :: ds, es, vs, ws, h, q => by
    simp only [Rzs] at h
    obtain ⟨v, r, rfl, h1, h2⟩ := h
    show Rzs K A H (d :: (ds ++ es)) (v :: (r ++ ws))
    simp only [Rzs]
    exact ⟨v, _, rfl, h1, h2.append q⟩
theorem Rzs.one {d : D} {v : V} (h : Rz K A H d v) : Rzs K A H [d] [v] := by
  simp only [Rzs]; exact ⟨v, [], rfl, h, rfl⟩
theorem Rzs.nil : Rzs K A H [] [] := by simp only [Rzs]
theorem Rzs.cons {d : D} {v : V} {ds : List D} {vs : List V} (h : Rz K A H d v) (t : Rzs K A H ds vs) : Rzs K A H (d :: ds) (v :: vs) := by
  simp only [Rzs]; exact ⟨v, vs, rfl, h, t⟩
theorem Rzs.take : ∀ {ds : List D} {vs : List V} (n : Nat), Rzs K A H ds vs → Rzs K A H (ds.take n) (vs.take n)
  | _, _, 0, _ => by simp [Rzs]
  | [], vs, n + 1, h => by simp only [Rzs] at h; rw [h]; simp [Rzs]
  | d :: ds, vs, n + 1, h => by
    simp only [Rzs] at h
    obtain ⟨v, r, rfl, h1, h2⟩ := h
    simp only [List.take_succ_cons]
    exact .cons h1 (h2.take n)
theorem Rzs.drop : ∀ {ds : List D} {vs : List V} (n : Nat), Rzs K A H ds vs → Rzs K A H (ds.drop n) (vs.drop n)
  | _, _, 0, h => by simpa using h
  | [], vs, n + 1, h => by simp only [Rzs] at h; rw [h]; simp [Rzs]
  | d :: ds, vs, n + 1, h => by
    simp only [Rzs] at h
    obtain ⟨v, r, rfl, h1, h2⟩ := h
    simpa using h2.drop n
theorem Rzs.set : ∀ {ds : List D} {vs : List V} {d : D} {v : V} (n : Nat), Rzs K A H ds vs → Rz K A H d v → Rzs K A H (ds.set n d) (vs.set n v)
  | [], vs, d, v, n, h, q => by simp only [Rzs] at h; rw [h]; simp [Rzs]
  | d' :: ds, vs, d, v, n, h, q => by
    simp only [Rzs] at h
    obtain ⟨w, r, rfl, h1, h2⟩ := h
    cases n with
    | zero => exact .cons q h2
    | succ n => exact .cons h1 (h2.set n q)
end

/-! ### heaps that grow -/
def ExA (A : Av) (H H' : Hp) : Prop := ∀ a o, ¬ A a → At H a o → At H' a o
theorem ExA.refl {A : Av} {H : Hp} : ExA A H H := fun _ _ _ h => h
theorem ExA.trans {A : Av} {H H1 H2 : Hp} (x : ExA A H H1) (y : ExA A H1 H2) : ExA A H H2 := fun a o n h => y a o n (x a o n h)
theorem ExA.rd {A : Av} {H H' : Hp} (x : ExA A H H') {a : Addr} {o : HO} (n : ¬ A a) (h : Rd H a o) (l : Live o := by intro _ e; cases e) : Rd H' a o := by
  rcases h with h | ⟨u, h⟩
  · exact .inl (x a _ n ⟨h, l⟩).1
  · exact .inr ⟨u, (x a _ n (.mk h)).1⟩
theorem ExA.new {A : Av} {H : Hp} {p : Addr} {o : HO} (h : H p = none) : ExA A H (upd H p o) := fun a u _ e => e.new h
theorem Rz.ext {K : Frag} {A : Av} {H H' : Hp} {d : D} {v : V} (h : Rz K A H d v) (x : ExA A H H') : Rz K A H' d v := h.map (Kp.of fun _ _ n r => ⟨n, x _ _ n r⟩)
theorem rd_some {H : Hp} {a : Addr} {o : HO} (h : Rd H a o) : H a ≠ none := by
  rcases h with h | ⟨u, h⟩ <;> rw [h] <;> simp

/-! ### the state of the draws: a dict at p, its lists at q and c -/
/-- .. and the tables of the code objects, with their lambdas' names -/
abbrev Zt := Option (Addr × Addr × Addr) × List (Addr × Str)
/-- the defs in which a lambda may stand -/
def lamNames : List Str := ["law", "_law_read", "_law_bounds_right", "_law_papers_right", "_law_step", "_law_read_right", "_law_none"]
def lamTabs (K : Frag) : List (Addr × Str) := (lamNames.filter fun n => (He.Fa.glo n).ok K).map fun n => ((He.cT K (n, none)).2, (n ++ ".<locals>.") ++ "<lambda>")
def inZ (Z : Zt) (a : Addr) : Prop := match Z.1 with
  | none => False
  | some (p, q, c) => a = p ∨ a = q ∨ a = c
def sGreat : Key := .inr "great"
def sCells : Key := .inr "cells"
def sRest : Key := .inr "rest"
def sTurn : Key := .inr "turn"
/-- no law draws more often -/
def LIM : Nat := 2 ^ 4096
structure StOk (H : Hp) (p q c : Addr) (T : Nat) : Prop where
  pq : p ≠ q
  pc : p ≠ c
  qc : q ≠ c
  at_ : ∃ (gs cs : List Int) (r t : Int), H p = some (.dK [(sGreat, .ref q), (sCells, .ref c), (sRest, .int r), (sTurn, .int t)]) ∧ H q = some (.lst (gs.map V.int)) ∧ H c = some (.lst (cs.map V.int)) ∧ (cs ≠ [] ∨ 0 ≤ t ∧ t ≤ T)
def ZOk (Z : Zt) (T : Nat) (H : Hp) : Prop := (match Z.1 with
  | none => True
  | some (p, q, c) => StOk H p q c T) ∧ LamX.Tabs Z.2 H
theorem ZOk.up {Z : Zt} {T T' : Nat} {H : Hp} (z : ZOk Z T H) (h : T ≤ T') : ZOk Z T' H := by
  obtain ⟨Z1, Z2⟩ := Z
  refine ⟨?_, z.2⟩
  have z := z.1
  cases Z1 with
  | none => trivial
  | some t =>
    obtain ⟨p, q, c⟩ := t
    obtain ⟨n1, n2, n3, gs, cs, r, t, h1, h2, h3, h4⟩ := z
    exact ⟨n1, n2, n3, gs, cs, r, t, h1, h2, h3, h4.imp id fun x => ⟨x.1, by omega⟩⟩
theorem ZOk.trk {Z : Zt} {T : Nat} {H : Hp} (z : ZOk Z T H) {a : Addr} (h : inZ Z a) : Lv H a := by
  obtain ⟨Z1, Z2⟩ := Z
  have z := z.1
  cases Z1 with
  | none => exact h.elim
  | some t =>
    obtain ⟨p, q, c⟩ := t
    obtain ⟨_, _, _, gs, cs, r, t, h1, h2, h3, h4⟩ := z
    rcases h with h | h | h <;> subst h
    · exact ⟨_, .mk h1⟩
    · exact ⟨_, .mk h2⟩
    · exact ⟨_, .mk h3⟩
/-- behind an evaluation: all but the draws' state as it was -/
structure Aft (Z : Zt) (T : Nat) (H H' : Hp) : Prop where
  ex : ExA (inZ Z) H H'
  z : ZOk Z T H'
theorem Aft.up {Z : Zt} {T T' : Nat} {H H' : Hp} (x : Aft Z T H H') (h : T ≤ T' := by omega) : Aft Z T' H H' := ⟨x.ex, x.z.up h⟩
theorem Aft.trans {Z : Zt} {T1 T : Nat} {H H1 H2 : Hp} (x : Aft Z T1 H H1) (y : Aft Z T H1 H2) : Aft Z T H H2 := ⟨x.ex.trans y.ex, y.z⟩
theorem Aft.gone {Z : Zt} {T : Nat} {H H' : Hp} (x : Aft Z T H H') {p : Addr} (h : Gone H' p) : Gone H p := fun o q => by
  by_cases z : inZ Z p
  · exact (x.z.trk z).no h
  · exact h o (x.ex p o z q)
theorem Aft.none_back {Z : Zt} {T : Nat} {H H' : Hp} (x : Aft Z T H H') {p : Addr} (h : Gone H' p) : Gone H p := x.gone h
theorem stOk_at {H H' : Hp} {p q c : Addr} {T : Nat} (z : StOk H p q c T) (k : ∀ a o, (a = p ∨ a = q ∨ a = c) → At H a o → At H' a o) : StOk H' p q c T := by
  obtain ⟨n1, n2, n3, gs, cs, r, t, h1, h2, h3, h4⟩ := z
  exact ⟨n1, n2, n3, gs, cs, r, t, (k _ _ (.inl rfl) (.mk h1)).1, (k _ _ (.inr (.inl rfl)) (.mk h2)).1, (k _ _ (.inr (.inr rfl)) (.mk h3)).1, h4⟩
theorem ZOk.grow {Z : Zt} {T : Nat} {H H' : Hp} (z : ZOk Z T H) (g : ∀ a o, H a = some o → H' a = some o) : ZOk Z T H' := by
  obtain ⟨Z1, Z2⟩ := Z
  obtain ⟨z1, z2⟩ := z
  constructor
  · cases Z1 with
    | none => trivial
    | some t => obtain ⟨a, b, c⟩ := t; exact stOk_at z1 fun a o _ e => e.grow g
  · exact z2.ext g
theorem ZOk.new {Z : Zt} {T : Nat} {H : Hp} (z : ZOk Z T H) {p : Addr} {o : HO} (h : H p = none) : ZOk Z T (upd H p o) := by
  obtain ⟨Z1, Z2⟩ := Z
  obtain ⟨z1, z2⟩ := z
  constructor
  · cases Z1 with
    | none => trivial
    | some t => obtain ⟨a, b, c⟩ := t; exact stOk_at z1 fun a o _ e => e.new h
  · exact z2.ext fun b u e => by rw [upd_ne (ne_of_none e h)]; exact e
theorem Aft.new {Z : Zt} {T : Nat} {H : Hp} (z : ZOk Z T H) {p : Addr} {o : HO} (h : H p = none) : Aft Z T H (upd H p o) := ⟨ExA.new h, z.new h⟩
/-- a table stays where a list, a dict is written -/
theorem tab_but {H : Hp} {P p : Addr} {n : Str} {o : HO} (t : LamX.TabS H P n) (h1 : ∀ φ, H p ≠ some (.ext φ)) (h2 : ∀ ps, H p ≠ some (.tbl ps)) : LamX.TabS (upd H p o) P n := by
  obtain ⟨ps, hP, ht, hc⟩ := t
  refine ⟨ps, by rw [upd_ne (fun z => h2 ps (by rw [← z]; exact hP))]; exact hP, ht, fun pos cv e => ?_⟩
  obtain ⟨c, rfl, h⟩ := hc pos cv e
  refine ⟨c, rfl, ?_⟩
  rw [upd_ne (fun z => by rw [z] at h; exact h1 _ h)]
  exact h
/-- what does not touch the state's objects keeps it -/
theorem ZOk.but {Z : Zt} {T : Nat} {H : Hp} (z : ZOk Z T H) {p : Addr} {o : HO} (h : ¬ inZ Z p) (h1 : ∀ φ, H p ≠ some (.ext φ)) (h2 : ∀ ps, H p ≠ some (.tbl ps)) : ZOk Z T (upd H p o) := by
  obtain ⟨Z1, Z2⟩ := Z
  obtain ⟨z1, z2⟩ := z
  constructor
  · cases Z1 with
    | none => trivial
    | some t =>
      obtain ⟨a, b, c⟩ := t
      exact stOk_at z1 fun x o i e => e.but fun w => h (by rw [← w]; exact i)
  · exact fun p hp => tab_but (z2 p hp) h1 h2

/-! ### environments of data -/
inductive SV where
  | un | fz (d : D) | ow (d : D) | st | sc (ns : List Int) | bo (d : D)
abbrev Env := List SV
/-- what an expression gives: a datum, a datum that lies in a new object of its own, the draws' state -/
inductive IV where
  | fz (d : D) | fr (d : D) | st | bo (d : D)
def OwnAt (K : Frag) (A : Av) (H : Hp) (a : Addr) : D → Prop
  | .lst ds => ∃ vs, H a = some (.lst vs) ∧ ds.length ≤ sizeLine ∧ Rzs K A H ds vs
  | .dic ks ds => ∃ vs, H a = some (.dK (ks.zip vs)) ∧ (ks.length = ds.length ∧ ds.length ≤ sizeLine) ∧ Rzs K A H ds vs
  | _ => False
theorem OwnAt.map {K : Frag} {A A' : Av} {H H' : Hp} {a : Addr} {d : D} (h : OwnAt K A H a d) (f : Kp A A' H H') (g : ∀ o, At H a o → At H' a o) : OwnAt K A' H' a d := by
  cases d with
  | lst ds => obtain ⟨vs, h1, h3, h2⟩ := h; exact ⟨vs, (g _ (.mk h1)).1, h3, h2.map f⟩
  | dic ks ds => obtain ⟨vs, h1, h3, h2⟩ := h; exact ⟨vs, (g _ (.mk h1)).1, h3, h2.map f⟩
  | _ => exact h.elim
theorem OwnAt.ok {K : Frag} {A : Av} {H : Hp} {a : Addr} {d : D} (h : OwnAt K A H a d) : d.ok := by
  cases d with
  | lst ds => obtain ⟨vs, h1, h3, h2⟩ := h; simp only [D.ok]; exact ⟨h3, h2.oks⟩
  | dic ks ds => obtain ⟨vs, h1, h3, h2⟩ := h; simp only [D.ok]; exact ⟨h3, h2.oks⟩
  | _ => exact h.elim
theorem OwnAt.trk {K : Frag} {A : Av} {H : Hp} {a : Addr} {d : D} (h : OwnAt K A H a d) : Lv H a := by
  cases d with
  | lst ds => obtain ⟨vs, h1, h3, h2⟩ := h; exact ⟨_, .mk h1⟩
  | dic ks ds => obtain ⟨vs, h1, h3, h2⟩ := h; exact ⟨_, .mk h1⟩
  | _ => exact h.elim
/-- an own object is given away -/
theorem OwnAt.rz {K : Frag} {A : Av} {H : Hp} {a : Addr} {d : D} (h : OwnAt K A H a d) {A' : Av} (n : ¬ A' a) (s : ∀ b, A' b → A b) : Rz K A' H d (.ref a) := by
  have f : Kp A A' H H := .of fun b o nb r => ⟨fun z => nb (s b z), r⟩
  cases d with
  | lst ds => obtain ⟨vs, h1, h3, h2⟩ := h; simp only [Rz]; exact ⟨a, vs, rfl, ⟨n, h1⟩, h3, h2.map f⟩
  | dic ks ds => obtain ⟨vs, h1, h3, h2⟩ := h; simp only [Rz]; exact ⟨a, vs, rfl, ⟨n, .inl h1⟩, h3, h2.map f⟩
  | _ => exact h.elim

def Own (ε : Env) (σ : St) (a : Addr) : Prop := ∃ (i : Nat) (d : D), ε[i]? = some (.ow d) ∧ σ[i]? = some (some (.ref a))
def AvE (B : Av) (Z : Zt) (ε : Env) (σ : St) : Av := fun a => B a ∨ inZ Z a ∨ Own ε σ a
def SvOk (K : Frag) (A B : Av) (Z : Zt) (H0 H : Hp) (σ : St) (i : Nat) : SV → Prop
  | .un => True
  | .fz d => ∃ v, σ[i]? = some (some v) ∧ Rz K A H d v
  | .ow d => ∃ a, σ[i]? = some (some (.ref a)) ∧ ¬ B a ∧ ¬ inZ Z a ∧ Gone H0 a ∧ OwnAt K A H a d
  | .st => ∃ p q c, Z.1 = some (p, q, c) ∧ σ[i]? = some (some (.ref p))
  | .bo d => ∃ a, σ[i]? = some (some (.ref a)) ∧ B a ∧ ¬ inZ Z a ∧ OwnAt K A H a d
  | .sc ns => ∃ a, σ[i]? = some (some (.ref a)) ∧ ((¬ A a ∧ Rd H a (.lst (ns.map V.int))) ∨ ListK K a (ns.map V.int))
/-- the slots and the heap bear the environment; B: what others hold; H0: the heap at the entry -/
structure RE (K : Frag) (B : Av) (Z : Zt) (T : Nat) (H0 : Hp) (ε : Env) (σ : St) (H : Hp) : Prop where
  slot : ∀ (i : Nat) (x : SV), ε[i]? = some x → SvOk K (AvE B Z ε σ) B Z H0 H σ i x
  inj : ∀ (i j : Nat) (d d' : D) (a : Addr), ε[i]? = some (.ow d) → ε[j]? = some (.ow d') → σ[i]? = some (some (.ref a)) → σ[j]? = some (some (.ref a)) → i = j
  trk : ∀ a, B a → Lv H a
  z : ZOk Z T H
  ext : ExA (inZ Z) H0 H
  len : ε.length = σ.length
  tb : Z.2 = lamTabs K

section
variable {K : Frag} {B B' : Av} {Z : Zt} {T T' : Nat} {H0 H H' : Hp} {ε : Env} {σ : St}
theorem RE.trkA (r : RE K B Z T H0 ε σ H) {a : Addr} (h : AvE B Z ε σ a) : Lv H a := by
  rcases h with h | h | ⟨i, d, e1, e2⟩
  · exact r.trk a h
  · exact r.z.trk h
  · obtain ⟨b, f1, _, _, _, f2⟩ := r.slot i _ e1
    rw [e2] at f1; cases f1
    exact f2.trk
theorem RE.up (r : RE K B Z T H0 ε σ H) (h : T ≤ T' := by omega) : RE K B Z T' H0 ε σ H := ⟨r.slot, r.inj, r.trk, r.z.up h, r.ext, r.len, r.tb⟩
theorem RE.step (r : RE K B Z T H0 ε σ H) (x : Aft Z T' H H') (hS : ∀ a, B a → B' a) (hB : ∀ a, B' a → B a ∨ Gone H a) (hT : ∀ a, B' a → Lv H' a) : RE K B' Z T' H0 ε σ H' := by
  have f0 : ∀ a o, ¬ AvE B Z ε σ a → At H a o → ¬ AvE B' Z ε σ a ∧ At H' a o := fun a o n h => by
    refine ⟨fun q => ?_, x.ex _ _ (fun z => n (.inr (.inl z))) h⟩
    rcases q with q | q
    · rcases hB a q with q | q
      · exact n (.inl q)
      · exact q o h
    · exact n (.inr q)
  have f : Kp (AvE B Z ε σ) (AvE B' Z ε σ) H H' := .of f0
  refine ⟨fun i y e => ?_, r.inj, hT, x.z, r.ext.trans x.ex, r.len, r.tb⟩
  have q := r.slot i y e
  cases y with
  | un => trivial
  | fz d => obtain ⟨v, h1, h2⟩ := q; exact ⟨v, h1, h2.map f⟩
  | ow d =>
    obtain ⟨a, h1, h2, h3, h4, h5⟩ := q
    refine ⟨a, h1, fun q => ?_, h3, h4, h5.map f fun o e => x.ex a o h3 e⟩
    rcases hB a q with q | q
    · exact h2 q
    · exact h5.trk.no q
  | st => exact q
  | bo d =>
    obtain ⟨a, h1, h2, h3, h5⟩ := q
    exact ⟨a, h1, hS a h2, h3, h5.map f fun o e => x.ex a o h3 e⟩
  | sc ns =>
    obtain ⟨a, h1, ⟨h2, h4⟩ | h5⟩ := q
    · exact ⟨a, h1, .inl (rd_at f0 h2 h4)⟩
    · exact ⟨a, h1, .inr h5⟩
theorem RE.aft (r : RE K B Z T H0 ε σ H) (x : Aft Z T' H H') : RE K B Z T' H0 ε σ H' := r.step x (fun _ h => h) (fun _ h => .inl h) fun a h => by
  obtain ⟨o, e⟩ := r.trk a h
  exact Classical.byContradiction fun n => (x.gone (fun o' e' => n ⟨o', e'⟩)) o e
/-- a datum of one's own stays -/
theorem Rz.aft {d : D} {v : V} (h : Rz K (AvE B Z ε σ) H d v) (x : Aft Z T H H') : Rz K (AvE B Z ε σ) H' d v := h.map (.of fun a o n r => ⟨n, x.ex _ _ (fun z => n (.inr (.inl z))) r⟩)
end

/-- an expression's value -/
def RV (K : Frag) (A : Av) (Z : Zt) (H H' : Hp) (v : V) : IV → Prop
  | .fz d => Rz K A H' d v
  | .fr d => ∃ p, v = .ref p ∧ Gone H p ∧ OwnAt K (fun a => A a ∨ a = p) H' p d
  | .st => ∃ p q c, Z.1 = some (p, q, c) ∧ v = .ref p
  | .bo d => ∃ p, v = .ref p ∧ A p ∧ ¬ inZ Z p ∧ OwnAt K A H' p d
/-- looked at only: a datum, or what an own slot holds -/
def RI (K : Frag) (A : Av) (Z : Zt) (H : Hp) (d : D) (v : V) : Prop := Rz K A H d v ∨ ∃ a, v = .ref a ∧ ¬ inZ Z a ∧ OwnAt K A H a d
section
variable {K : Frag} {B : Av} {Z : Zt} {T : Nat} {H0 H H' : Hp} {ε : Env} {σ : St}
theorem RI.aft {d : D} {v : V} (h : RI K (AvE B Z ε σ) Z H d v) (x : Aft Z T H H') : RI K (AvE B Z ε σ) Z H' d v := by
  rcases h with h | ⟨a, e, n, h⟩
  · exact .inl (h.aft x)
  · exact .inr ⟨a, e, n, h.map (.of fun b o nb r => ⟨nb, x.ex _ _ (fun z => nb (.inr (.inl z))) r⟩) fun o e => x.ex a o n e⟩
theorem RI.non {A : Av} {v : V} (h : RI K A Z H .non v) : v = .non := by
  rcases h with h | ⟨_, _, _, h⟩
  · simpa only [Rz] using h
  · exact h.elim
theorem RI.bl {A : Av} {v : V} {b : Bool} (h : RI K A Z H (.bl b) v) : v = .bl b := by
  rcases h with h | ⟨_, _, _, h⟩
  · simpa only [Rz] using h
  · exact h.elim
theorem RI.int {A : Av} {v : V} {b : Int} (h : RI K A Z H (.int b) v) : v = .int b := by
  rcases h with h | ⟨_, _, _, h⟩
  · simpa only [Rz] using h
  · exact h.elim
theorem RI.str {A : Av} {v : V} {b : Str} (h : RI K A Z H (.str b) v) : v = .str b ∧ b.length ≤ sizeLine := by
  rcases h with h | ⟨_, _, _, h⟩
  · simpa only [Rz] using h
  · exact h.elim
theorem RI.exc {A : Av} {v : V} {c : Str} (h : RI K A Z H (.exc c) v) : ∃ a C, v = .ref a ∧ H a = some (ExcO a C) ∧ ExcN K c C := by
  rcases h with h | ⟨_, _, _, h⟩
  · simp only [Rz] at h
    obtain ⟨a, C, e, _, h⟩ := h
    exact ⟨a, C, e, h⟩
  · exact h.elim
theorem RI.tup {A : Av} {v : V} {ds : List D} (h : RI K A Z H (.tup ds) v) : ∃ a vs, v = .ref a ∧ FzT K A H a vs ∧ ds.length ≤ sizeLine ∧ Rzs K A H ds vs := by
  rcases h with h | ⟨_, _, _, h⟩
  · simpa only [Rz] using h
  · exact h.elim
theorem RI.lst {A : Av} {v : V} {ds : List D} (h : RI K A Z H (.lst ds) v) : ∃ a vs, v = .ref a ∧ H a = some (.lst vs) ∧ ds.length ≤ sizeLine ∧ Rzs K A H ds vs := by
  rcases h with h | ⟨a, e, _, vs, h1, h3, h2⟩
  · simp only [Rz] at h
    obtain ⟨a, vs, e, h1, h3, h2⟩ := h
    exact ⟨a, vs, e, h1.2, h3, h2⟩
  · exact ⟨a, vs, e, h1, h3, h2⟩
theorem RI.dic {A : Av} {v : V} {ks : List Key} {ds : List D} (h : RI K A Z H (.dic ks ds) v) : ∃ a vs, v = .ref a ∧ Rd H a (.dK (ks.zip vs)) ∧ (ks.length = ds.length ∧ ds.length ≤ sizeLine) ∧ Rzs K A H ds vs := by
  rcases h with h | ⟨a, e, _, vs, h1, h3, h2⟩
  · simp only [Rz] at h
    obtain ⟨a, vs, e, h1, h3, h2⟩ := h
    exact ⟨a, vs, e, h1.2, h3, h2⟩
  · exact ⟨a, vs, e, .inl h1, h3, h2⟩
end

/-! ### judgements -/
abbrev XC := Str
abbrev ME := Env → (IV → Prop) → (XC → Prop) → Prop
abbrev MI := Env → (D → Prop) → (XC → Prop) → Prop
abbrev MT := Env → (Bool → Prop) → (XC → Prop) → Prop
abbrev MA := Env → (List IV → Prop) → (XC → Prop) → Prop
structure EndsD where
  nx : Env → Prop
  rt : IV → Prop
  bk : Env → Prop := fun _ => False
  ct : Env → Prop := fun _ => False
  ex : XC → Env → Prop := fun _ _ => False
abbrev MS := EndsD → Env → Prop
structure EndsD.le (D D' : EndsD) : Prop where
  nx : ∀ ε, D.nx ε → D'.nx ε
  rt : ∀ v, D.rt v → D'.rt v
  bk : ∀ ε, D.bk ε → D'.bk ε
  ct : ∀ ε, D.ct ε → D'.ct ε
  ex : ∀ c ε, D.ex c ε → D'.ex c ε
theorem EndsD.le.refl (D : EndsD) : D.le D := ⟨fun _ h => h, fun _ h => h, fun _ h => h, fun _ h => h, fun _ _ h => h⟩

/-- what a raise is wished to be, at the slots σ -/
def XW (X : Cx) (W : WX) (Z : Zt) (T : Nat) (σ : St) (H : Hp) (Ex : XC → Prop) : Prop := ∀ c C H', Ex c → X.mg c = some (.ref C) → Aft Z T H H' → W (.ref C) none σ H'
theorem XW.aft {X : Cx} {W : WX} {Z : Zt} {T T' : Nat} {σ : St} {H H1 : Hp} {Ex : XC → Prop} (h : XW X W Z T' σ H Ex) (x : Aft Z T H H1) : XW X W Z T' σ H1 Ex := fun c C H' e m y => h c C H' e m (x.trans y)
theorem XW.at {X : Cx} {W : WX} {Z : Zt} {T' : Nat} {σ : St} {H : Hp} {Ex : XC → Prop} (h : XW X W Z T' σ H Ex) (T : Nat) (hT : T ≤ T' := by omega) : XW X W Z T σ H Ex := fun c C H' e m y => h c C H' e m (y.up hT)

/-- the reading t does to data what m says, and draws at most c times -/
structure LiftE (X : Cx) (W : WX) (t : TE) (m : ME) (c : Nat) : Prop where
  mono : ∀ ε Q Q' Ex Ex', (∀ x, Q x → Q' x) → (∀ c, Ex c → Ex' c) → m ε Q Ex → m ε Q' Ex'
  run0 : ∀ B Z T H0 ε σ H (Q : VK) Ex, T + c ≤ LIM → RE X.K B Z T H0 ε σ H → XW X W Z (T + c) σ H Ex →
    m ε (fun iv => ∀ v H', Aft Z (T + c) H H' → RV X.K (AvE B Z ε σ) Z H H' v iv → Q v H') Ex → t σ H Q
structure LiftI (X : Cx) (W : WX) (t : TE) (m : MI) (c : Nat) : Prop where
  mono : ∀ ε Q Q' Ex Ex', (∀ x, Q x → Q' x) → (∀ c, Ex c → Ex' c) → m ε Q Ex → m ε Q' Ex'
  run0 : ∀ B Z T H0 ε σ H (Q : VK) Ex, T + c ≤ LIM → RE X.K B Z T H0 ε σ H → XW X W Z (T + c) σ H Ex →
    m ε (fun d => ∀ v H', Aft Z (T + c) H H' → RI X.K (AvE B Z ε σ) Z H' d v → Q v H') Ex → t σ H Q
structure LiftT (X : Cx) (W : WX) (t : TT) (m : MT) (c : Nat) : Prop where
  mono : ∀ ε Q Q' Ex Ex', (∀ x, Q x → Q' x) → (∀ c, Ex c → Ex' c) → m ε Q Ex → m ε Q' Ex'
  run0 : ∀ B Z T H0 ε σ H (Q : Bool → Hp → Prop) Ex, T + c ≤ LIM → RE X.K B Z T H0 ε σ H → XW X W Z (T + c) σ H Ex →
    m ε (fun b => ∀ H', Aft Z (T + c) H H' → Q b H') Ex → t σ H Q
/-- values in a row -/
def RVs (K : Frag) (A : Av) (Z : Zt) (H' : Hp) : List IV → List V → Prop
  | [], vs => vs = []
  | i :: is, vs => ∃ v r, vs = v :: r ∧ RV K A Z H' H' v i ∧ (∀ d, i ≠ .fr d) ∧ RVs K A Z H' is r
structure LiftA (X : Cx) (W : WX) (t : TA) (m : MA) (c : Nat) : Prop where
  mono : ∀ ε Q Q' Ex Ex', (∀ x, Q x → Q' x) → (∀ c, Ex c → Ex' c) → m ε Q Ex → m ε Q' Ex'
  run0 : ∀ B Z T H0 ε σ H (Q : List V → Hp → Prop) Ex, T + c ≤ LIM → RE X.K B Z T H0 ε σ H → XW X W Z (T + c) σ H Ex →
    m ε (fun is => ∀ vs H', Aft Z (T + c) H H' → RVs X.K (AvE B Z ε σ) Z H' is vs → Q vs H') Ex → t σ H Q
/-- the ends of a statement -/
structure LE (X : Cx) (W : WX) (B : Av) (Z : Zt) (T : Nat) (H0 : Hp) (De : EndsD) (D : Ends) : Prop where
  nx : ∀ ε σ H, De.nx ε → RE X.K B Z T H0 ε σ H → D.nx σ H
  bk : ∀ ε σ H, De.bk ε → RE X.K B Z T H0 ε σ H → D.bk σ H
  ct : ∀ ε σ H, De.ct ε → RE X.K B Z T H0 ε σ H → D.ct σ H
  rt : ∀ iv v H, De.rt iv → Aft Z T H0 H → (∀ a, B a → Lv H a) → RV X.K (fun a => B a ∨ inZ Z a) Z H0 H v iv → D.rt v H
  ex : ∀ c C ε σ H, De.ex c ε → X.mg c = some (.ref C) → RE X.K B Z T H0 ε σ H → W (.ref C) none σ H
theorem LE.at {X : Cx} {W : WX} {B : Av} {Z : Zt} {T' : Nat} {H0 : Hp} {De : EndsD} {D : Ends} (l : LE X W B Z T' H0 De D) (T : Nat) (h : T ≤ T' := by omega) : LE X W B Z T H0 De D :=
  ⟨fun ε σ H q r => l.nx ε σ H q (r.up h), fun ε σ H q r => l.bk ε σ H q (r.up h), fun ε σ H q r => l.ct ε σ H q (r.up h), fun iv v H q a t r => l.rt iv v H q (a.up h) t r, fun c C ε σ H q m r => l.ex c C ε σ H q m (r.up h)⟩
structure LiftS (X : Cx) (W : WX) (t : TS) (m : MS) (c : Nat) : Prop where
  mono : ∀ ε De De', De.le De' → m De ε → m De' ε
  run0 : ∀ B Z T H0 ε σ H De D, T + c ≤ LIM → RE X.K B Z T H0 ε σ H → LE X W B Z (T + c) H0 De D → m De ε → t D σ H
section
variable {X : Cx} {W : WX} {c c' T T' : Nat}
theorem LiftE.run {t : TE} {m : ME} (l : LiftE X W t m c) (B Z H0 ε σ H) (Q : VK) (Ex) (r : RE X.K B Z T H0 ε σ H) (hx : XW X W Z T' σ H Ex)
    (q : m ε (fun iv => ∀ v H', Aft Z T' H H' → RV X.K (AvE B Z ε σ) Z H H' v iv → Q v H') Ex) (h1 : T + c ≤ T' := by omega) (h2 : T' ≤ LIM := by omega) : t σ H Q :=
  l.run0 B Z T H0 ε σ H Q Ex (by omega) r (hx.at _) (l.mono _ _ _ _ _ (fun iv q v H' a rv => q v H' a.up rv) (fun _ x => x) q)
theorem LiftI.run {t : TE} {m : MI} (l : LiftI X W t m c) (B Z H0 ε σ H) (Q : VK) (Ex) (r : RE X.K B Z T H0 ε σ H) (hx : XW X W Z T' σ H Ex)
    (q : m ε (fun d => ∀ v H', Aft Z T' H H' → RI X.K (AvE B Z ε σ) Z H' d v → Q v H') Ex) (h1 : T + c ≤ T' := by omega) (h2 : T' ≤ LIM := by omega) : t σ H Q :=
  l.run0 B Z T H0 ε σ H Q Ex (by omega) r (hx.at _) (l.mono _ _ _ _ _ (fun iv q v H' a rv => q v H' a.up rv) (fun _ x => x) q)
theorem LiftT.run {t : TT} {m : MT} (l : LiftT X W t m c) (B Z H0 ε σ H) (Q : Bool → Hp → Prop) (Ex) (r : RE X.K B Z T H0 ε σ H) (hx : XW X W Z T' σ H Ex)
    (q : m ε (fun b => ∀ H', Aft Z T' H H' → Q b H') Ex) (h1 : T + c ≤ T' := by omega) (h2 : T' ≤ LIM := by omega) : t σ H Q :=
  l.run0 B Z T H0 ε σ H Q Ex (by omega) r (hx.at _) (l.mono _ _ _ _ _ (fun iv q H' a => q H' a.up) (fun _ x => x) q)
theorem LiftA.run {t : TA} {m : MA} (l : LiftA X W t m c) (B Z H0 ε σ H) (Q : List V → Hp → Prop) (Ex) (r : RE X.K B Z T H0 ε σ H) (hx : XW X W Z T' σ H Ex)
    (q : m ε (fun is => ∀ vs H', Aft Z T' H H' → RVs X.K (AvE B Z ε σ) Z H' is vs → Q vs H') Ex) (h1 : T + c ≤ T' := by omega) (h2 : T' ≤ LIM := by omega) : t σ H Q :=
  l.run0 B Z T H0 ε σ H Q Ex (by omega) r (hx.at _) (l.mono _ _ _ _ _ (fun iv q v H' a rv => q v H' a.up rv) (fun _ x => x) q)
theorem LiftS.run {t : TS} {m : MS} (l : LiftS X W t m c) (B Z H0 ε σ H De D) (r : RE X.K B Z T H0 ε σ H) (le : LE X W B Z T' H0 De D) (q : m De ε) (h1 : T + c ≤ T' := by omega) (h2 : T' ≤ LIM := by omega) : t D σ H :=
  l.run0 B Z T H0 ε σ H De D (by omega) r (le.at _) q
end

def DE (X : Cx) (W : WX) (e : Expr) (m : ME) (c : Nat) : Prop := ∃ t, PE X e t ∧ LiftE X W t m c
def DI (X : Cx) (W : WX) (e : Expr) (m : MI) (c : Nat) : Prop := ∃ t, PE X e t ∧ LiftI X W t m c
def DT (X : Cx) (W : WX) (e : Expr) (m : MT) (c : Nat) : Prop := ∃ t, PT X e t ∧ LiftT X W t m c
def DA (X : Cx) (W : WX) (es : List Expr) (m : MA) (c : Nat) : Prop := ∃ t, PA X es t ∧ LiftA X W t m c
def DS (X : Cx) (W : WX) (s : Stmt) (m : MS) (c : Nat) : Prop := ∃ t, PS X s t ∧ LiftS X W t m c
def DSs (X : Cx) (W : WX) (s : List Stmt) (m : MS) (c : Nat) : Prop := ∃ t, PSs X s t ∧ LiftS X W t m c
end G

namespace G
open PySem PySem.Spec PyProof.Rows L2

/-! ### small helps -/
section
variable {K : Frag} {B : Av} {Z : Zt} {T : Nat} {H0 H H' : Hp} {ε : Env} {σ : St}
theorem RE.aftRefl (r : RE K B Z T H0 ε σ H) : Aft Z T H H := ⟨ExA.refl, r.z⟩
/-- a new object is no one's -/
theorem RE.nA (r : RE K B Z T H0 ε σ H) {p : Addr} (h : Gone H p) : ¬ AvE B Z ε σ p := fun q => (r.trkA q).no h
/-- a new object's datum as a datum like others -/
theorem RV.rz (r : RE K B Z T H0 ε σ H) {v : V} {d : D} (h : RV K (AvE B Z ε σ) Z H H' v (.fr d)) : Rz K (AvE B Z ε σ) H' d v := by
  obtain ⟨p, e, hn, ho⟩ := h
  subst e
  exact ho.rz (r.nA hn) fun b z => .inl z
def onD (Q : D → Prop) : IV → Prop
  | .fz d => Q d
  | .fr d => Q d
  | _ => False
@[simp] theorem onD_fz {Q : D → Prop} {d : D} : onD Q (.fz d) = Q d := rfl
@[simp] theorem onD_fr {Q : D → Prop} {d : D} : onD Q (.fr d) = Q d := rfl
@[simp] theorem onD_st {Q : D → Prop} : onD Q .st = False := rfl
@[simp] theorem onD_bo {Q : D → Prop} {d : D} : onD Q (.bo d) = False := rfl
theorem onD_mono {Q Q' : D → Prop} (h : ∀ d, Q d → Q' d) : ∀ iv, onD Q iv → onD Q' iv
  | .fz d, q => h d q
  | .fr d, q => h d q
  | .st, q => q
  | .bo d, q => q
end

section
variable {X : Cx} {W : WX}

/-! ### from one judgement to another -/
def mDat (m : ME) : MI := fun ε Q Ex => m ε (onD Q) Ex
theorem LiftE.dat {t : TE} {m : ME} (h : LiftE X W t m ch) : LiftI X W t (mDat m) ch := by
  refine ⟨fun ε Q Q' Ex Ex' hq hx q => h.mono ε _ _ _ _ (onD_mono hq) hx q, fun B Z T H0 ε σ H Q Ex hL r hx q => ?_⟩
  refine h.run B Z H0 ε σ H Q Ex r hx (h.mono ε _ _ _ _ (fun iv q => ?_) (fun _ x => x) q)
  intro v H' a rv
  cases iv with
  | fz d => exact q v H' a (.inl rv)
  | fr d => exact q v H' a (.inl (rv.rz r))
  | st => exact q.elim
  | bo d => exact q.elim
theorem DE.i {e : Expr} {m : ME} (h : DE X W e m ch) : DI X W e (mDat m) ch := let ⟨t, p, l⟩ := h; ⟨t, p, l.dat⟩
/-- a datum that an op gives at once -/
theorem RV.mk {B : Av} {Z : Zt} {ε : Env} {σ : St} {H H' : Hp} {v : V} {d : D} (h : Rz X.K (AvE B Z ε σ) H' d v) : RV X.K (AvE B Z ε σ) Z H H' v (.fz d) := h

/-! ### names and constants -/
def mVar (i : Nat) : ME := fun ε Q _ => match ε[i]? with
  | some (.fz d) => Q (.fz d)
  | some .st => Q .st
  | _ => False
def mPeek (i : Nat) : MI := fun ε Q _ => match ε[i]? with
  | some (.fz d) => Q d
  | some (.ow d) => Q d
  | some (.bo d) => Q d
  | _ => False
theorem lift_var {i : Nat} : LiftE X W (tVar i) (mVar i) 0 := by
  refine ⟨fun ε Q Q' Ex Ex' hq hx q => ?_, fun B Z T H0 ε σ H Q Ex hL r hx q => ?_⟩
  · unfold mVar at q ⊢
    split at q
    · exact hq _ q
    · exact hq _ q
    · exact q
  · unfold mVar at q
    split at q
    · rename_i d e
      obtain ⟨v, h1, h2⟩ := r.slot i _ e
      exact ⟨v, h1, q v H r.aftRefl h2⟩
    · rename_i e
      obtain ⟨p, a, c, h1, h2⟩ := r.slot i _ e
      exact ⟨_, h2, q _ H r.aftRefl ⟨p, a, c, h1, rfl⟩⟩
    · exact q.elim
theorem lift_peek {i : Nat} : LiftI X W (tVar i) (mPeek i) 0 := by
  refine ⟨fun ε Q Q' Ex Ex' hq hx q => ?_, fun B Z T H0 ε σ H Q Ex hL r hx q => ?_⟩
  · unfold mPeek at q ⊢
    split at q
    · exact hq _ q
    · exact hq _ q
    · exact hq _ q
    · exact q
  · unfold mPeek at q
    split at q
    · rename_i d e
      obtain ⟨v, h1, h2⟩ := r.slot i _ e
      exact ⟨v, h1, q v H r.aftRefl (.inl h2)⟩
    · rename_i d e
      obtain ⟨a, h1, h2, h3, h4, h5⟩ := r.slot i _ e
      exact ⟨_, h1, q _ H r.aftRefl (.inr ⟨a, rfl, h3, h5⟩)⟩
    · rename_i d e
      obtain ⟨a, h1, h2, h3, h5⟩ := r.slot i _ e
      exact ⟨_, h1, q _ H r.aftRefl (.inr ⟨a, rfl, h3, h5⟩)⟩
    · exact q.elim
/-- an own slot lent to a call -/
def mBor (i : Nat) : ME := fun ε Q _ => match ε[i]? with
  | some (.fz d) => Q (.fz d)
  | some (.ow d) => Q (.bo d)
  | some (.bo d) => Q (.bo d)
  | _ => False
theorem lift_bor {i : Nat} : LiftE X W (tVar i) (mBor i) 0 := by
  refine ⟨fun ε Q Q' Ex Ex' hq hx q => ?_, fun B Z T H0 ε σ H Q Ex hL r hx q => ?_⟩
  · unfold mBor at q ⊢
    split at q
    · exact hq _ q
    · exact hq _ q
    · exact hq _ q
    · exact q
  · unfold mBor at q
    split at q
    · rename_i d e
      obtain ⟨v, h1, h2⟩ := r.slot i _ e
      exact ⟨v, h1, q v H r.aftRefl h2⟩
    · rename_i d e
      obtain ⟨a, h1, h2, h3, h4, h5⟩ := r.slot i _ e
      exact ⟨_, h1, q _ H r.aftRefl ⟨a, rfl, .inr (.inr ⟨i, d, e, h1⟩), h3, h5⟩⟩
    · rename_i d e
      obtain ⟨a, h1, h2, h3, h5⟩ := r.slot i _ e
      exact ⟨_, h1, q _ H r.aftRefl ⟨a, rfl, .inl h2, h3, h5⟩⟩
    · exact q.elim
theorem de_bor (i : Nat) {x : Str} {pos : Pos} (hN : X.N[i]? = some x := by rfl) (hv : Vis X.env.scope x := by first | exact Or.inl rfl | exact Or.inr (Or.inl rfl) | exact Or.inr (Or.inr rfl)) (hd : (x == ("__debug__" : Str)) = false := by decide)
    (hcd : (x == ("__classdict__" : Str)) = false := by decide) : DE X W (.Name x pos) (mBor i) 0 := ⟨_, pe_var hN hv hd hcd, lift_bor⟩
theorem de_var (i : Nat) {x : Str} {pos : Pos} (hN : X.N[i]? = some x := by rfl) (hv : Vis X.env.scope x := by first | exact Or.inl rfl | exact Or.inr (Or.inl rfl) | exact Or.inr (Or.inr rfl)) (hd : (x == ("__debug__" : Str)) = false := by decide)
    (hcd : (x == ("__classdict__" : Str)) = false := by decide) : DE X W (.Name x pos) (mVar i) 0 := ⟨_, pe_var hN hv hd hcd, lift_var⟩
theorem di_var (i : Nat) {x : Str} {pos : Pos} (hN : X.N[i]? = some x := by rfl) (hv : Vis X.env.scope x := by first | exact Or.inl rfl | exact Or.inr (Or.inl rfl) | exact Or.inr (Or.inr rfl)) (hd : (x == ("__debug__" : Str)) = false := by decide)
    (hcd : (x == ("__classdict__" : Str)) = false := by decide) : DI X W (.Name x pos) (mPeek i) 0 := ⟨_, pe_var hN hv hd hcd, lift_peek⟩
def mC (d : D) : ME := fun _ Q _ => Q (.fz d)
/-- a value that stands for the datum wherever it is -/
def Evr (K : Frag) (v : V) (d : D) : Prop := ∀ A H, Rz K A H d v
theorem lift_c {v : V} {d : D} (h : Evr X.K v d) : LiftE X W (tC v) (mC d) 0 :=
  ⟨fun _ _ _ _ _ hq _ q => hq _ q, fun _ _ _ _ _ _ H _ _ _ r _ q => q v H r.aftRefl (h _ _)⟩
theorem evr_int {K : Frag} {i : Int} : Evr K (.int i) (.int i) := fun _ _ => by simp only [Rz]
theorem evr_bl {K : Frag} {i : Bool} : Evr K (.bl i) (.bl i) := fun _ _ => by simp only [Rz]
theorem evr_non {K : Frag} : Evr K .non .non := fun _ _ => by simp only [Rz]
theorem evr_str {K : Frag} {x : Str} (h : x.length ≤ sizeLine) : Evr K (.str x) (.str x) := fun _ _ => by simp only [Rz]; exact ⟨trivial, h⟩
theorem de_int {i j pos} : DE X W (.Constant (.int i) j pos) (mC (.int i)) 0 := ⟨_, pe_int, lift_c evr_int⟩
theorem de_bl {i j pos} : DE X W (.Constant (.bool i) j pos) (mC (.bl i)) 0 := ⟨_, pe_bl, lift_c evr_bl⟩
theorem de_non {j pos} : DE X W (.Constant .none j pos) (mC .non) 0 := ⟨_, pe_non, lift_c evr_non⟩
theorem de_str {x : Str} {j pos} (h : x.length ≤ sizeLine := by decide +kernel) : DE X W (.Constant (.str x) j pos) (mC (.str x)) 0 := ⟨_, pe_str, lift_c (evr_str h)⟩
/-- a constant of the module -/
def GCon (K : Frag) (mg : Str → Option Value) (x : Str) (d : D) : Prop := ∃ v u, mg x = some u ∧ RelV v u ∧ Evr K v d
theorem de_glob {x : Str} {d : D} {pos : Pos} (g : GCon X.K X.mg x d) (hg : Gl X x := by rfl) (hd : (x == ("__debug__" : Str)) = false := by decide) : DE X W (.Name x pos) (mC d) 0 := by
  obtain ⟨v, u, h1, h2, h3⟩ := g
  exact ⟨_, pe_glob hg h1 h2 hd, lift_c h3⟩

/-! ### operators -/
/-- what an operator's rule does to data -/
structure OpD (X : Cx) (r : R2) (f : D → D → (IV → Prop) → Prop) : Prop where
  mono : ∀ x y Q Q', (∀ v, Q v → Q' v) → f x y Q → f x y Q'
  run : ∀ B Z T H0 ε σ H x y dx dy (Q : VK), RE X.K B Z T H0 ε σ H → RI X.K (AvE B Z ε σ) Z H dx x → RI X.K (AvE B Z ε σ) Z H dy y →
    f dx dy (fun iv => ∀ v H', Aft Z T H H' → RV X.K (AvE B Z ε σ) Z H H' v iv → Q v H') → r x y H Q
def mOp (f : D → D → (IV → Prop) → Prop) (a b : MI) : ME := fun ε Q Ex => a ε (fun x => b ε (fun y => f x y Q) Ex) Ex
theorem RV.back {K : Frag} {A : Av} {Z : Zt} {T : Nat} {H H1 H2 : Hp} {v : V} {iv : IV} (x : Aft Z T H H1) (h : RV K A Z H1 H2 v iv) : RV K A Z H H2 v iv := by
  cases iv with
  | fz d => exact h
  | fr d => obtain ⟨p, e, n, o⟩ := h; exact ⟨p, e, x.none_back n, o⟩
  | st => exact h
  | bo d => exact h
theorem lift_op {ta tb : TE} {a b : MI} {r : R2} {f} (o : OpD X r f) (la : LiftI X W ta a cla) (lb : LiftI X W tb b clb) : LiftE X W (tOp r ta tb) (mOp f a b) (cla + clb) := by
  refine ⟨fun ε Q Q' Ex Ex' hq hx q => la.mono ε _ _ _ _ (fun x q => lb.mono ε _ _ _ _ (fun y q => o.mono _ _ _ _ hq q) hx q) hx q, fun B Z T H0 ε σ H Q Ex hL r hx q => ?_⟩
  refine la.run B Z H0 ε σ H _ Ex r (hx.at (T + cla)) (la.mono ε _ _ _ _ (fun dx q x H1 a1 r1 => ?_) (fun _ x => x) q)
  refine lb.run B Z H0 ε σ H1 _ Ex (r.aft a1) (hx.aft a1) (lb.mono ε _ _ _ _ (fun dy q y H2 a2 r2 => ?_) (fun _ x => x) q)
  have a12 := a1.trans a2
  exact o.run B Z _ H0 ε σ H2 x y dx dy Q (r.aft a12) (r1.aft a2) r2 (o.mono _ _ _ _ (fun iv q v H3 a3 rv => q v H3 (a12.trans a3) (rv.back a12)) q)
theorem OpR.or {f : Value → Value → Sem Value} {r r' : R2} (h : OpR X f r) (h' : OpR X f r') : OpR X f (fun x y H Q => r x y H Q ∨ r' x y H Q) := by
  intro pins s σ H x y v u Q I rx ry q
  rcases q with q | q
  · exact h pins s σ H x y v u Q I rx ry q
  · exact h' pins s σ H x y v u Q I rx ry q
theorem de_op {op : Operator} {r : R2} {f} {a b : Expr} {ma mb : MI} {pos : Pos} (ho : OpR X (binaryOp op) r) (o : OpD X r f) (ha : DI X W a ma cha) (hb : DI X W b mb chb) : DE X W (.BinOp a op b pos) (mOp f ma mb) (cha + chb) := by
  obtain ⟨ta, pa, la⟩ := ha
  obtain ⟨tb, pb, lb⟩ := hb
  exact ⟨_, pe_op ho pa pb, lift_op o la lb⟩
theorem de_cmp {op : CmpOp} {r : R2} {f} {a b : Expr} {ma mb : MI} {pos : Pos} (ho : OpR X (compareOp op) r) (o : OpD X r f) (ha : DI X W a ma cha) (hb : DI X W b mb chb) (hm : behindInMarks op b = false) : DE X W (.Compare a [op] [b] pos) (mOp f ma mb) (cha + chb) := by
  obtain ⟨ta, pa, la⟩ := ha
  obtain ⟨tb, pb, lb⟩ := hb
  exact ⟨_, pe_cmpR ho pa pb hm, lift_op o la lb⟩
/-- a value as a test -/
def onB (Q : Bool → Prop) : IV → Prop
  | .fz (.bl b) => Q b
  | _ => False
@[simp] theorem onB_bl {Q : Bool → Prop} {b : Bool} : onB Q (.fz (.bl b)) = Q b := rfl
theorem onB_mono {Q Q' : Bool → Prop} (h : ∀ d, Q d → Q' d) : ∀ iv, onB Q iv → onB Q' iv := fun iv q => by
  unfold onB at q ⊢
  split at q
  · exact h _ q
  · exact q
def mTest (m : ME) : MT := fun ε Q Ex => m ε (onB Q) Ex
theorem lift_test {t : TE} {m : ME} (l : LiftE X W t m cl) : LiftT X W (tTest t) (mTest m) cl := by
  refine ⟨fun ε Q Q' Ex Ex' hq hx q => l.mono ε _ _ _ _ (onB_mono hq) hx q, fun B Z T H0 ε σ H Q Ex hL r hx q => ?_⟩
  refine l.run B Z H0 ε σ H _ Ex r hx (l.mono ε _ _ _ _ (fun iv q v H' a rv => ?_) (fun _ x => x) q)
  unfold onB at q
  split at q
  · rename_i b
    simp only [RV, Rz] at rv
    exact ⟨b, rv, q H' a⟩
  · exact q.elim
theorem dt_cmp {op : CmpOp} {r : R2} {f} {a b : Expr} {ma mb : MI} {pos : Pos} (ho : OpR X (compareOp op) r) (o : OpD X r f) (ha : DI X W a ma cha) (hb : DI X W b mb chb) (hm : behindInMarks op b = false) : DT X W (.Compare a [op] [b] pos) (mTest (mOp f ma mb)) (cha + chb) := by
  obtain ⟨ta, pa, la⟩ := ha
  obtain ⟨tb, pb, lb⟩ := hb
  exact ⟨_, pt_cmpR ho pa pb hm, lift_test (lift_op o la lb)⟩
/-- an expression that gives a truth, as a test (names, calls, subscripts) -/
theorem dt_val {e : Expr} {m : ME} (h : DE X W e m ch) (he : ∀ whole, isTrue e X.env whole = (do let v ← whole; standAt e.pos; holding [v] (truthy v)) := by intro _; rfl) : DT X W e (mTest m) ch := by
  obtain ⟨t, p, l⟩ := h
  exact ⟨_, pt_val p he, lift_test l⟩

/-! the operators' data -/
def opScalar (g : Int → Int → D) : D → D → (IV → Prop) → Prop
  | .int i, .int j, Q => Q (.fz (g i j))
  | _, _, _ => False
theorem rz_int {K : Frag} {A : Av} {H : Hp} {i : Int} : Rz K A H (.int i) (.int i) := by simp only [Rz]
theorem rz_bl {K : Frag} {A : Av} {H : Hp} {i : Bool} : Rz K A H (.bl i) (.bl i) := by simp only [Rz]
theorem rz_non {K : Frag} {A : Av} {H : Hp} : Rz K A H .non .non := by simp only [Rz]
theorem rz_str {K : Frag} {A : Av} {H : Hp} {x : Str} (h : x.length ≤ sizeLine) : Rz K A H (.str x) (.str x) := by simp only [Rz]; exact ⟨trivial, h⟩
theorem opD_or {r r' : R2} {f f' : D → D → (IV → Prop) → Prop} (o : OpD X r f) (o' : OpD X r' f') : OpD X (fun x y H Q => r x y H Q ∨ r' x y H Q) (fun x y Q => f x y Q ∨ f' x y Q) :=
  ⟨fun x y Q Q' h q => q.elim (fun z => .inl (o.mono x y Q Q' h z)) fun z => .inr (o'.mono x y Q Q' h z),
   fun B Z T H0 ε σ H x y dx dy Q r rx ry q => q.elim (fun z => .inl (o.run B Z _ H0 ε σ H x y dx dy Q r rx ry z)) fun z => .inr (o'.run B Z _ H0 ε σ H x y dx dy Q r rx ry z)⟩
/-- ints in, a scalar out, under a condition -/
def fII (C : Int → Int → Prop) (g : Int → Int → D) : D → D → (IV → Prop) → Prop
  | .int i, .int j, Q => C i j ∧ Q (.fz (g i j))
  | _, _, _ => False
theorem opD_II {C : Int → Int → Prop} {g : Int → Int → D} {gv : Int → Int → V} (h : ∀ i j A H, Rz X.K A H (g i j) (gv i j)) : OpD X (rI C gv) (fII C g) := by
  refine ⟨fun x y Q Q' h q => ?_, fun B Z T H0 ε σ H x y dx dy Q r rx ry q => ?_⟩
  · unfold fII at q ⊢
    split at q
    · exact ⟨q.1, h _ q.2⟩
    · exact q
  · unfold fII at q
    split at q
    · exact ⟨_, _, rx.int, ry.int, q.1, q.2 _ H r.aftRefl (RV.mk (h _ _ _ _))⟩
    · exact q.elim
def fI0 (g : Int → Int → D) : D → D → (IV → Prop) → Prop
  | .int i, .int j, Q => Q (.fz (g i j))
  | _, _, _ => False
theorem opD_I0 {g : Int → Int → D} {gv : Int → Int → V} (h : ∀ i j A H, Rz X.K A H (g i j) (gv i j)) : OpD X (rI0 gv) (fI0 g) := by
  refine ⟨fun x y Q Q' h q => ?_, fun B Z T H0 ε σ H x y dx dy Q r rx ry q => ?_⟩
  · unfold fI0 at q ⊢
    split at q
    · exact h _ q
    · exact q
  · unfold fI0 at q
    split at q
    · exact ⟨_, _, rx.int, ry.int, q _ H r.aftRefl (RV.mk (h _ _ _ _))⟩
    · exact q.elim
end
end G

namespace G
open PySem PySem.Spec PyProof.Rows L2
section
variable {X : Cx} {W : WX}
theorem opD_imp {r : R2} {f f' : D → D → (IV → Prop) → Prop} (o : OpD X r f) (m : ∀ x y Q Q', (∀ v, Q v → Q' v) → f' x y Q → f' x y Q') (h : ∀ x y Q, f' x y Q → f x y Q) : OpD X r f' :=
  ⟨m, fun B Z T H0 ε σ H x y dx dy Q r rx ry q => o.run B Z _ H0 ε σ H x y dx dy Q r rx ry (h _ _ _ q)⟩

/-! ### new objects -/
section
variable {K : Frag} {B : Av} {Z : Zt} {T : Nat} {H0 H H' : Hp} {ε : Env} {σ : St}
theorem kp_new {A : Av} {H : Hp} {p : Addr} {o : HO} (hp : H p = none) : Kp A A H (upd H p o) := .of fun a o' n e => ⟨n, e.new hp⟩
theorem kp_own {A : Av} {H : Hp} {p : Addr} {o : HO} (hp : H p = none) : Kp A (fun a => A a ∨ a = p) H (upd H p o) := .of fun a o' n e =>
  ⟨fun z => z.elim n (fun z => e.ne hp z), e.new hp⟩
theorem RE.newTup (r : RE K B Z T H0 ε σ H) {p : Addr} (hp : H p = none) {o : Obj} (po : PlainT o) {ds : List D} {vs : List V} (h : Rzs K (AvE B Z ε σ) H ds vs) (hl : ds.length ≤ sizeLine) :
    Rz K (AvE B Z ε σ) (upd H p (.frz o (.tup vs))) (.tup ds) (.ref p) := by
  simp only [Rz]
  exact ⟨p, vs, rfl, .inl ⟨r.nA (.of hp), o, po, upd_same⟩, hl, h.map (kp_new hp)⟩
theorem RE.newLst (r : RE K B Z T H0 ε σ H) {p : Addr} (hp : H p = none) {ds : List D} {vs : List V} (h : Rzs K (AvE B Z ε σ) H ds vs) (hl : ds.length ≤ sizeLine) :
    RV K (AvE B Z ε σ) Z H (upd H p (.lst vs)) (.ref p) (.fr (.lst ds)) := ⟨p, rfl, .of hp, vs, upd_same, hl, h.map (kp_own hp)⟩
theorem RI.ofRz {A : Av} {d : D} {v : V} (h : Rz K A H d v) : RI K A Z H d v := .inl h
end

/-! ### + -/
def fStr : D → D → (IV → Prop) → Prop
  | .str a, .str b, Q => a.length + b.length ≤ sizeLine ∧ Q (.fz (.str (a ++ b)))
  | _, _, _ => False
def fLst : D → D → (IV → Prop) → Prop
  | .lst a, .lst b, Q => a.length + b.length ≤ sizeLine ∧ Q (.fr (.lst (a ++ b)))
  | _, _, _ => False
def fTup : D → D → (IV → Prop) → Prop
  | .tup a, .tup b, Q => a.length + b.length ≤ sizeLine ∧ Q (.fz (.tup (a ++ b)))
  | _, _, _ => False
theorem opD_addStr : OpD X (fun x y H Q => ∃ i j, x = .str i ∧ y = .str j ∧ i.length + j.length ≤ sizeLine ∧ Q (.str (i ++ j)) H) fStr := by
  refine ⟨fun x y Q Q' h q => ?_, fun B Z T H0 ε σ H x y dx dy Q r rx ry q => ?_⟩
  · unfold fStr at q ⊢
    split at q
    · exact ⟨q.1, h _ q.2⟩
    · exact q
  · unfold fStr at q
    split at q
    · rename_i a b
      exact ⟨a, b, rx.str.1, ry.str.1, q.1, q.2 _ H r.aftRefl (RV.mk (rz_str (by rw [Str.length_append]; exact q.1)))⟩
    · exact q.elim
theorem opD_cat : OpD X rCat fLst := by
  refine ⟨fun x y Q Q' h q => ?_, fun B Z T H0 ε σ H x y dx dy Q r rx ry q => ?_⟩
  · unfold fLst at q ⊢
    split at q
    · exact ⟨q.1, h _ q.2⟩
    · exact q
  · unfold fLst at q
    split at q
    · rename_i a b
      obtain ⟨p1, vs1, rfl, h1, l1, r1⟩ := rx.lst
      obtain ⟨p2, vs2, rfl, h2, l2, r2⟩ := ry.lst
      refine ⟨p1, p2, vs1, vs2, rfl, rfl, h1, h2, by rw [r1.length, r2.length]; exact q.1, fun p hp => q.2 _ _ (Aft.new r.z hp) ?_⟩
      exact r.newLst hp (r1.append r2) (by rw [List.length_append]; exact q.1)
    · exact q.elim
theorem rzs_nil {K : Frag} {A : Av} {H : Hp} {ds : List D} (h : Rzs K A H ds []) : ds = [] := by
  cases ds with
  | nil => rfl
  | cons d ds => simp only [Rzs] at h; obtain ⟨_, _, e, _⟩ := h; cases e
theorem RI.tupRz {K : Frag} {A : Av} {Z : Zt} {H : Hp} {ds : List D} {v : V} (h : RI K A Z H (.tup ds) v) : Rz K A H (.tup ds) v := by
  rcases h with h | ⟨_, _, _, h⟩
  · exact h
  · exact h.elim
theorem opD_catT : OpD X (rCatF X.K) fTup := by
  refine ⟨fun x y Q Q' h q => ?_, fun B Z T H0 ε σ H x y dx dy Q r rx ry q => ?_⟩
  · unfold fTup at q ⊢
    split at q
    · exact ⟨q.1, h _ q.2⟩
    · exact q
  · unfold fTup at q
    split at q
    · rename_i a b
      obtain ⟨p1, vs1, rfl, h1, l1, r1⟩ := rx.tup
      obtain ⟨p2, vs2, rfl, h2, l2, r2⟩ := ry.tup
      refine ⟨p1, p2, vs1, vs2, rfl, rfl, h1.sq, h2.sq, by rw [r1.length, r2.length]; exact q.1, fun e => ?_, fun _ e => ?_, fun _ _ p o hp po => q.2 _ _ (Aft.new r.z hp) (RV.mk (r.newTup hp po (r1.append r2) (by rw [List.length_append]; exact q.1)))⟩
      · subst e
        have ea := rzs_nil r1
        subst ea
        exact q.2 _ H r.aftRefl (RV.mk (by rw [List.nil_append]; exact ry.tupRz))
      · subst e
        have ea := rzs_nil r2
        subst ea
        exact q.2 _ H r.aftRefl (RV.mk (by rw [List.append_nil]; exact rx.tupRz))
    · exact q.elim
def fAdd : D → D → (IV → Prop) → Prop
  | .int i, .int j, Q => Q (.fz (.int (i + j)))
  | .str a, .str b, Q => a.length + b.length ≤ sizeLine ∧ Q (.fz (.str (a ++ b)))
  | .lst a, .lst b, Q => a.length + b.length ≤ sizeLine ∧ Q (.fr (.lst (a ++ b)))
  | .tup a, .tup b, Q => a.length + b.length ≤ sizeLine ∧ Q (.fz (.tup (a ++ b)))
  | _, _, _ => False
theorem opr_add : OpR X (binaryOp .Add) (fun x y H Q => rI0 (fun i j => .int (i + j)) x y H Q ∨ (∃ i j, x = .str i ∧ y = .str j ∧ i.length + j.length ≤ sizeLine ∧ Q (.str (i ++ j)) H) ∨ rCat x y H Q ∨ rCatF X.K x y H Q) :=
  OpR.or op_add (OpR.or op_add_str (OpR.or op_cat op_catF))
theorem opD_add : OpD X (fun x y H Q => rI0 (fun i j => .int (i + j)) x y H Q ∨ (∃ i j, x = .str i ∧ y = .str j ∧ i.length + j.length ≤ sizeLine ∧ Q (.str (i ++ j)) H) ∨ rCat x y H Q ∨ rCatF X.K x y H Q) fAdd := by
  refine opD_imp (opD_or (opD_I0 (g := fun i j => .int (i + j)) fun _ _ _ _ => rz_int) (opD_or opD_addStr (opD_or opD_cat opD_catT))) ?_ ?_
  · intro x y Q Q' h q
    unfold fAdd at q ⊢
    split at q
    · exact h _ q
    · exact ⟨q.1, h _ q.2⟩
    · exact ⟨q.1, h _ q.2⟩
    · exact ⟨q.1, h _ q.2⟩
    · exact q
  · intro x y Q q
    unfold fAdd at q
    split at q
    · exact .inl q
    · exact .inr (.inl q)
    · exact .inr (.inr (.inl q))
    · exact .inr (.inr (.inr q))
    · exact q.elim
theorem de_add {a b : Expr} {ma mb : MI} {pos : Pos} (ha : DI X W a ma cha) (hb : DI X W b mb chb) : DE X W (.BinOp a .Add b pos) (mOp fAdd ma mb) (cha + chb) := de_op opr_add opD_add ha hb
/-! ### -, //, %, ** -/
def fSub := fI0 fun i j => .int (i - j)
theorem de_sub {a b : Expr} {ma mb : MI} {pos : Pos} (ha : DI X W a ma cha) (hb : DI X W b mb chb) : DE X W (.BinOp a .Sub b pos) (mOp fSub ma mb) (cha + chb) := de_op op_sub (opD_I0 fun _ _ _ _ => rz_int) ha hb
/-- the divisor of less than 9000 bits -/
def CDivD (_ j : Int) : Prop := j ≠ 0 ∧ j.natAbs.log2 < 9000
theorem op_fdivD : OpR X (binaryOp .FloorDiv) (rI CDivD fun i j => .int (i.fdiv j)) := opI fun i j _ _ _ _ _ hc q => floordiv_int hc.1 q (.inl (PyProof.noPylong_of_log2 hc.2))
def fDiv := fII CDivD fun i j => .int (i.fdiv j)
theorem de_div {a b : Expr} {ma mb : MI} {pos : Pos} (ha : DI X W a ma cha) (hb : DI X W b mb chb) : DE X W (.BinOp a .FloorDiv b pos) (mOp fDiv ma mb) (cha + chb) := de_op op_fdivD (opD_II fun _ _ _ _ => rz_int) ha hb
def fMod := fII (fun _ j => j ≠ 0) fun i j => .int (i.fmod j)
theorem de_mod {a b : Expr} {ma mb : MI} {pos : Pos} (ha : DI X W a ma cha) (hb : DI X W b mb chb) : DE X W (.BinOp a .Mod b pos) (mOp fMod ma mb) (cha + chb) := de_op op_modN (opD_II fun _ _ _ _ => rz_int) ha hb
def fPow := fII CPow fun i j => .int (i ^ j.toNat)
theorem de_pow {a b : Expr} {ma mb : MI} {pos : Pos} (ha : DI X W a ma cha) (hb : DI X W b mb chb) : DE X W (.BinOp a .Pow b pos) (mOp fPow ma mb) (cha + chb) := de_op op_pow (opD_II fun _ _ _ _ => rz_int) ha hb
/-- one factor small, or both of less than a million bits -/
def CMulD (i j : Int) : Prop := CMul i j ∨ CMulW i j
def fMul := fII CMulD fun i j => .int (i * j)
theorem de_mul {a b : Expr} {ma mb : MI} {pos : Pos} (ha : DI X W a ma cha) (hb : DI X W b mb chb) : DE X W (.BinOp a .Mult b pos) (mOp fMul ma mb) (cha + chb) :=
  de_op (OpR.or op_mul op_mulW) (opD_imp (opD_or (opD_II (g := fun i j => .int (i * j)) fun _ _ _ _ => rz_int) (opD_II (g := fun i j => .int (i * j)) fun _ _ _ _ => rz_int)) (opD_II (X := X) (C := CMulD) (g := fun i j => .int (i * j)) (gv := fun i j => .int (i * j)) fun _ _ _ _ => rz_int).mono (fun x y Q q => by
    unfold fMul fII at q
    unfold fII
    split at q
    · exact q.1.elim (fun c => .inl ⟨c, q.2⟩) fun c => .inr ⟨c, q.2⟩
    · exact q.elim)) ha hb

/-! ### one-place -/
def mUn (f : D → (IV → Prop) → Prop) (a : MI) : ME := fun ε Q Ex => a ε (fun x => f x Q) Ex
structure UnD (X : Cx) (r : V → Hp → VK → Prop) (f : D → (IV → Prop) → Prop) : Prop where
  mono : ∀ x Q Q', (∀ v, Q v → Q' v) → f x Q → f x Q'
  run : ∀ B Z T H0 ε σ H x dx (Q : VK), RE X.K B Z T H0 ε σ H → RI X.K (AvE B Z ε σ) Z H dx x →
    f dx (fun iv => ∀ v H', Aft Z T H H' → RV X.K (AvE B Z ε σ) Z H H' v iv → Q v H') → r x H Q
theorem lift_un {ta : TE} {a : MI} {r} {f} (o : UnD X r f) (la : LiftI X W ta a cla) : LiftE X W (tUn r ta) (mUn f a) cla := by
  refine ⟨fun ε Q Q' Ex Ex' hq hx q => la.mono ε _ _ _ _ (fun x q => o.mono _ _ _ hq q) hx q, fun B Z T H0 ε σ H Q Ex hL r hx q => ?_⟩
  refine la.run B Z H0 ε σ H _ Ex r (hx.at (T + cla)) (la.mono ε _ _ _ _ (fun dx q x H1 a1 r1 => ?_) (fun _ x => x) q)
  exact o.run B Z _ H0 ε σ H1 x dx Q (r.aft a1) r1 (o.mono _ _ _ (fun iv q v H3 a3 rv => q v H3 (a1.trans a3) (rv.back a1)) q)
def fNeg : D → (IV → Prop) → Prop
  | .int i, Q => Q (.fz (.int (-i)))
  | _, _ => False
theorem unD_neg : UnD X (rU fun i => .int (-i)) fNeg := by
  refine ⟨fun x Q Q' h q => ?_, fun B Z T H0 ε σ H x dx Q r rx q => ?_⟩
  · unfold fNeg at q ⊢
    split at q
    · exact h _ q
    · exact q
  · unfold fNeg at q
    split at q
    · exact ⟨_, rx.int, q _ H r.aftRefl (RV.mk rz_int)⟩
    · exact q.elim
theorem de_neg {a : Expr} {ma : MI} {pos : Pos} (ha : DI X W a ma cha) : DE X W (.UnaryOp .USub a pos) (mUn fNeg ma) cha := by
  obtain ⟨ta, pa, la⟩ := ha
  exact ⟨_, pe_un un_neg pa, lift_un unD_neg la⟩

/-! ### arguments, displays -/
def mNil : MA := fun _ Q _ => Q []
def IV.fz' : IV → IV
  | .fr d => .fz d
  | x => x
@[simp] theorem fz'_fz {d : D} : IV.fz' (.fz d) = .fz d := rfl
@[simp] theorem fz'_fr {d : D} : IV.fz' (.fr d) = .fz d := rfl
@[simp] theorem fz'_st : IV.fz' .st = .st := rfl
@[simp] theorem fz'_bo {d : D} : IV.fz' (.bo d) = .bo d := rfl
def mCons (a : ME) (b : MA) : MA := fun ε Q Ex => a ε (fun x => b ε (fun xs => Q (x.fz' :: xs)) Ex) Ex
theorem lift_nil : LiftA X W tNil mNil 0 := ⟨fun _ _ _ _ _ hq _ q => hq _ q, fun _ _ _ _ _ _ H _ _ _ r _ q => q [] H r.aftRefl rfl⟩
theorem RV.fz' {K : Frag} {B : Av} {Z : Zt} {T : Nat} {H0 H H1 H' : Hp} {ε : Env} {σ : St} (r : RE K B Z T H0 ε σ H) {v : V} {iv : IV} (h : RV K (AvE B Z ε σ) Z H H' v iv) : RV K (AvE B Z ε σ) Z H1 H' v iv.fz' := by
  cases iv with
  | fz d => exact h
  | fr d => exact RV.rz r h
  | st => exact h
  | bo d => exact h
theorem fz'_not (iv : IV) : ∀ d, iv.fz' ≠ .fr d := by intro d; cases iv <;> simp [IV.fz']
theorem RV.aft {K : Frag} {B : Av} {Z : Zt} {T : Nat} {H1 H2 H H' : Hp} {ε : Env} {σ : St} {v : V} {iv : IV} (h : RV K (AvE B Z ε σ) Z H1 H v iv) (n : ∀ d, iv ≠ .fr d) (x : Aft Z T H H') : RV K (AvE B Z ε σ) Z H2 H' v iv := by
  cases iv with
  | fz d => exact Rz.aft h x
  | fr d => exact absurd rfl (n d)
  | st => exact h
  | bo d =>
    obtain ⟨p, e, h1, h2, h3⟩ := h
    exact ⟨p, e, h1, h2, h3.map (.of fun a o n y => ⟨n, x.ex _ _ (fun z => n (.inr (.inl z))) y⟩) fun o y => x.ex p o h2 y⟩
theorem lift_cons {ta : TE} {a : ME} {tr : TA} {b : MA} (la : LiftE X W ta a cla) (lb : LiftA X W tr b clb) : LiftA X W (tCons ta tr) (mCons a b) (cla + clb) := by
  refine ⟨fun ε Q Q' Ex Ex' hq hx q => la.mono ε _ _ _ _ (fun x q => lb.mono ε _ _ _ _ (fun y q => hq _ q) hx q) hx q, fun B Z T H0 ε σ H Q Ex hL r hx q => ?_⟩
  refine la.run B Z H0 ε σ H _ Ex r (hx.at (T + cla)) (la.mono ε _ _ _ _ (fun iv q x H1 a1 r1 => ?_) (fun _ x => x) q)
  refine lb.run B Z H0 ε σ H1 _ Ex (r.aft a1) (hx.aft a1) (lb.mono ε _ _ _ _ (fun is q vs H2 a2 r2 => ?_) (fun _ x => x) q)
  have h1 : RV X.K (AvE B Z ε σ) Z H1 H1 x iv.fz' := RV.fz' r r1
  exact q (x :: vs) H2 (a1.trans a2) ⟨x, vs, rfl, h1.aft (fz'_not iv) a2, fz'_not iv, r2⟩
theorem da_nil : DA X W [] mNil 0 := ⟨_, pa_nil, lift_nil⟩
theorem da_cons {e : Expr} {es : List Expr} {a : ME} {b : MA} (ha : DE X W e a cha) (hb : DA X W es b chb) (hs : starEach (e :: es) X.env = (false, eval e X.env) :: starEach es X.env := by rfl) : DA X W (e :: es) (mCons a b) (cha + chb) := by
  obtain ⟨ta, pa, la⟩ := ha
  obtain ⟨tb, pb, lb⟩ := hb
  exact ⟨_, pa_cons pa pb hs, lift_cons la lb⟩
/-- the data of values none of which is the state -/
def allD : List IV → List D → Prop
  | [], ds => ds = []
  | .fz d :: is, ds => ∃ r, ds = d :: r ∧ allD is r
  | _ :: _, _ => False
def ivD : List IV → Option (List D)
  | [] => some []
  | .fz d :: is => (ivD is).map (d :: ·)
  | _ :: _ => none
@[simp] theorem ivD_nil : ivD [] = some [] := rfl
@[simp] theorem ivD_cons {d : D} {is : List IV} : ivD (.fz d :: is) = (ivD is).map (d :: ·) := rfl
theorem RVs.rzs {K : Frag} {A : Av} {Z : Zt} {H : Hp} : ∀ {is : List IV} {vs : List V} {ds : List D}, RVs K A Z H is vs → ivD is = some ds → Rzs K A H ds vs
  | [], vs, ds, h, e => by
    simp only [RVs] at h
    subst h
    cases e
    exact .nil
  | .fz d :: is, vs, ds, h, e => by
    simp only [RVs] at h
    obtain ⟨v, r, rfl, h1, _, h2⟩ := h
    rw [ivD_cons] at e
    cases q : ivD is with
    | none => rw [q] at e; cases e
    | some es =>
      rw [q] at e
      cases e
      exact .cons h1 (RVs.rzs h2 q)
  | .fr d :: is, vs, ds, h, e => by cases e
  | .st :: is, vs, ds, h, e => by cases e
  | .bo d :: is, vs, ds, h, e => by cases e
def onDs (is : List IV) (P : List D → Prop) : Prop := match ivD is with
  | some ds => P ds
  | none => False
@[simp] theorem onDs_nil {P : List D → Prop} : onDs [] P = P [] := rfl
@[simp] theorem onDs_cons {d : D} {is : List IV} {P : List D → Prop} : onDs (.fz d :: is) P = onDs is fun ds => P (d :: ds) := by
  unfold onDs
  rw [ivD_cons]
  cases ivD is <;> rfl
theorem onDs_mono {is : List IV} {P P' : List D → Prop} (h : ∀ ds, P ds → P' ds) (q : onDs is P) : onDs is P' := by
  unfold onDs at q ⊢
  split at q
  · rename_i ds e
    exact h _ q
  · exact q
def mTup (a : MA) : ME := fun ε Q Ex => a ε (fun is => onDs is fun ds => ds.length ≤ sizeLine ∧ Q (.fz (.tup ds))) Ex
def mLst (a : MA) : ME := fun ε Q Ex => a ε (fun is => onDs is fun ds => ds.length ≤ sizeLine ∧ Q (.fr (.lst ds))) Ex
theorem lift_tup {t : TA} {a : MA} (l : LiftA X W t a cl) : LiftE X W (tTupF t) (mTup a) cl := by
  refine ⟨fun ε Q Q' Ex Ex' hq hx q => l.mono ε _ _ _ _ (fun x q => onDs_mono (fun ds q => ⟨q.1, hq _ q.2⟩) q) hx q, fun B Z T H0 ε σ H Q Ex hL r hx q => ?_⟩
  refine l.run B Z H0 ε σ H _ Ex r (hx.at (T + cl)) (l.mono ε _ _ _ _ (fun is q vs H1 a1 r1 => ?_) (fun _ x => x) q)
  unfold onDs at q
  split at q
  · rename_i ds e
    have h := r1.rzs e
    exact ⟨by rw [h.length]; exact q.1, fun p o hp po => q.2 _ _ (a1.trans (Aft.new a1.z hp)) (RV.mk ((r.aft a1).newTup hp po h q.1))⟩
  · exact q.elim
theorem lift_lst {t : TA} {a : MA} (l : LiftA X W t a cl) : LiftE X W (tLst t) (mLst a) cl := by
  refine ⟨fun ε Q Q' Ex Ex' hq hx q => l.mono ε _ _ _ _ (fun x q => onDs_mono (fun ds q => ⟨q.1, hq _ q.2⟩) q) hx q, fun B Z T H0 ε σ H Q Ex hL r hx q => ?_⟩
  refine l.run B Z H0 ε σ H _ Ex r (hx.at (T + cl)) (l.mono ε _ _ _ _ (fun is q vs H1 a1 r1 => ?_) (fun _ x => x) q)
  unfold onDs at q
  split at q
  · rename_i ds e
    have h := r1.rzs e
    exact ⟨by rw [h.length]; exact q.1, fun p hp => q.2 _ _ (a1.trans (Aft.new a1.z hp)) (RV.back a1 ((r.aft a1).newLst hp h q.1))⟩
  · exact q.elim
theorem de_tup {es : List Expr} {a : MA} {x1 : Nat} {pos : Pos} (h : DA X W es a ch) : DE X W (.Tuple es x1 pos) (mTup a) ch := by
  obtain ⟨t, p, l⟩ := h
  exact ⟨_, pe_tupF p, lift_tup l⟩
theorem de_lst {es : List Expr} {a : MA} {pos : Pos} (h : DA X W es a ch) : DE X W (.List es pos) (mLst a) ch := by
  obtain ⟨t, p, l⟩ := h
  exact ⟨_, pe_lst p, lift_lst l⟩
end
end G

namespace G
open PySem PySem.Spec PyProof.Rows L2
/-! ### == of data -/
mutual
def D.toP : D → PyData
  | .non => .none
  | .bl b => .bool b
  | .int i => .int i
  | .str x => .str x
  | .tup ds => .tuple (D.toPs ds)
  | .lst ds => .list (D.toPs ds)
  | .dic _ _ => .dict []
  | .exc _ => .dict []
def D.toPs : List D → List PyData
  | [] => []
  | d :: ds => d.toP :: D.toPs ds
end
mutual
def pyEq : D → D → Bool
  | .non, .non => true
  | .bl a, .bl b => decide (a = b)
  | .bl a, .int j => decide ((if a then 1 else 0) = j)
  | .int i, .bl b => decide (i = (if b then 1 else 0))
  | .int i, .int j => decide (i = j)
  | .str x, .str y => decide (x = y)
  | .lst xs, .lst ys => pyEqs xs ys
  | .tup xs, .tup ys => pyEqs xs ys
  | _, _ => false
def pyEqs : List D → List D → Bool
  | [], [] => true
  | x :: xs, y :: ys => pyEq x y && pyEqs xs ys
  | _, _ => false
end
theorem beq_dec {α : Type} [BEq α] [LawfulBEq α] [DecidableEq α] (a b : α) : (a == b) = decide (a = b) := by
  by_cases h : a = b
  · subst h; simp
  · simp [h]
mutual
theorem eqv_toP : ∀ (x y : D), PyData.eqv x.toP y.toP = pyEq x y
  | .non, y => by cases y <;> simp [D.toP, PyData.eqv, pyEq]
  | .bl a, y => by cases y <;> simp [D.toP, PyData.eqv, pyEq, beq_dec]
  | .int a, y => by cases y <;> simp [D.toP, PyData.eqv, pyEq, beq_dec]
  | .str a, y => by cases y <;> simp [D.toP, PyData.eqv, pyEq, beq_dec]
  | .tup a, y => by
    cases y with
    | tup b => simp only [D.toP, PyData.eqv, pyEq]; exact eqv_toPs a b
    | _ => simp [D.toP, PyData.eqv, pyEq]
  | .lst a, y => by
    cases y with
    | lst b => simp only [D.toP, PyData.eqv, pyEq]; exact eqv_toPs a b
    | _ => simp [D.toP, PyData.eqv, pyEq]
  | .dic a b, y => by cases y <;> simp [D.toP, PyData.eqv, pyEq]
  | .exc c, y => by cases y <;> simp [D.toP, PyData.eqv, pyEq]
theorem eqv_toPs : ∀ (x y : List D), PyData.eqvAll (D.toPs x) (D.toPs y) = pyEqs x y
  | [], [] => by simp [D.toPs, PyData.eqvAll, pyEqs]
  | [], y :: ys => by simp [D.toPs, PyData.eqvAll, pyEqs]
  | x :: xs, [] => by simp [D.toPs, PyData.eqvAll, pyEqs]
  | x :: xs, y :: ys => by simp only [D.toPs, PyData.eqvAll, pyEqs, eqv_toP x y, eqv_toPs xs ys]
end
mutual
def D.noDic : D → Bool
  | .dic _ _ => false
  | .exc _ => false
  | .tup ds => D.noDics ds
  | .lst ds => D.noDics ds
  | _ => true
def D.noDics : List D → Bool
  | [] => true
  | d :: ds => d.noDic && D.noDics ds
end
section
variable {K : Frag} {A : Av} {H : Hp}
mutual
theorem Rz.dp : ∀ {d : D} {v : V}, Rz K A H d v → d.noDic = true → Dp K H v d.toP
  | .non, v, h, _ => by simp only [Rz] at h; subst h; exact .non
  | .bl b, v, h, _ => by simp only [Rz] at h; subst h; exact .bl b
  | .int b, v, h, _ => by simp only [Rz] at h; subst h; exact .int b
  | .str b, v, h, _ => by simp only [Rz] at h; obtain ⟨rfl, _⟩ := h; exact .str b
  | .tup ds, v, h, n => by
    simp only [Rz] at h
    obtain ⟨a, vs, rfl, h1, _, h2⟩ := h
    simp only [D.noDic] at n
    simp only [D.toP]
    exact .tup h1.sq (Rzs.dp h2 n)
  | .lst ds, v, h, n => by
    simp only [Rz] at h
    obtain ⟨a, vs, rfl, h1, _, h2⟩ := h
    simp only [D.noDic] at n
    simp only [D.toP]
    exact .lst h1.sq (Rzs.dp h2 n)
  | .dic ks ds, v, h, n => by simp [D.noDic] at n
  | .exc c, v, h, n => by simp [D.noDic] at n
theorem Rzs.dp : ∀ {ds : List D} {vs : List V}, Rzs K A H ds vs → D.noDics ds = true → DpAll K H vs (D.toPs ds)
  | [], vs, h, _ => by simp only [Rzs] at h; subst h; simp only [D.toPs]; exact .nil
  | d :: ds, vs, h, n => by
    simp only [Rzs] at h
    obtain ⟨v, r, rfl, h1, h2⟩ := h
    simp only [D.noDics, Bool.and_eq_true] at n
    simp only [D.toPs]
    exact .cons (Rz.dp h1 n.1) (Rzs.dp h2 n.2)
end
theorem RI.dp {Z : Zt} {d : D} {v : V} (h : RI K A Z H d v) (n : d.noDic = true) : Dp K H v d.toP := by
  rcases h with h | ⟨a, rfl, _, h⟩
  · exact h.dp n
  · cases d with
    | lst ds =>
      obtain ⟨vs, h1, _, h2⟩ := h
      simp only [D.noDic] at n
      simp only [D.toP]
      exact .lst (.of h1) (Rzs.dp h2 n)
    | dic ks ds => simp [D.noDic] at n
    | _ => exact h.elim
end
/-- the scalars that == serves without more -/
def scalD : D → D → Bool
  | .non, .non => true | .non, .int _ => true | .int _, .non => true | .non, .bl _ => true | .bl _, .non => true | .non, .str _ => true | .str _, .non => true
  | .int _, .int _ => true | .bl _, .bl _ => true | .str _, .str _ => true
  | .int _, .str _ => true | .str _, .int _ => true | .bl _, .str _ => true | .str _, .bl _ => true
  | _, _ => false
/-- data that == serves -/
def D.eqOk (d : D) : Prop := d.noDic = true ∧ SeqAt.shaped d.toP = true
def fEq (neg : Bool) : D → D → (IV → Prop) → Prop := fun x y Q => (scalD x y = true ∨ (x.eqOk ∧ y.eqOk)) ∧ Q (.fz (.bl (if neg then !pyEq x y else pyEq x y)))
section
variable {X : Cx} {W : WX}
theorem scal_eq {K : Frag} {A : Av} {Z : Zt} {H : Hp} {x y : V} {dx dy : D} (hx : RI K A Z H dx x) (hy : RI K A Z H dy y) (h : scalD dx dy = true) : scal x y = true ∧ decide (x = y) = pyEq dx dy := by
  cases dx <;> cases dy <;> first
    | (simp [scalD] at h; done)
    | (first
        | (have e1 := hx.non)
        | (have e1 := hx.bl)
        | (have e1 := hx.int)
        | (have e1 := hx.str.1)
       first
        | (have e2 := hy.non)
        | (have e2 := hy.bl)
        | (have e2 := hy.int)
        | (have e2 := hy.str.1)
       subst e1; subst e2
       simp [scal, pyEq])
theorem fEq_mono {neg : Bool} : ∀ x y Q Q', (∀ v, Q v → Q' v) → fEq neg x y Q → fEq neg x y Q' := fun x y Q Q' h q => ⟨q.1, h _ q.2⟩
theorem opD_eq : OpD X (fun x y H Q => rEq x y H Q ∨ rEqD X.K x y H Q) (fEq false) := by
  refine ⟨fEq_mono, fun B Z T H0 ε σ H x y dx dy Q r rx ry q => ?_⟩
  obtain ⟨c, q⟩ := q
  have q := fun v h => q v H r.aftRefl h
  rcases c with c | ⟨⟨n1, c1⟩, ⟨n2, c2⟩⟩
  · obtain ⟨s1, s2⟩ := scal_eq rx ry c
    exact .inl ⟨s1, by rw [s2]; exact q _ (RV.mk rz_bl)⟩
  · exact .inr ⟨_, _, rx.dp n1, ry.dp n2, c1, c2, by rw [eqv_toP]; exact q _ (RV.mk rz_bl)⟩
theorem opD_ne : OpD X (fun x y H Q => rNe x y H Q ∨ rNeD X.K x y H Q) (fEq true) := by
  refine ⟨fEq_mono, fun B Z T H0 ε σ H x y dx dy Q r rx ry q => ?_⟩
  obtain ⟨c, q⟩ := q
  have q := fun v h => q v H r.aftRefl h
  rcases c with c | ⟨⟨n1, c1⟩, ⟨n2, c2⟩⟩
  · obtain ⟨s1, s2⟩ := scal_eq rx ry c
    exact .inl ⟨s1, by rw [s2]; exact q _ (RV.mk rz_bl)⟩
  · exact .inr ⟨_, _, rx.dp n1, ry.dp n2, c1, c2, by rw [eqv_toP]; exact q _ (RV.mk rz_bl)⟩
theorem opr_eq (hu : X.A.units + 65 < cLine) : OpR X (compareOp .Eq) (fun x y H Q => rEq x y H Q ∨ rEqD X.K x y H Q) := OpR.or op_eq (op_eqD (by omega))
theorem opr_ne (hu : X.A.units + 65 < cLine) : OpR X (compareOp .NotEq) (fun x y H Q => rNe x y H Q ∨ rNeD X.K x y H Q) := OpR.or op_ne (op_neD (by omega))

/-! ### < <= > >= -/
def strLt (a b : Str) : Bool := decide (a.cps.toList < b.cps.toList)
def fCmp (p : Int → Int → Bool) (q : Str → Str → Bool) : D → D → (IV → Prop) → Prop
  | .int i, .int j, Q => Q (.fz (.bl (p i j)))
  | .str i, .str j, Q => Q (.fz (.bl (q i j)))
  | _, _, _ => False
theorem opD_cmp {p : Int → Int → Bool} {q : Str → Str → Bool} : OpD X (fun x y H Q => rI0 (fun i j => .bl (p i j)) x y H Q ∨ ∃ i j, x = .str i ∧ y = .str j ∧ Q (.bl (q i j)) H) (fCmp p q) := by
  refine ⟨fun x y Q Q' h z => ?_, fun B Z T H0 ε σ H x y dx dy Q r rx ry z => ?_⟩
  · unfold fCmp at z ⊢
    split at z
    · exact h _ z
    · exact h _ z
    · exact z
  · unfold fCmp at z
    split at z
    · exact .inl ⟨_, _, rx.int, ry.int, z _ H r.aftRefl (RV.mk rz_bl)⟩
    · exact .inr ⟨_, _, rx.str.1, ry.str.1, z _ H r.aftRefl (RV.mk rz_bl)⟩
    · exact z.elim
def fLt := fCmp (fun i j => decide (i < j)) strLt
def fLe := fCmp (fun i j => decide (i ≤ j)) fun a b => !strLt b a
def fGt := fCmp (fun i j => decide (j < i)) fun a b => strLt b a
def fGe := fCmp (fun i j => decide (j ≤ i)) fun a b => !strLt a b
theorem opr_lt : OpR X (compareOp .Lt) (fun x y H Q => rI0 (fun i j => .bl (decide (i < j))) x y H Q ∨ ∃ i j, x = .str i ∧ y = .str j ∧ Q (.bl (strLt i j)) H) := OpR.or op_lt op_lt_str
theorem opr_le : OpR X (compareOp .LtE) (fun x y H Q => rI0 (fun i j => .bl (decide (i ≤ j))) x y H Q ∨ ∃ i j, x = .str i ∧ y = .str j ∧ Q (.bl (!strLt j i)) H) := OpR.or op_le op_le_str
theorem opr_gt : OpR X (compareOp .Gt) (fun x y H Q => rI0 (fun i j => .bl (decide (j < i))) x y H Q ∨ ∃ i j, x = .str i ∧ y = .str j ∧ Q (.bl (strLt j i)) H) := OpR.or op_gt op_gt_str
theorem opr_ge : OpR X (compareOp .GtE) (fun x y H Q => rI0 (fun i j => .bl (decide (j ≤ i))) x y H Q ∨ ∃ i j, x = .str i ∧ y = .str j ∧ Q (.bl (!strLt i j)) H) := OpR.or op_ge op_ge_str

/-! ### is -/
def D.isNon : D → Bool
  | .non => true
  | _ => false
def fIs (neg : Bool) : D → D → (IV → Prop) → Prop
  | x, .non, Q => Q (.fz (.bl (if neg then !x.isNon else x.isNon)))
  | .bl a, .bl b, Q => Q (.fz (.bl (if neg then !decide (a = b) else decide (a = b))))
  | .int _, .bl _, Q => Q (.fz (.bl neg))
  | _, _, _ => False
def rIsIB (neg : Bool) : R2 := fun x y H Q => ∃ i b, x = .int i ∧ y = .bl b ∧ Q (.bl neg) H
theorem op_isIB : OpR X (compareOp .Is) (rIsIB false) := by
  intro pins s σ H x y v u Q I rx ry h
  obtain ⟨a, b, rfl, rfl, q⟩ := h
  obtain ⟨t, rfl⟩ := rx
  cases (show u = Value.bool b from ry)
  exact wpAny_is_other rfl (fun z => nomatch z) ⟨.bl false, H, I, rfl, q⟩
theorem op_isnotIB : OpR X (compareOp .IsNot) (rIsIB true) := by
  intro pins s σ H x y v u Q I rx ry h
  obtain ⟨a, b, rfl, rfl, q⟩ := h
  obtain ⟨t, rfl⟩ := rx
  cases (show u = Value.bool b from ry)
  exact wpAny_isNot_other rfl (fun z => nomatch z) ⟨.bl true, H, I, rfl, q⟩
theorem opr_is : OpR X (compareOp .Is) (fun x y H Q => (y = .non ∧ Q (.bl (decide (x = .non))) H) ∨ (∃ a b, x = .bl a ∧ y = .bl b ∧ Q (.bl (decide (a = b))) H) ∨ rIsIB false x y H Q) := OpR.or op_isN (OpR.or op_is_bl op_isIB)
theorem opr_isnot : OpR X (compareOp .IsNot) (fun x y H Q => (y = .non ∧ Q (.bl (!decide (x = .non))) H) ∨ (∃ a b, x = .bl a ∧ y = .bl b ∧ Q (.bl (!decide (a = b))) H) ∨ rIsIB true x y H Q) := OpR.or op_notN (OpR.or op_isnot_bl op_isnotIB)
theorem RI.isNon {K : Frag} {A : Av} {Z : Zt} {H : Hp} {v : V} {d : D} (h : RI K A Z H d v) : decide (v = .non) = d.isNon := by
  cases d with
  | non => rw [h.non]; rfl
  | bl b => rw [h.bl]; rfl
  | int b => rw [h.int]; rfl
  | str b => rw [h.str.1]; rfl
  | tup b => obtain ⟨_, _, e, _⟩ := h.tup; rw [e]; rfl
  | lst b => obtain ⟨_, _, e, _⟩ := h.lst; rw [e]; rfl
  | dic k b => obtain ⟨_, _, e, _⟩ := h.dic; rw [e]; rfl
  | exc c => obtain ⟨_, _, e, _⟩ := h.exc; rw [e]; rfl
theorem fIs_mono {neg : Bool} : ∀ x y Q Q', (∀ v, Q v → Q' v) → fIs neg x y Q → fIs neg x y Q' := fun x y Q Q' h q => by
  unfold fIs at q ⊢
  split at q
  · exact h _ q
  · exact h _ q
  · exact h _ q
  · exact q
theorem opD_is : OpD X (fun x y H Q => (y = .non ∧ Q (.bl (decide (x = .non))) H) ∨ (∃ a b, x = .bl a ∧ y = .bl b ∧ Q (.bl (decide (a = b))) H) ∨ rIsIB false x y H Q) (fIs false) := by
  refine ⟨fIs_mono, fun B Z T H0 ε σ H x y dx dy Q r rx ry z => ?_⟩
  unfold fIs at z
  split at z
  · exact .inl ⟨ry.non, by rw [rx.isNon]; exact z _ H r.aftRefl (RV.mk rz_bl)⟩
  · exact .inr (.inl ⟨_, _, rx.bl, ry.bl, z _ H r.aftRefl (RV.mk rz_bl)⟩)
  · exact .inr (.inr ⟨_, _, rx.int, ry.bl, z _ H r.aftRefl (RV.mk rz_bl)⟩)
  · exact z.elim
theorem opD_isnot : OpD X (fun x y H Q => (y = .non ∧ Q (.bl (!decide (x = .non))) H) ∨ (∃ a b, x = .bl a ∧ y = .bl b ∧ Q (.bl (!decide (a = b))) H) ∨ rIsIB true x y H Q) (fIs true) := by
  refine ⟨fIs_mono, fun B Z T H0 ε σ H x y dx dy Q r rx ry z => ?_⟩
  unfold fIs at z
  split at z
  · exact .inl ⟨ry.non, by rw [rx.isNon]; exact z _ H r.aftRefl (RV.mk rz_bl)⟩
  · exact .inr (.inl ⟨_, _, rx.bl, ry.bl, z _ H r.aftRefl (RV.mk rz_bl)⟩)
  · exact .inr (.inr ⟨_, _, rx.int, ry.bl, z _ H r.aftRefl (RV.mk rz_bl)⟩)
  · exact z.elim

/-! ### in -/
/-- the key that a datum is -/
def D.key : D → Option Key
  | .int i => some (.inl i)
  | .str x => some (.inr x)
  | _ => none
def lookD : List Key → List D → Key → Option D
  | k :: ks, d :: ds, x => if k = x then some d else lookD ks ds x
  | _, _, _ => none
/-- a text in a text -/
def inStr (x z : Str) : Bool := match x.cps.toList with
  | [c] => decide (c ∈ z.cps.toList)
  | _ => !(Builtin.Str.occurrences z x 0 z.length 1).isEmpty
def D.flat : D → Bool
  | .non => true
  | .bl _ => true
  | .int _ => true
  | .str _ => true
  | _ => false
/-- in a list or tuple: by == ; in a text: one sign, or a text within; in a dict: a key -/
def fIn (neg : Bool) : D → D → (IV → Prop) → Prop
  | x, .lst ds, Q => ((x.flat = true ∧ ds.all D.flat = true) ∨ (x.eqOk ∧ (D.lst ds).eqOk)) ∧ Q (.fz (.bl (if neg then !ds.any fun z => pyEq z x else ds.any fun z => pyEq z x)))
  | x, .tup ds, Q => (x.flat = true ∧ ds.all D.flat = true) ∧ Q (.fz (.bl (if neg then !ds.any fun z => pyEq z x else ds.any fun z => pyEq z x)))
  | .str x, .str z, Q => Q (.fz (.bl (if neg then !inStr x z else inStr x z)))
  | x, .dic ks ds, Q => ∃ k, x.key = some k ∧ Q (.fz (.bl (if neg then !(lookD ks ds k).isSome else (lookD ks ds k).isSome)))
  | _, _, _ => False
theorem RI.flat {K : Frag} {A : Av} {Z : Zt} {H : Hp} {d : D} {v : V} (h : RI K A Z H d v) (n : d.flat = true) : flatV v = true := by
  cases d with
  | non => rw [h.non]; rfl
  | bl b => rw [h.bl]; rfl
  | int b => rw [h.int]; rfl
  | str b => rw [h.str.1]; rfl
  | _ => simp [D.flat] at n
theorem RI.eqV {K : Frag} {A A' : Av} {Z Z' : Zt} {H H' : Hp} {d e : D} {v w : V} (h : RI K A Z H d v) (g : RI K A' Z' H' e w) (n : d.flat = true) (m : e.flat = true) : eqV v w = pyEq d e := by
  cases d <;> cases e <;> first
    | (simp [D.flat] at n; done)
    | (simp [D.flat] at m; done)
    | (first
        | (have e1 := h.non)
        | (have e1 := h.bl)
        | (have e1 := h.int)
        | (have e1 := h.str.1)
       first
        | (have e2 := g.non)
        | (have e2 := g.bl)
        | (have e2 := g.int)
        | (have e2 := g.str.1)
       subst e1; subst e2
       simp [L2.eqV, pyEq, beq_dec])
theorem Rzs.flat {K : Frag} {A : Av} {H : Hp} : ∀ {ds : List D} {vs : List V}, Rzs K A H ds vs → ds.all D.flat = true → vs.all flatV = true
  | [], vs, h, _ => by simp only [Rzs] at h; subst h; rfl
  | d :: ds, vs, h, n => by
    simp only [Rzs] at h
    obtain ⟨v, r, rfl, h1, h2⟩ := h
    simp only [List.all_cons, Bool.and_eq_true] at n ⊢
    exact ⟨RI.flat (Z := (none, [])) (.inl h1) n.1, Rzs.flat h2 n.2⟩
theorem Rzs.inV {K : Frag} {A A' : Av} {Z : Zt} {H H' : Hp} {e : D} {w : V} (g : RI K A' Z H' e w) (m : e.flat = true) : ∀ {ds : List D} {vs : List V}, Rzs K A H ds vs → ds.all D.flat = true → L2.inV w vs = ds.any fun z => pyEq z e
  | [], vs, h, _ => by simp only [Rzs] at h; subst h; rfl
  | d :: ds, vs, h, n => by
    simp only [Rzs] at h
    obtain ⟨v, r, rfl, h1, h2⟩ := h
    simp only [List.all_cons, Bool.and_eq_true] at n
    have q := Rzs.inV g m h2 n.2
    unfold L2.inV at q ⊢
    simp only [List.any_cons, q, RI.eqV (Z := (none, [])) (.inl h1) g n.1 m]
theorem eqv_any {x : D} : ∀ {ds : List D}, ((D.toPs ds).any fun z => PyData.eqv z x.toP) = ds.any fun z => pyEq z x
  | [] => by simp [D.toPs]
  | d :: ds => by simp only [D.toPs, List.any_cons, eqv_toP, eqv_any (ds := ds)]
theorem key_v {K : Frag} {A : Av} {Z : Zt} {H : Hp} {d : D} {v : V} {k : Key} (h : RI K A Z H d v) (e : d.key = some k) : v = kV k := by
  cases d with
  | int b => cases e; rw [h.int]; rfl
  | str b => cases e; rw [h.str.1]; rfl
  | _ => cases e
theorem valV_zip {K : Frag} {A : Av} {H : Hp} {k : Key} : ∀ {ks : List Key} {ds : List D} {vs : List V}, Rzs K A H ds vs → ks.length = ds.length →
    (∀ d, lookD ks ds k = some d → ∃ v, valV (ks.zip vs) k = some v ∧ Rz K A H d v) ∧ (lookD ks ds k = none → valV (ks.zip vs) k = none)
  | [], ds, vs, h, e => by
    have z : lookD [] ds k = none := by cases ds <;> rfl
    refine ⟨fun d q => ?_, fun _ => ?_⟩
    · rw [z] at q; cases q
    · rfl
  | x :: ks, [], vs, h, e => by simp at e
  | x :: ks, d :: ds, vs, h, e => by
    simp only [Rzs] at h
    obtain ⟨v, r, rfl, h1, h2⟩ := h
    have ih := valV_zip (k := k) (ks := ks) h2 (by simpa using e)
    rw [List.zip_cons_cons]
    by_cases q : x = k
    · refine ⟨fun d' q' => ?_, fun q' => ?_⟩
      · simp only [lookD, if_pos q] at q'
        cases q'
        exact ⟨v, valV_pos q, h1⟩
      · simp only [lookD, if_pos q] at q'
        cases q'
    · refine ⟨fun d' q' => ?_, fun q' => ?_⟩
      · simp only [lookD, if_neg q] at q'
        rw [valV_neg q]
        exact ih.1 d' q'
      · simp only [lookD, if_neg q] at q'
        rw [valV_neg q]
        exact ih.2 q'
theorem valV_some {K : Frag} {A : Av} {H : Hp} {k : Key} {ks : List Key} {ds : List D} {vs : List V} (h : Rzs K A H ds vs) (e : ks.length = ds.length) : (valV (ks.zip vs) k).isSome = (lookD ks ds k).isSome := by
  have z := valV_zip (k := k) h e
  cases q : lookD ks ds k with
  | none => rw [z.2 q]; rfl
  | some d => obtain ⟨v, h1, _⟩ := z.1 d q; rw [h1]; rfl
/-- dicts as values of an operator -/
def rInDic (neg : Bool) : R2 := fun x y H Q => ∃ a o, y = .ref a ∧ DGet H a x o ∧ Q (.bl (if neg then !o.isSome else o.isSome)) H
theorem op_inDic (hu : X.A.units + 65 < cLine) : OpR X (compareOp .In) (rInDic false) := by
  intro pins s σ H x y v u Q I rx ry h
  obtain ⟨a, o, rfl, g, q⟩ := h
  cases (show u = Value.ref a from ry)
  exact d_in (by omega) I g rx fun s' I' => ⟨.bl o.isSome, H, I', rfl, q⟩
theorem op_notInDic (hu : X.A.units + 65 < cLine) : OpR X (compareOp .NotIn) (rInDic true) := by
  intro pins s σ H x y v u Q I rx ry h
  obtain ⟨a, o, rfl, g, q⟩ := h
  cases (show u = Value.ref a from ry)
  exact d_notIn (by omega) I g rx fun s' I' => ⟨.bl (!o.isSome), H, I', rfl, q⟩
def rInStr (neg : Bool) : R2 := fun x y H Q => ∃ i j, x = .str i ∧ y = .str j ∧ Q (.bl (if neg then !inStr i j else inStr i j)) H
theorem op_inStr : OpR X (compareOp .In) (rInStr false) := by
  intro pins s σ H x y v u Q I rx ry h
  obtain ⟨i, j, rfl, rfl, q⟩ := h
  obtain ⟨⟨l⟩⟩ := i
  match l, rx, q with
  | [], rx, q => exact op_in_str pins s σ H _ _ v u Q I rx ry ⟨_, _, rfl, rfl, q⟩
  | [c], rx, q => exact op_in_sign pins s σ H _ _ v u Q I rx ry ⟨c, j, rfl, rfl, q⟩
  | c :: d :: r, rx, q => exact op_in_str pins s σ H _ _ v u Q I rx ry ⟨_, _, rfl, rfl, q⟩
theorem op_notInStr : OpR X (compareOp .NotIn) (rInStr true) := by
  intro pins s σ H x y v u Q I rx ry h
  obtain ⟨i, j, rfl, rfl, q⟩ := h
  obtain ⟨⟨l⟩⟩ := i
  match l, rx, q with
  | [], rx, q => exact op_notIn_str pins s σ H _ _ v u Q I rx ry ⟨_, _, rfl, rfl, q⟩
  | [c], rx, q => exact op_notIn_sign pins s σ H _ _ v u Q I rx ry ⟨c, j, rfl, rfl, q⟩
  | c :: d :: r, rx, q => exact op_notIn_str pins s σ H _ _ v u Q I rx ry ⟨_, _, rfl, rfl, q⟩
theorem opr_in (hu : X.A.units + 65 < cLine) : OpR X (compareOp .In) (fun x y H Q => rIn X.K false x y H Q ∨ rInD X.K x y H Q ∨ rInStr false x y H Q ∨ rInDic false x y H Q) := OpR.or op_in_seq (OpR.or (op_inD hu) (OpR.or op_inStr (op_inDic hu)))
theorem opr_notIn (hu : X.A.units + 65 < cLine) : OpR X (compareOp .NotIn) (fun x y H Q => rIn X.K true x y H Q ∨ rNotInD X.K x y H Q ∨ rInStr true x y H Q ∨ rInDic true x y H Q) := OpR.or op_notIn_seq (OpR.or (op_notInD hu) (OpR.or op_notInStr (op_notInDic hu)))
theorem fIn_mono {neg : Bool} : ∀ x y Q Q', (∀ v, Q v → Q' v) → fIn neg x y Q → fIn neg x y Q' := fun x y Q Q' h q => by
  unfold fIn at q ⊢
  split at q
  · exact ⟨q.1, h _ q.2⟩
  · exact ⟨q.1, h _ q.2⟩
  · exact h _ q
  · obtain ⟨k, e, q⟩ := q; exact ⟨k, e, h _ q⟩
  · exact q
theorem opD_in : OpD X (fun x y H Q => rIn X.K false x y H Q ∨ rInD X.K x y H Q ∨ rInStr false x y H Q ∨ rInDic false x y H Q) (fIn false) := by
  refine ⟨fIn_mono, fun B Z T H0 ε σ H x y dx dy Q r rx ry z => ?_⟩
  unfold fIn at z
  split at z
  · obtain ⟨c, z⟩ := z
    have z := fun v h => z v H r.aftRefl h
    rcases c with ⟨c1, c2⟩ | ⟨c1, c2⟩
    · obtain ⟨a, vs, rfl, h1, _, h2⟩ := ry.lst
      exact .inl ⟨a, vs, rfl, .inl (.of h1), rx.flat c1, h2.flat c2, by rw [h2.inV rx c1 c2]; exact z _ (RV.mk rz_bl)⟩
    · refine .inr (.inl ⟨_, _, rx.dp c1.1, ry.dp c2.1, c1.2, c2.2, ?_⟩)
      rw [eqv_any]
      exact z _ (RV.mk rz_bl)
  · obtain ⟨⟨c1, c2⟩, z⟩ := z
    obtain ⟨a, vs, rfl, h1, _, h2⟩ := ry.tup
    exact .inl ⟨a, vs, rfl, .inr h1.sq, rx.flat c1, h2.flat c2, by rw [h2.inV rx c1 c2]; exact z _ H r.aftRefl (RV.mk rz_bl)⟩
  · exact .inr (.inr (.inl ⟨_, _, rx.str.1, ry.str.1, z _ H r.aftRefl (RV.mk rz_bl)⟩))
  · obtain ⟨k, e, z⟩ := z
    obtain ⟨a, vs, rfl, h1, hl, h2⟩ := ry.dic
    refine .inr (.inr (.inr ⟨a, _, rfl, .inl ⟨_, k, h1, key_v rx e, rfl⟩, ?_⟩))
    rw [valV_some h2 hl.1]
    exact z _ H r.aftRefl (RV.mk rz_bl)
  · exact z.elim
theorem opD_notIn : OpD X (fun x y H Q => rIn X.K true x y H Q ∨ rNotInD X.K x y H Q ∨ rInStr true x y H Q ∨ rInDic true x y H Q) (fIn true) := by
  refine ⟨fIn_mono, fun B Z T H0 ε σ H x y dx dy Q r rx ry z => ?_⟩
  unfold fIn at z
  split at z
  · obtain ⟨c, z⟩ := z
    have z := fun v h => z v H r.aftRefl h
    rcases c with ⟨c1, c2⟩ | ⟨c1, c2⟩
    · obtain ⟨a, vs, rfl, h1, _, h2⟩ := ry.lst
      exact .inl ⟨a, vs, rfl, .inl (.of h1), rx.flat c1, h2.flat c2, by rw [h2.inV rx c1 c2]; exact z _ (RV.mk rz_bl)⟩
    · refine .inr (.inl ⟨_, _, rx.dp c1.1, ry.dp c2.1, c1.2, c2.2, ?_⟩)
      rw [eqv_any]
      exact z _ (RV.mk rz_bl)
  · obtain ⟨⟨c1, c2⟩, z⟩ := z
    obtain ⟨a, vs, rfl, h1, _, h2⟩ := ry.tup
    exact .inl ⟨a, vs, rfl, .inr h1.sq, rx.flat c1, h2.flat c2, by rw [h2.inV rx c1 c2]; exact z _ H r.aftRefl (RV.mk rz_bl)⟩
  · exact .inr (.inr (.inl ⟨_, _, rx.str.1, ry.str.1, z _ H r.aftRefl (RV.mk rz_bl)⟩))
  · obtain ⟨k, e, z⟩ := z
    obtain ⟨a, vs, rfl, h1, hl, h2⟩ := ry.dic
    refine .inr (.inr (.inr ⟨a, _, rfl, .inl ⟨_, k, h1, key_v rx e, rfl⟩, ?_⟩))
    rw [valV_some h2 hl.1]
    exact z _ H r.aftRefl (RV.mk rz_bl)
  · exact z.elim
end
end G

namespace G
open PySem PySem.Spec PyProof.Rows L2
section
variable {X : Cx} {W : WX}
/-! ### comparisons, as values and as tests -/
section
variable {a b : Expr} {ma mb : MI} {pos : Pos} {cha chb : Nat} (ha : DI X W a ma cha) (hb : DI X W b mb chb)
include ha hb
theorem de_eq {k : Nat} (hr : Room k X.A) : DE X W (.Compare a [.Eq] [b] pos) (mOp (fEq false) ma mb) (cha + chb) := de_cmp (opr_eq (by have := hr.un; omega)) opD_eq ha hb (nomark _)
theorem dt_eq {k : Nat} (hr : Room k X.A) : DT X W (.Compare a [.Eq] [b] pos) (mTest (mOp (fEq false) ma mb)) (cha + chb) := dt_cmp (opr_eq (by have := hr.un; omega)) opD_eq ha hb (nomark _)
theorem de_ne {k : Nat} (hr : Room k X.A) : DE X W (.Compare a [.NotEq] [b] pos) (mOp (fEq true) ma mb) (cha + chb) := de_cmp (opr_ne (by have := hr.un; omega)) opD_ne ha hb (nomark _)
theorem dt_ne {k : Nat} (hr : Room k X.A) : DT X W (.Compare a [.NotEq] [b] pos) (mTest (mOp (fEq true) ma mb)) (cha + chb) := dt_cmp (opr_ne (by have := hr.un; omega)) opD_ne ha hb (nomark _)
theorem de_lt : DE X W (.Compare a [.Lt] [b] pos) (mOp fLt ma mb) (cha + chb) := de_cmp opr_lt opD_cmp ha hb (nomark _)
theorem dt_lt : DT X W (.Compare a [.Lt] [b] pos) (mTest (mOp fLt ma mb)) (cha + chb) := dt_cmp opr_lt opD_cmp ha hb (nomark _)
theorem de_le : DE X W (.Compare a [.LtE] [b] pos) (mOp fLe ma mb) (cha + chb) := de_cmp opr_le opD_cmp ha hb (nomark _)
theorem dt_le : DT X W (.Compare a [.LtE] [b] pos) (mTest (mOp fLe ma mb)) (cha + chb) := dt_cmp opr_le opD_cmp ha hb (nomark _)
theorem de_gt : DE X W (.Compare a [.Gt] [b] pos) (mOp fGt ma mb) (cha + chb) := de_cmp opr_gt opD_cmp ha hb (nomark _)
theorem dt_gt : DT X W (.Compare a [.Gt] [b] pos) (mTest (mOp fGt ma mb)) (cha + chb) := dt_cmp opr_gt opD_cmp ha hb (nomark _)
theorem de_ge : DE X W (.Compare a [.GtE] [b] pos) (mOp fGe ma mb) (cha + chb) := de_cmp opr_ge opD_cmp ha hb (nomark _)
theorem dt_ge : DT X W (.Compare a [.GtE] [b] pos) (mTest (mOp fGe ma mb)) (cha + chb) := dt_cmp opr_ge opD_cmp ha hb (nomark _)
theorem de_is : DE X W (.Compare a [.Is] [b] pos) (mOp (fIs false) ma mb) (cha + chb) := de_cmp opr_is opD_is ha hb (nomark _)
theorem dt_is : DT X W (.Compare a [.Is] [b] pos) (mTest (mOp (fIs false) ma mb)) (cha + chb) := dt_cmp opr_is opD_is ha hb (nomark _)
theorem de_isnot : DE X W (.Compare a [.IsNot] [b] pos) (mOp (fIs true) ma mb) (cha + chb) := de_cmp opr_isnot opD_isnot ha hb (nomark _)
theorem dt_isnot : DT X W (.Compare a [.IsNot] [b] pos) (mTest (mOp (fIs true) ma mb)) (cha + chb) := dt_cmp opr_isnot opD_isnot ha hb (nomark _)
theorem de_in {k : Nat} (hr : Room k X.A) (hm : behindInMarks .In b = false := by with_unfolding_all rfl) : DE X W (.Compare a [.In] [b] pos) (mOp (fIn false) ma mb) (cha + chb) := de_cmp (opr_in (by have := hr.un; omega)) opD_in ha hb hm
theorem dt_in {k : Nat} (hr : Room k X.A) (hm : behindInMarks .In b = false := by with_unfolding_all rfl) : DT X W (.Compare a [.In] [b] pos) (mTest (mOp (fIn false) ma mb)) (cha + chb) := dt_cmp (opr_in (by have := hr.un; omega)) opD_in ha hb hm
theorem de_notin {k : Nat} (hr : Room k X.A) (hm : behindInMarks .NotIn b = false := by with_unfolding_all rfl) : DE X W (.Compare a [.NotIn] [b] pos) (mOp (fIn true) ma mb) (cha + chb) := de_cmp (opr_notIn (by have := hr.un; omega)) opD_notIn ha hb hm
theorem dt_notin {k : Nat} (hr : Room k X.A) (hm : behindInMarks .NotIn b = false := by with_unfolding_all rfl) : DT X W (.Compare a [.NotIn] [b] pos) (mTest (mOp (fIn true) ma mb)) (cha + chb) := dt_cmp (opr_notIn (by have := hr.un; omega)) opD_notIn ha hb hm
end
/-- a <= b <= c -/
def mChain (f f' : D → D → (IV → Prop) → Prop) (a b c : MI) : ME := fun ε Q Ex => a ε (fun x => b ε (fun y => f x y (onB fun k => if k = true then c ε (fun z => f' y z Q) Ex else Q (.fz (.bl false)))) Ex) Ex
theorem lift_chain {ta tb tc : TE} {a b c : MI} {r r' : R2} {f f'} (o : OpD X r f) (o' : OpD X r' f') (la : LiftI X W ta a cla) (lb : LiftI X W tb b clb) (lc : LiftI X W tc c clc) : LiftE X W (tChain r r' ta tb tc) (mChain f f' a b c) (cla + clb + clc) := by
  refine ⟨fun ε Q Q' Ex Ex' hq hx q => la.mono ε _ _ _ _ (fun x q => lb.mono ε _ _ _ _ (fun y q => o.mono _ _ _ _ (onB_mono fun k q => ?_) q) hx q) hx q, fun B Z T H0 ε σ H Q Ex hL r hx q => ?_⟩
  · split at q
    · rename_i h
      rw [if_pos h]
      exact lc.mono ε _ _ _ _ (fun z q => o'.mono _ _ _ _ hq q) hx q
    · rename_i h
      rw [if_neg h]
      exact hq _ q
  refine la.run B Z H0 ε σ H _ Ex r (hx.at (T + cla)) (la.mono ε _ _ _ _ (fun dx q x H1 a1 r1 => ?_) (fun _ x => x) q)
  refine lb.run B Z H0 ε σ H1 _ Ex (r.aft a1) ((hx.at (T + (cla + clb))).aft a1) (lb.mono ε _ _ _ _ (fun dy q y H2 a2 r2 => ?_) (fun _ x => x) q)
  have a12 := a1.trans a2
  refine o.run B Z _ H0 ε σ H2 x y dx dy _ (r.aft a12) (r1.aft a2) r2 (o.mono _ _ _ _ (fun iv q z H3 a3 rz => ?_) q)
  unfold onB at q
  split at q
  · rename_i k
    simp only [RV, Rz] at rz
    refine ⟨k, rz, ?_⟩
    have a13 := a12.trans a3
    split at q
    · rename_i h
      rw [if_pos h]
      refine lc.run B Z H0 ε σ H3 _ Ex (r.aft a13) (hx.aft a13) (lc.mono ε _ _ _ _ (fun dz q w H4 a4 r4 => ?_) (fun _ x => x) q)
      have a14 := a13.trans a4
      exact o'.run B Z _ H0 ε σ H4 y w dy dz Q (r.aft a14) ((r2.aft a3).aft a4) r4 (o'.mono _ _ _ _ (fun iv q v H5 a5 rv => q v H5 (a14.trans a5) (rv.back a14)) q)
    · rename_i h
      rw [if_neg h]
      exact q _ H3 a13.up (RV.mk rz_bl)
  · exact q.elim
theorem de_chain {op op' : CmpOp} {r r' : R2} {f f'} {a b c : Expr} {ma mb mc : MI} {pos : Pos} (ho : OpR X (compareOp op) r) (ho' : OpR X (compareOp op') r') (o : OpD X r f) (o' : OpD X r' f') (ha : DI X W a ma cha) (hb : DI X W b mb chb) (hc : DI X W c mc chc)
    (hm : lastMarks [op, op'] [b, c] = false := by with_unfolding_all rfl) : DE X W (.Compare a [op, op'] [b, c] pos) (mChain f f' ma mb mc) (cha + chb + chc) := by
  obtain ⟨ta, pa, la⟩ := ha
  obtain ⟨tb, pb, lb⟩ := hb
  obtain ⟨tc, pc, lc⟩ := hc
  exact ⟨_, pe_chain ho ho' pa pb pc hm, lift_chain o o' la lb lc⟩
theorem dt_chain {op op' : CmpOp} {r r' : R2} {f f'} {a b c : Expr} {ma mb mc : MI} {pos : Pos} (ho : OpR X (compareOp op) r) (ho' : OpR X (compareOp op') r') (o : OpD X r f) (o' : OpD X r' f') (ha : DI X W a ma cha) (hb : DI X W b mb chb) (hc : DI X W c mc chc)
    (hm : lastMarks [op, op'] [b, c] = false := by with_unfolding_all rfl) : DT X W (.Compare a [op, op'] [b, c] pos) (mTest (mChain f f' ma mb mc)) (cha + chb + chc) := by
  obtain ⟨ta, pa, la⟩ := ha
  obtain ⟨tb, pb, lb⟩ := hb
  obtain ⟨tc, pc, lc⟩ := hc
  exact ⟨_, pt_chain ho ho' pa pb pc hm, lift_test (lift_chain o o' la lb lc)⟩

/-! ### and, or, not, if-else -/
def mAnd (a b : MT) : MT := fun ε Q Ex => a ε (fun c => if c = true then b ε Q Ex else Q false) Ex
def mOr (a b : MT) : MT := fun ε Q Ex => a ε (fun c => if c = true then Q true else b ε Q Ex) Ex
def mNot (a : MT) : MT := fun ε Q Ex => a ε (fun c => Q (!c)) Ex
theorem lift_and {t u : TT} {a b : MT} (la : LiftT X W t a cla) (lb : LiftT X W u b clb) : LiftT X W (tAnd t u) (mAnd a b) (cla + clb) := by
  refine ⟨fun ε Q Q' Ex Ex' hq hx q => la.mono ε _ _ _ _ (fun c q => ?_) hx q, fun B Z T H0 ε σ H Q Ex hL r hx q => ?_⟩
  · cases c with
    | true => simp only [if_true] at q ⊢; exact lb.mono ε _ _ _ _ hq hx q
    | false => simp only [Bool.false_eq_true, if_false] at q ⊢; exact hq _ q
  refine la.run B Z H0 ε σ H _ Ex r (hx.at (T + cla)) (la.mono ε _ _ _ _ (fun c q H1 a1 => ?_) (fun _ x => x) q)
  cases c with
  | true =>
    simp only [if_true] at q ⊢
    exact lb.run B Z H0 ε σ H1 Q Ex (r.aft a1) (hx.aft a1) (lb.mono ε _ _ _ _ (fun c q H2 a2 => q H2 (a1.trans a2)) (fun _ x => x) q)
  | false => simp only [Bool.false_eq_true, if_false] at q ⊢; exact q H1 a1.up
theorem lift_or {t u : TT} {a b : MT} (la : LiftT X W t a cla) (lb : LiftT X W u b clb) : LiftT X W (tOr t u) (mOr a b) (cla + clb) := by
  refine ⟨fun ε Q Q' Ex Ex' hq hx q => la.mono ε _ _ _ _ (fun c q => ?_) hx q, fun B Z T H0 ε σ H Q Ex hL r hx q => ?_⟩
  · cases c with
    | false => simp only [Bool.false_eq_true, if_false] at q ⊢; exact lb.mono ε _ _ _ _ hq hx q
    | true => simp only [if_true] at q ⊢; exact hq _ q
  refine la.run B Z H0 ε σ H _ Ex r (hx.at (T + cla)) (la.mono ε _ _ _ _ (fun c q H1 a1 => ?_) (fun _ x => x) q)
  cases c with
  | false =>
    simp only [Bool.false_eq_true, if_false] at q ⊢
    exact lb.run B Z H0 ε σ H1 Q Ex (r.aft a1) (hx.aft a1) (lb.mono ε _ _ _ _ (fun c q H2 a2 => q H2 (a1.trans a2)) (fun _ x => x) q)
  | true => simp only [if_true] at q ⊢; exact q H1 a1.up
theorem lift_not {t : TT} {a : MT} (la : LiftT X W t a cla) : LiftT X W (tNot t) (mNot a) cla :=
  ⟨fun ε Q Q' Ex Ex' hq hx q => la.mono ε _ _ _ _ (fun c q => hq _ q) hx q, fun B Z T H0 ε σ H Q Ex hL r hx q => la.run B Z H0 ε σ H _ Ex r (hx.at (T + cla)) q⟩
/-- tests by and, or -/
def DW (X : Cx) (W : WX) (e : Expr) (m : MT) (c : Nat) : Prop := ∃ t, PW X e t ∧ LiftT X W t m c
theorem DW.t {e : Expr} {m : MT} (h : DW X W e m ch) : DT X W e m ch := let ⟨t, p, l⟩ := h; ⟨t, p.pt, l⟩
section
variable {a b : Expr} {rest : List Expr} {ma mb : MT} {pos : Pos}
theorem dw_and1 (ha : DT X W a ma cha) : DW X W (.BoolOp .And [a] pos) ma cha := let ⟨t, p, l⟩ := ha; ⟨t, pw_and1 p, l⟩
theorem dw_or1 (ha : DT X W a ma cha) : DW X W (.BoolOp .Or [a] pos) ma cha := let ⟨t, p, l⟩ := ha; ⟨t, pw_or1 p, l⟩
theorem dw_and (ha : DT X W a ma cha) (hb : DW X W (.BoolOp .And (b :: rest) pos) mb chb) : DW X W (.BoolOp .And (a :: b :: rest) pos) (mAnd ma mb) (cha + chb) :=
  let ⟨t, p, l⟩ := ha; let ⟨u, q, k⟩ := hb; ⟨_, pw_and p q, lift_and l k⟩
theorem dw_or (ha : DT X W a ma cha) (hb : DW X W (.BoolOp .Or (b :: rest) pos) mb chb) : DW X W (.BoolOp .Or (a :: b :: rest) pos) (mOr ma mb) (cha + chb) :=
  let ⟨t, p, l⟩ := ha; let ⟨u, q, k⟩ := hb; ⟨_, pw_or p q, lift_or l k⟩
theorem dt_not (ha : DT X W a ma cha) : DT X W (.UnaryOp .Not a pos) (mNot ma) cha := let ⟨t, p, l⟩ := ha; ⟨_, pt_not p, lift_not l⟩
end
/-! as values -/
def mAndV (a b : ME) : ME := fun ε Q Ex => a ε (onB fun c => if c = true then b ε Q Ex else Q (.fz (.bl false))) Ex
def mOrV (a b : ME) : ME := fun ε Q Ex => a ε (onB fun c => if c = true then Q (.fz (.bl true)) else b ε Q Ex) Ex
def mNotV (a : ME) : ME := fun ε Q Ex => a ε (onB fun c => Q (.fz (.bl (!c)))) Ex
theorem RV.bl' {K : Frag} {A : Av} {Z : Zt} {H H' : Hp} {v : V} {P : Bool → Prop} {iv : IV} (h : RV K A Z H H' v iv) (q : onB P iv) : ∃ c, v = .bl c ∧ P c := by
  unfold onB at q
  split at q
  · simp only [RV, Rz] at h
    exact ⟨_, h, q⟩
  · exact q.elim
theorem lift_andV {t u : TE} {a b : ME} (la : LiftE X W t a cla) (lb : LiftE X W u b clb) : LiftE X W (tAndV t u) (mAndV a b) (cla + clb) := by
  refine ⟨fun ε Q Q' Ex Ex' hq hx q => la.mono ε _ _ _ _ (onB_mono fun c q => ?_) hx q, fun B Z T H0 ε σ H Q Ex hL r hx q => ?_⟩
  · cases c with
    | true => simp only [if_true] at q ⊢; exact lb.mono ε _ _ _ _ hq hx q
    | false => simp only [Bool.false_eq_true, if_false] at q ⊢; exact hq _ q
  refine la.run B Z H0 ε σ H _ Ex r (hx.at (T + cla)) (la.mono ε _ _ _ _ (fun iv q v H1 a1 rv => ?_) (fun _ x => x) q)
  obtain ⟨c, e, q⟩ := rv.bl' q
  refine ⟨c, e, ?_⟩
  cases c with
  | true =>
    simp only [if_true] at q ⊢
    exact lb.run B Z H0 ε σ H1 Q Ex (r.aft a1) (hx.aft a1) (lb.mono ε _ _ _ _ (fun c q v H2 a2 rv => q v H2 (a1.trans a2) (rv.back a1)) (fun _ x => x) q)
  | false => simp only [Bool.false_eq_true, if_false] at q ⊢; exact q _ H1 a1.up (RV.mk rz_bl)
theorem lift_orV {t u : TE} {a b : ME} (la : LiftE X W t a cla) (lb : LiftE X W u b clb) : LiftE X W (tOrV t u) (mOrV a b) (cla + clb) := by
  refine ⟨fun ε Q Q' Ex Ex' hq hx q => la.mono ε _ _ _ _ (onB_mono fun c q => ?_) hx q, fun B Z T H0 ε σ H Q Ex hL r hx q => ?_⟩
  · cases c with
    | false => simp only [Bool.false_eq_true, if_false] at q ⊢; exact lb.mono ε _ _ _ _ hq hx q
    | true => simp only [if_true] at q ⊢; exact hq _ q
  refine la.run B Z H0 ε σ H _ Ex r (hx.at (T + cla)) (la.mono ε _ _ _ _ (fun iv q v H1 a1 rv => ?_) (fun _ x => x) q)
  obtain ⟨c, e, q⟩ := rv.bl' q
  refine ⟨c, e, ?_⟩
  cases c with
  | false =>
    simp only [Bool.false_eq_true, if_false] at q ⊢
    exact lb.run B Z H0 ε σ H1 Q Ex (r.aft a1) (hx.aft a1) (lb.mono ε _ _ _ _ (fun c q v H2 a2 rv => q v H2 (a1.trans a2) (rv.back a1)) (fun _ x => x) q)
  | true => simp only [if_true] at q ⊢; exact q _ H1 a1.up (RV.mk rz_bl)
theorem lift_notV {t : TE} {a : ME} (la : LiftE X W t a cla) : LiftE X W (tNotV t) (mNotV a) cla := by
  refine ⟨fun ε Q Q' Ex Ex' hq hx q => la.mono ε _ _ _ _ (onB_mono fun c q => hq _ q) hx q, fun B Z T H0 ε σ H Q Ex hL r hx q => ?_⟩
  refine la.run B Z H0 ε σ H _ Ex r (hx.at (T + cla)) (la.mono ε _ _ _ _ (fun iv q v H1 a1 rv => ?_) (fun _ x => x) q)
  obtain ⟨c, e, q⟩ := rv.bl' q
  exact ⟨c, e, q _ H1 a1 (RV.mk rz_bl)⟩
section
variable {a b : Expr} {rest : List Expr} {ma mb : ME} {pos : Pos}
theorem de_one {op : BoolOp} (ha : DE X W a ma cha) : DE X W (.BoolOp op [a] pos) ma cha := let ⟨t, p, l⟩ := ha; ⟨t, pe_one p, l⟩
theorem de_and (ha : DE X W a ma cha) (hb : DE X W (.BoolOp .And (b :: rest) pos) mb chb) : DE X W (.BoolOp .And (a :: b :: rest) pos) (mAndV ma mb) (cha + chb) :=
  let ⟨t, p, l⟩ := ha; let ⟨u, q, k⟩ := hb; ⟨_, pe_and p q, lift_andV l k⟩
theorem de_or (ha : DE X W a ma cha) (hb : DE X W (.BoolOp .Or (b :: rest) pos) mb chb) : DE X W (.BoolOp .Or (a :: b :: rest) pos) (mOrV ma mb) (cha + chb) :=
  let ⟨t, p, l⟩ := ha; let ⟨u, q, k⟩ := hb; ⟨_, pe_or p q, lift_orV l k⟩
theorem de_not (ha : DE X W a ma cha) : DE X W (.UnaryOp .Not a pos) (mNotV ma) cha := let ⟨t, p, l⟩ := ha; ⟨_, pe_not p, lift_notV l⟩
end
def mIf (t : MT) (a b : ME) : ME := fun ε Q Ex => t ε (fun c => if c = true then a ε Q Ex else b ε Q Ex) Ex
theorem lift_if {t : TT} {u v : TE} {m : MT} {a b : ME} (lt : LiftT X W t m clt) (la : LiftE X W u a cla) (lb : LiftE X W v b clb) : LiftE X W (tIf t u v) (mIf m a b) (clt + cla + clb) := by
  refine ⟨fun ε Q Q' Ex Ex' hq hx q => lt.mono ε _ _ _ _ (fun c q => ?_) hx q, fun B Z T H0 ε σ H Q Ex hL r hx q => ?_⟩
  · cases c with
    | false => simp only [Bool.false_eq_true, if_false] at q ⊢; exact lb.mono ε _ _ _ _ hq hx q
    | true => simp only [if_true] at q ⊢; exact la.mono ε _ _ _ _ hq hx q
  refine lt.run B Z H0 ε σ H _ Ex r (hx.at (T + clt)) (lt.mono ε _ _ _ _ (fun c q H1 a1 => ?_) (fun _ x => x) q)
  cases c with
  | false =>
    simp only [Bool.false_eq_true, if_false] at q ⊢
    exact lb.run B Z H0 ε σ H1 Q Ex (r.aft a1) (hx.aft a1) (lb.mono ε _ _ _ _ (fun c q v H2 a2 rv => q v H2 (a1.trans a2) (rv.back a1)) (fun _ x => x) q)
  | true =>
    simp only [if_true] at q ⊢
    exact la.run B Z H0 ε σ H1 Q Ex (r.aft a1) (hx.aft a1) (la.mono ε _ _ _ _ (fun c q v H2 a2 rv => q v H2 (a1.trans a2) (rv.back a1)) (fun _ x => x) q)
theorem de_if {c a b : Expr} {m : MT} {ma mb : ME} {pos : Pos} (hc : DT X W c m chc) (ha : DE X W a ma cha) (hb : DE X W b mb chb) : DE X W (.IfExp c a b pos) (mIf m ma mb) (chc + cha + chb) :=
  let ⟨_, p, l⟩ := hc; let ⟨_, pa, la⟩ := ha; let ⟨_, pb, lb⟩ := hb; ⟨_, pe_ifExp p pa pb, lift_if l la lb⟩

/-! ### subscripts -/
def fIx : D → D → (IV → Prop) → Prop
  | .lst ds, .int i, Q => ∃ d, atI ds i = some d ∧ Q (.fz d)
  | .tup ds, .int i, Q => ∃ d, atI ds i = some d ∧ Q (.fz d)
  | .str z, .int i, Q => ∃ c, atI z.cps.toList i = some c ∧ Q (.fz (.str ⟨#[c]⟩))
  | .dic ks ds, x, Q => ∃ k d, x.key = some k ∧ lookD ks ds k = some d ∧ Q (.fz d)
  | _, _, _ => False
def rIxDic : R2 := fun x y H Q => ∃ a v, x = .ref a ∧ DGet H a y (some v) ∧ Q v H
theorem ix_dic (hu : X.A.units + 65 < cLine) : IxR X rIxDic := by
  intro value slice pins s σ H x y v u Q I rx ry h hs
  obtain ⟨p, z, rfl, g, q⟩ := h
  obtain rfl : v = Value.ref p := rx
  exact tail_any (dict_typeIs I g) PySem.F.slot_dict_getitem.lookup (d_getItem (by omega) I g ry fun w' s' I' r' => ⟨z, H, I', r', q⟩) hs
theorem IxR.or' {r r' : R2} (h : IxR X r) (h' : IxR X r') : IxR X (fun x y H Q => r x y H Q ∨ r' x y H Q) := by
  intro value slice pins s σ H x y v u Q I rx ry q hs
  rcases q with q | q
  · exact h value slice pins s σ H x y v u Q I rx ry q hs
  · exact h' value slice pins s σ H x y v u Q I rx ry q hs
theorem Rzs.atI {K : Frag} {A : Av} {H : Hp} {ds : List D} {vs : List V} {i : Int} {d : D} (h : Rzs K A H ds vs) (e : L2.atI ds i = some d) : ∃ v, L2.atI vs i = some v ∧ Rz K A H d v := by
  unfold L2.atI at e ⊢
  rw [h.length]
  cases q : ixN ds.length i with
  | none => rw [q] at e; cases e
  | some j =>
    rw [q] at e
    exact h.getD e
theorem RI.sub {K : Frag} {A : Av} {Z : Zt} {H : Hp} {v : V} {d : D} (h : RI K A Z H d v) : True := trivial
theorem opD_ix : OpD X (fun x y H Q => rIxL X.K x y H Q ∨ rIxT X.K x y H Q ∨ rIxS x y H Q ∨ rIxDic x y H Q) fIx := by
  refine ⟨fun x y Q Q' h q => ?_, fun B Z T H0 ε σ H x y dx dy Q r rx ry z => ?_⟩
  · unfold fIx at q ⊢
    split at q
    · obtain ⟨d, e, q⟩ := q; exact ⟨d, e, h _ q⟩
    · obtain ⟨d, e, q⟩ := q; exact ⟨d, e, h _ q⟩
    · obtain ⟨d, e, q⟩ := q; exact ⟨d, e, h _ q⟩
    · obtain ⟨k, d, e, e', q⟩ := q; exact ⟨k, d, e, e', h _ q⟩
    · exact q
  · unfold fIx at z
    split at z
    · obtain ⟨d, e, z⟩ := z
      obtain ⟨a, vs, rfl, h1, _, h2⟩ := rx.lst
      obtain ⟨v, e', rv⟩ := h2.atI e
      exact .inl ⟨a, vs, _, v, rfl, ry.int, .of h1, e', z _ H r.aftRefl (RV.mk rv)⟩
    · obtain ⟨d, e, z⟩ := z
      obtain ⟨a, vs, rfl, h1, _, h2⟩ := rx.tup
      obtain ⟨v, e', rv⟩ := h2.atI e
      exact .inr (.inl ⟨a, vs, _, v, rfl, ry.int, h1.sq, e', z _ H r.aftRefl (RV.mk rv)⟩)
    · obtain ⟨c, e, z⟩ := z
      exact .inr (.inr (.inl ⟨_, _, c, rx.str.1, ry.int, rx.str.2, e, z _ H r.aftRefl (RV.mk (rz_str (by show 1 ≤ sizeLine; decide)))⟩))
    · obtain ⟨k, d, e, e', z⟩ := z
      obtain ⟨a, vs, rfl, h1, hl, h2⟩ := rx.dic
      obtain ⟨v, e2, rv⟩ := (valV_zip (k := k) h2 hl.1).1 d e'
      refine .inr (.inr (.inr ⟨a, v, rfl, .inl ⟨_, k, h1, key_v ry e, e2.symm⟩, z _ H r.aftRefl (RV.mk rv)⟩))
    · exact z.elim
theorem de_ix {a b : Expr} {ma mb : MI} {pos : Pos} {k : Nat} (ha : DI X W a ma cha) (hb : DI X W b mb chb) (hr : Room k X.A) (hs : PlainIx b := by exact fun _ _ => rfl) : DE X W (.Subscript a b pos) (mOp fIx ma mb) (cha + chb) := by
  obtain ⟨ta, pa, la⟩ := ha
  obtain ⟨tb, pb, lb⟩ := hb
  exact ⟨_, pe_ix (IxR.or' ix_list (IxR.or' ix_tup (IxR.or' ix_str (ix_dic (by have := hr.un; omega))))) pa pb hs, lift_op opD_ix la lb⟩
end
end G

namespace G
open PySem PySem.Spec PyProof.Rows L2
section
variable {X : Cx} {W : WX}
/-! ### slices -/
abbrev MO := Env → (Option Int → Prop) → (XC → Prop) → Prop
structure LiftO (X : Cx) (W : WX) (t : TO) (m : MO) (c : Nat) : Prop where
  mono : ∀ ε Q Q' Ex Ex', (∀ x, Q x → Q' x) → (∀ c, Ex c → Ex' c) → m ε Q Ex → m ε Q' Ex'
  run0 : ∀ B Z T H0 ε σ H (Q : Option Int → Hp → Prop) Ex, T + c ≤ LIM → RE X.K B Z T H0 ε σ H → XW X W Z (T + c) σ H Ex → m ε (fun b => ∀ H', Aft Z (T + c) H H' → Q b H') Ex → t σ H Q
theorem LiftO.run {c T T' : Nat} {t : TO} {m : MO} (l : LiftO X W t m c) (B Z H0 ε σ H) (Q : Option Int → Hp → Prop) (Ex) (r : RE X.K B Z T H0 ε σ H) (hx : XW X W Z T' σ H Ex)
    (q : m ε (fun b => ∀ H', Aft Z T' H H' → Q b H') Ex) (h1 : T + c ≤ T' := by omega) (h2 : T' ≤ LIM := by omega) : t σ H Q :=
  l.run0 B Z T H0 ε σ H Q Ex (by omega) r (hx.at _) (l.mono _ _ _ _ _ (fun iv q H' a => q H' a.up) (fun _ x => x) q)
def DO (X : Cx) (W : WX) (e : Option Expr) (m : MO) (c : Nat) : Prop := ∃ t, PO X e t ∧ LiftO X W t m c
def mNoPart : MO := fun _ Q _ => Q none
def onI (Q : Int → Prop) : D → Prop
  | .int i => Q i
  | _ => False
@[simp] theorem onI_int {Q : Int → Prop} {i : Int} : onI Q (.int i) = Q i := rfl
theorem onI_mono {Q Q' : Int → Prop} (h : ∀ d, Q d → Q' d) : ∀ d, onI Q d → onI Q' d := fun d q => by
  cases d <;> first | exact h _ q | exact q
def mPart (a : MI) : MO := fun ε Q Ex => a ε (onI fun i => Q (some i)) Ex
theorem do_none : DO X W none mNoPart 0 := ⟨_, po_none, fun _ _ _ _ _ hq _ q => hq _ q, fun _ _ _ _ _ _ H _ _ _ r _ q => q H r.aftRefl⟩
theorem do_some {e : Expr} {a : MI} (h : DI X W e a ch) : DO X W (some e) (mPart a) ch := by
  obtain ⟨t, p, l⟩ := h
  refine ⟨_, po_some p, fun ε Q Q' Ex Ex' hq hx q => l.mono ε _ _ _ _ (onI_mono fun i q => hq _ q) hx q, fun B Z T H0 ε σ H Q Ex hL r hx q => ?_⟩
  refine l.run B Z H0 ε σ H _ Ex r hx (l.mono ε _ _ _ _ (fun d q v H1 a1 rv => ?_) (fun _ x => x) q)
  cases d with
  | int i => exact ⟨i, rv.int, q H1 a1⟩
  | _ => exact q.elim
def cutL {α : Type} (xs : List α) (lo hi : Option Int) : List α := (xs.drop (HT.sIx xs.length 0 lo)).take (HT.sIx xs.length xs.length hi - HT.sIx xs.length 0 lo)
theorem cutL_length {α : Type} (xs : List α) (lo hi : Option Int) : (cutL xs lo hi).length ≤ xs.length := by
  unfold cutL
  rw [List.length_take, List.length_drop]
  omega
theorem Rzs.cut {K : Frag} {A : Av} {H : Hp} {ds : List D} {vs : List V} (h : Rzs K A H ds vs) (lo hi : Option Int) : Rzs K A H (cutL ds lo hi) (cutV vs lo hi) := by
  unfold cutL cutV
  rw [h.length]
  exact (h.drop _).take _
def fSl : D → Option Int → Option Int → (IV → Prop) → Prop
  | .lst ds, lo, hi, Q => Q (.fr (.lst (cutL ds lo hi)))
  | .tup ds, lo, hi, Q => Q (.fz (.tup (cutL ds lo hi)))
  | .str z, lo, hi, Q => Q (.fz (.str (cutS z lo hi)))
  | _, _, _, _ => False
def mSl (a : MI) (l h : MO) : ME := fun ε Q Ex => a ε (fun x => l ε (fun lo => h ε (fun hi => fSl x lo hi Q) Ex) Ex) Ex
theorem fSl_mono : ∀ x lo hi Q Q', (∀ v, Q v → Q' v) → fSl x lo hi Q → fSl x lo hi Q' := fun x lo hi Q Q' h q => by
  unfold fSl at q ⊢
  split at q
  · exact h _ q
  · exact h _ q
  · exact h _ q
  · exact q
abbrev rSlAll (K : Frag) : V → Option Int → Option Int → Hp → VK → Prop := fun x lo hi H Q => rSlL K x lo hi H Q ∨ rSlF K x lo hi H Q ∨ rSlS x lo hi H Q
theorem lift_sl {t : TE} {tl th : TO} {a : MI} {l h : MO} (la : LiftI X W t a cla) (ll : LiftO X W tl l cll) (lh : LiftO X W th h clh) : LiftE X W (tSl (rSlAll X.K) t tl th) (mSl a l h) (cla + cll + clh) := by
  refine ⟨fun ε Q Q' Ex Ex' hq hx q => la.mono ε _ _ _ _ (fun x q => ll.mono ε _ _ _ _ (fun y q => lh.mono ε _ _ _ _ (fun z q => fSl_mono _ _ _ _ _ hq q) hx q) hx q) hx q, fun B Z T H0 ε σ H Q Ex hL r hx q => ?_⟩
  refine la.run B Z H0 ε σ H _ Ex r (hx.at (T + cla)) (la.mono ε _ _ _ _ (fun dx q x H1 a1 r1 => ?_) (fun _ x => x) q)
  refine ll.run B Z H0 ε σ H1 _ Ex (r.aft a1) ((hx.at (T + (cla + cll))).aft a1) (ll.mono ε _ _ _ _ (fun lo q H2 a2 => ?_) (fun _ x => x) q)
  have a12 := a1.trans a2
  refine lh.run B Z H0 ε σ H2 _ Ex (r.aft a12) (hx.aft a12) (lh.mono ε _ _ _ _ (fun hi q H3 a3 => ?_) (fun _ x => x) q)
  have a13 := a12.trans a3
  have r3 := r.aft a13
  have rx := (r1.aft a2).aft a3
  show rSlAll X.K x lo hi H3 Q
  cases dx with
  | lst ds =>
    obtain ⟨a, vs, rfl, h1, hl, h2⟩ := rx.lst
    exact .inl ⟨a, vs, rfl, .of h1, fun p hp => q _ _ (a13.trans (Aft.new a13.z hp)) (RV.back a13 (r3.newLst hp (h2.cut lo hi) (Nat.le_trans (cutL_length _ _ _) hl)))⟩
  | tup ds =>
    obtain ⟨a, vs, rfl, h1, hl, h2⟩ := rx.tup
    refine .inr (.inl ⟨a, vs, rfl, h1.sq, fun hw => ?_, fun _ p o hp po => q _ _ (a13.trans (Aft.new a13.z hp)) (RV.mk (r3.newTup hp po (h2.cut lo hi) (Nat.le_trans (cutL_length _ _ _) hl)))⟩)
    rw [h2.length] at hw
    have e : cutL ds lo hi = ds := by unfold cutL; rw [hw.1, hw.2]; simp
    have q := q (.ref a) H3 a13
    rw [e] at q
    exact q (RV.mk rx.tupRz)
  | str z => exact .inr (.inr ⟨z, rx.str.1, rx.str.2, q _ _ a13 (RV.mk (rz_str (Nat.le_trans (cutS_length _ _ _) rx.str.2)))⟩)
  | _ => exact q.elim
theorem de_sl {e : Expr} {lo hi : Option Expr} {a : MI} {l h : MO} {p2 pos : Pos} (he : DI X W e a che) (hl : DO X W lo l chl) (hh : DO X W hi h chh) : DE X W (.Subscript e (.Slice lo hi none p2) pos) (mSl a l h) (che + chl + chh) := by
  obtain ⟨t, p, la⟩ := he
  obtain ⟨tl, pl, ll⟩ := hl
  obtain ⟨th, ph, lh⟩ := hh
  exact ⟨_, pe_slice (SlR.or sl_list (SlR.or sl_tupF sl_str)) p pl ph, lift_sl la ll lh⟩
/-- xs[::-1] -/
def mRev (a : MI) : ME := fun ε Q Ex => a ε (fun x => ∃ ds, x = .lst ds ∧ Q (.fr (.lst ds.reverse))) Ex
theorem Rzs.reverse {K : Frag} {A : Av} {H : Hp} : ∀ {ds : List D} {vs : List V}, Rzs K A H ds vs → Rzs K A H ds.reverse vs.reverse
  | [], vs, h => by simp only [Rzs] at h; subst h; exact .nil
  | d :: ds, vs, h => by
    simp only [Rzs] at h
    obtain ⟨v, r, rfl, h1, h2⟩ := h
    simp only [List.reverse_cons]
    exact h2.reverse.append (.one h1)
theorem de_rev {e : Expr} {a : MI} {k : Nat} {p1 p2 p3 pos : Pos} (he : DI X W e a che) : DE X W (.Subscript e (.Slice none none (some (.UnaryOp .USub (.Constant (.int 1) k p1) p2)) p3) pos) (mRev a) che := by
  obtain ⟨t, p, l⟩ := he
  refine ⟨_, pe_revL p, fun ε Q Q' Ex Ex' hq hx q => l.mono ε _ _ _ _ (fun x ⟨ds, e, q⟩ => ⟨ds, e, hq _ q⟩) hx q, fun B Z T H0 ε σ H Q Ex hL r hx q => ?_⟩
  refine l.run B Z H0 ε σ H _ Ex r hx (l.mono ε _ _ _ _ (fun x q v H1 a1 r1 => ?_) (fun _ x => x) q)
  obtain ⟨ds, rfl, q⟩ := q
  obtain ⟨b, vs, rfl, h1, hl, h2⟩ := r1.lst
  exact ⟨b, vs, rfl, .of h1, fun p hp => q _ _ (a1.trans (Aft.new a1.z hp)) (RV.back a1 ((r.aft a1).newLst hp h2.reverse (by rw [List.length_reverse]; exact hl)))⟩

/-! ### own functions -/
abbrev SpD := List IV → (IV → Prop) → (XC → Prop) → Prop
def SpMono (sp : SpD) : Prop := ∀ is Q Q' Ex Ex', (∀ x, Q x → Q' x) → (∀ c, Ex c → Ex' c) → sp is Q Ex → sp is Q' Ex'
def IV.ok : IV → Prop
  | .fz d => d.ok
  | .fr d => d.ok
  | .bo d => d.ok
  | .st => True
theorem RV.ok {K : Frag} {A : Av} {Z : Zt} {H H' : Hp} {v : V} {iv : IV} (h : RV K A Z H H' v iv) : iv.ok := by
  cases iv with
  | fz d => exact Rz.ok h
  | fr d => obtain ⟨p, _, _, h⟩ := h; exact h.ok
  | st => trivial
  | bo d => obtain ⟨p, _, _, _, h⟩ := h; exact h.ok
def ivsOk : List IV → Prop
  | [] => True
  | i :: is => i.ok ∧ ivsOk is
theorem RVs.ok {K : Frag} {A : Av} {Z : Zt} {H : Hp} : ∀ {is : List IV} {vs : List V}, RVs K A Z H is vs → ivsOk is
  | [], _, _ => trivial
  | i :: is, vs, h => by
    obtain ⟨v, r, rfl, h1, _, h2⟩ := h
    exact ⟨h1.ok, h2.ok⟩
theorem RVs.length {K : Frag} {A : Av} {Z : Zt} {H : Hp} : ∀ {is : List IV} {vs : List V}, RVs K A Z H is vs → vs.length = is.length
  | [], _, h => by simp only [RVs] at h; rw [h]; rfl
  | i :: is, vs, h => by
    obtain ⟨v, r, rfl, _, _, h2⟩ := h
    simp [h2.length]
theorem RVs.mapA {K : Frag} {A A' : Av} {Z : Zt} {H : Hp} (f : Kp A A' H H) (g : ∀ a, A a → A' a) : ∀ {is : List IV} {vs : List V}, RVs K A Z H is vs → RVs K A' Z H is vs
  | [], _, h => h
  | i :: is, vs, h => by
    obtain ⟨v, r, rfl, h1, n, h2⟩ := h
    refine ⟨v, r, rfl, ?_, n, h2.mapA f g⟩
    cases i with
    | fz d => exact Rz.map f h1
    | fr d => exact absurd rfl (n d)
    | st => exact h1
    | bo d => obtain ⟨p, e, k1, k2, k3⟩ := h1; exact ⟨p, e, g p k1, k2, k3.map f fun o x => x⟩
theorem RVs.append {K : Frag} {A : Av} {Z : Zt} {H : Hp} : ∀ {is js : List IV} {vs ws : List V}, RVs K A Z H is vs → RVs K A Z H js ws → RVs K A Z H (is ++ js) (vs ++ ws)
  | [], js, vs, ws, h, g => by simp only [RVs] at h; subst h; exact g
  | i :: is, js, vs, ws, h, g => by
    obtain ⟨v, r, rfl, h1, n, h2⟩ := h
    exact ⟨v, _, rfl, h1, n, h2.append g⟩
/-- a promise over data as one over values and heaps -/
def Lf (K : Frag) (mg : Str → Option Value) (sp : SpD) (c : Nat) : Sp := fun vs H Q E => ∃ (B : Av) (Z : Zt) (T : Nat) (is : List IV),
  T + c ≤ LIM ∧ RVs K (fun a => B a ∨ inZ Z a) Z H is vs ∧ ZOk Z T H ∧ (∀ a, B a → Lv H a) ∧ Z.2 = lamTabs K ∧
  sp is (fun iv => ∀ v H', Aft Z (T + c) H H' → RV K (fun a => B a ∨ inZ Z a) Z H H' v iv → Q v H') (fun ec => ∀ C H', mg ec = some (.ref C) → Aft Z (T + c) H H' → E (.ref C) none H')
/-- an own function: where it stands, what it promises -/
structure FnD (P : Program) (w : World) (K : Frag) (mg : Str → Option Value) (base : Heap) (k : Nat) (x : Str) (ps : List Str) (dds : List D) (sp : SpD) (c : Nat) : Prop where
  mono : SpMono sp
  ex : ∃ f fd, mg x = some (.ref f) ∧ PySem.W.keepIn K (.ref f) = true ∧ FnOk P w K mg base (L2.CX P w) k f fd ps (Lf K mg sp c) ∧ Binds K fd ps [] ∧
    (dds ≠ [] → ∃ dvs ds, RVs K (fun _ => False) (none, []) (fun _ => none) (dds.map .fz) dvs ∧ (∀ A Z H, RVs K A Z H (dds.map .fz) dvs) ∧ Vals dvs ds ∧ Binds K fd ps ds)
def mCall (sp : SpD) (a : MA) : ME := fun ε Q Ex => a ε (fun is => sp is (fun r => r.ok → Q r) Ex) Ex
/-- f(e, ..), the rest by defaults -/
def mCallD (sp : SpD) (dds : List D) (a : MA) : ME := fun ε Q Ex => a ε (fun is => sp (is ++ dds.map .fz) (fun r => r.ok → Q r) Ex) Ex
theorem avE_B {B : Av} {Z : Zt} {ε : Env} {σ : St} (a : Addr) : AvE B Z ε σ a ↔ ((B a ∨ Own ε σ a) ∨ inZ Z a) := by
  unfold AvE
  constructor
  · rintro (h | h | h)
    · exact .inl (.inl h)
    · exact .inr h
    · exact .inl (.inr h)
  · rintro ((h | h) | h)
    · exact .inl h
    · exact .inr (.inr h)
    · exact .inr (.inl h)
theorem RV.mapAv {K : Frag} {A A' : Av} {Z : Zt} {H H' : Hp} {v : V} {iv : IV} (h : RV K A Z H H' v iv) (e : ∀ a, A' a → A a) (e' : ∀ a, A a → A' a) : RV K A' Z H H' v iv := by
  cases iv with
  | fz d => exact Rz.map (.of fun a o n x => ⟨fun z => n (e a z), x⟩) h
  | fr d =>
    obtain ⟨p, h1, h2, h3⟩ := h
    exact ⟨p, h1, h2, h3.map (.of fun a o n x => ⟨fun z => n (z.elim (fun z => .inl (e a z)) .inr), x⟩) fun o x => x⟩
  | st => exact h
  | bo d => obtain ⟨p, h1, h2, h3, h4⟩ := h; exact ⟨p, h1, e' p h2, h3, h4.map (.of fun a o n x => ⟨fun z => n (e a z), x⟩) fun o x => x⟩
theorem lift_call {sp : SpD} {t : TA} {a : MA} {dvs : List V} {dds : List D} (ms : SpMono sp) (l : LiftA X W t a cl) (hd : ∀ A Z H, RVs X.K A Z H (dds.map .fz) dvs) :
    LiftE X W (tCallSD (Lf X.K X.mg sp c) dvs (WE W) t) (mCallD sp dds a) (cl + c) := by
  refine ⟨fun ε Q Q' Ex Ex' hq hx q => l.mono ε _ _ _ _ (fun is q => ms _ _ _ _ _ (fun r q z => hq _ (q z)) hx q) hx q, fun B Z T H0 ε σ H Q Ex hL r hx q => ?_⟩
  refine l.run B Z H0 ε σ H _ Ex r (hx.at (T + cl)) (l.mono ε _ _ _ _ (fun is q vs H1 a1 r1 => ?_) (fun _ x => x) q)
  have r' := r.aft a1
  have f : Kp (AvE B Z ε σ) (fun a => (B a ∨ Own ε σ a) ∨ inZ Z a) H1 H1 := .of fun a o n x => ⟨fun z => n ((avE_B a).mpr z), x⟩
  refine ⟨fun a => B a ∨ Own ε σ a, Z, T + cl, is ++ dds.map .fz, by omega, (r1.append (hd _ _ _)).mapA f fun a z => (avE_B a).mp z, a1.z, fun b hb => ?_, r.tb, ms _ _ _ _ _ (fun iv q v H2 a2 rv => ?_) (fun c q C H2 m a2 => ?_) q⟩
  · exact r'.trkA ((avE_B b).mpr (.inl hb))
  · exact q rv.ok v H2 (a1.trans a2).up ((rv.mapAv (fun a z => (avE_B a).mp z) fun a z => (avE_B a).mpr z).back a1)
  · exact hx _ C H2 q m (a1.trans a2.up)
theorem de_call {k j : Nat} {x : Str} {ps : List Str} {dds : List D} {sp : SpD} {e : Expr} {es : List Expr} {a : MA} {p pos : Pos} (F : FnD X.prog X.w X.K X.mg X.base j x ps dds sp c) (tk : Takes X W) (hr : Room k X.A)
    (ha : DA X W (e :: es) a cha) (hj : j ≤ k := by decide) (hg : Gl X x := by rfl) (hdb : (x == ("__debug__" : Str)) = false := by decide) (he : starEach (e :: es) X.env = (false, eval e X.env) :: starEach es X.env := by rfl) (hpl : (backTo pos (starEach es X.env)).any (·.1) = false := by rfl) :
    DE X W (.Call (.Name x p) (e :: es) [] pos) (mCall sp a) (cha + c) := by
  obtain ⟨t, pa, la⟩ := ha
  obtain ⟨f, fd, h1, h2, h3, h4, _⟩ := F.ex
  refine ⟨_, pe_callSD h3 (hr.mono hj) hg h1 h2 h4 .nil (fun σ => passAt tk σ) pa hdb he hpl, ?_⟩
  have z := lift_call (c := c) (dds := []) (dvs := []) F.mono la (fun A Z H => rfl)
  have e2 : mCallD sp [] a = mCall sp a := by
    funext ε Q Ex
    unfold mCallD mCall
    simp
  rw [e2] at z
  exact z
theorem de_callD {k j : Nat} {x : Str} {ps : List Str} {dds : List D} {sp : SpD} {e : Expr} {es : List Expr} {a : MA} {p pos : Pos} (F : FnD X.prog X.w X.K X.mg X.base j x ps dds sp c) (tk : Takes X W) (hr : Room k X.A)
    (ha : DA X W (e :: es) a cha) (hn : dds ≠ [] := by simp) (hj : j ≤ k := by decide) (hg : Gl X x := by rfl) (hdb : (x == ("__debug__" : Str)) = false := by decide) (he : starEach (e :: es) X.env = (false, eval e X.env) :: starEach es X.env := by rfl) (hpl : (backTo pos (starEach es X.env)).any (·.1) = false := by rfl) :
    DE X W (.Call (.Name x p) (e :: es) [] pos) (mCallD sp dds a) (cha + c) := by
  obtain ⟨t, pa, la⟩ := ha
  obtain ⟨f, fd, h1, h2, h3, _, h5⟩ := F.ex
  obtain ⟨dvs, ds, _, d2, d3, d4⟩ := h5 hn
  exact ⟨_, pe_callSD h3 (hr.mono hj) hg h1 h2 d4 d3 (fun σ => passAt tk σ) pa hdb he hpl, lift_call F.mono la d2⟩

/-! ### built-in functions of values that are looked at -/
/-- looked-at values in a row -/
def RIs (K : Frag) (A : Av) (Z : Zt) (H : Hp) : List D → List V → Prop
  | [], vs => vs = []
  | d :: ds, vs => ∃ v r, vs = v :: r ∧ RI K A Z H d v ∧ RIs K A Z H ds r
abbrev MJ := Env → (List D → Prop) → (XC → Prop) → Prop
structure LiftJ (X : Cx) (W : WX) (t : TA) (m : MJ) (c : Nat) : Prop where
  mono : ∀ ε Q Q' Ex Ex', (∀ x, Q x → Q' x) → (∀ c, Ex c → Ex' c) → m ε Q Ex → m ε Q' Ex'
  run0 : ∀ B Z T H0 ε σ H (Q : List V → Hp → Prop) Ex, T + c ≤ LIM → RE X.K B Z T H0 ε σ H → XW X W Z (T + c) σ H Ex →
    m ε (fun ds => ∀ vs H', Aft Z (T + c) H H' → RIs X.K (AvE B Z ε σ) Z H' ds vs → Q vs H') Ex → t σ H Q
theorem LiftJ.run {c T T' : Nat} {t : TA} {m : MJ} (l : LiftJ X W t m c) (B Z H0 ε σ H) (Q : List V → Hp → Prop) (Ex) (r : RE X.K B Z T H0 ε σ H) (hx : XW X W Z T' σ H Ex)
    (q : m ε (fun ds => ∀ vs H', Aft Z T' H H' → RIs X.K (AvE B Z ε σ) Z H' ds vs → Q vs H') Ex) (h1 : T + c ≤ T' := by omega) (h2 : T' ≤ LIM := by omega) : t σ H Q :=
  l.run0 B Z T H0 ε σ H Q Ex (by omega) r (hx.at _) (l.mono _ _ _ _ _ (fun iv q v H' a rv => q v H' a.up rv) (fun _ x => x) q)
def DJ (X : Cx) (W : WX) (es : List Expr) (m : MJ) (c : Nat) : Prop := ∃ t, PA X es t ∧ LiftJ X W t m c
def jNil : MJ := fun _ Q _ => Q []
def jCons (a : MI) (b : MJ) : MJ := fun ε Q Ex => a ε (fun x => b ε (fun xs => Q (x :: xs)) Ex) Ex
theorem dj_nil : DJ X W [] jNil 0 := ⟨_, pa_nil, fun _ _ _ _ _ hq _ q => hq _ q, fun _ _ _ _ _ _ H _ _ _ r _ q => q [] H r.aftRefl rfl⟩
theorem RIs.aft {K : Frag} {B : Av} {Z : Zt} {T : Nat} {H H' : Hp} {ε : Env} {σ : St} (x : Aft Z T H H') : ∀ {ds : List D} {vs : List V}, RIs K (AvE B Z ε σ) Z H ds vs → RIs K (AvE B Z ε σ) Z H' ds vs
  | [], _, h => h
  | d :: ds, vs, h => by
    obtain ⟨v, r, rfl, h1, h2⟩ := h
    exact ⟨v, r, rfl, h1.aft x, h2.aft x⟩
theorem dj_cons {e : Expr} {es : List Expr} {a : MI} {b : MJ} (ha : DI X W e a cha) (hb : DJ X W es b chb) (hs : starEach (e :: es) X.env = (false, eval e X.env) :: starEach es X.env := by rfl) : DJ X W (e :: es) (jCons a b) (cha + chb) := by
  obtain ⟨ta, pa, la⟩ := ha
  obtain ⟨tb, pb, lb⟩ := hb
  refine ⟨_, pa_cons pa pb hs, fun ε Q Q' Ex Ex' hq hx q => la.mono ε _ _ _ _ (fun x q => lb.mono ε _ _ _ _ (fun y q => hq _ q) hx q) hx q, fun B Z T H0 ε σ H Q Ex hL r hx q => ?_⟩
  refine la.run B Z H0 ε σ H _ Ex r (hx.at (T + cha)) (la.mono ε _ _ _ _ (fun d q x H1 a1 r1 => ?_) (fun _ x => x) q)
  refine lb.run B Z H0 ε σ H1 _ Ex (r.aft a1) (hx.aft a1) (lb.mono ε _ _ _ _ (fun is q vs H2 a2 r2 => ?_) (fun _ x => x) q)
  exact q (x :: vs) H2 (a1.trans a2) ⟨x, vs, rfl, r1.aft a2, r2⟩
/-- what a built-in's rule does to data -/
structure CbD (X : Cx) (r : List V → Hp → VK → Prop) (f : List D → (IV → Prop) → Prop) : Prop where
  mono : ∀ x Q Q', (∀ v, Q v → Q' v) → f x Q → f x Q'
  run : ∀ B Z T H0 ε σ H xs ds (Q : VK), RE X.K B Z T H0 ε σ H → RIs X.K (AvE B Z ε σ) Z H ds xs →
    f ds (fun iv => ∀ v H', Aft Z T H H' → RV X.K (AvE B Z ε σ) Z H H' v iv → Q v H') → r xs H Q
def mCB (f : List D → (IV → Prop) → Prop) (a : MJ) : ME := fun ε Q Ex => a ε (fun xs => f xs Q) Ex
theorem lift_cb {t : TA} {a : MJ} {r f} (o : CbD X r f) (l : LiftJ X W t a cl) : LiftE X W (tCB r t) (mCB f a) cl := by
  refine ⟨fun ε Q Q' Ex Ex' hq hx q => l.mono ε _ _ _ _ (fun x q => o.mono _ _ _ hq q) hx q, fun B Z T H0 ε σ H Q Ex hL r hx q => ?_⟩
  refine l.run B Z H0 ε σ H _ Ex r (hx.at (T + cl)) (l.mono ε _ _ _ _ (fun ds q vs H1 a1 r1 => ?_) (fun _ x => x) q)
  exact o.run B Z _ H0 ε σ H1 vs ds Q (r.aft a1) r1 (o.mono _ _ _ (fun iv q v H2 a2 rv => q v H2 (a1.trans a2) (rv.back a1)) q)
theorem de_cb {id : String} {x : Str} {r f} {e : Expr} {es : List Expr} {a : MJ} {p pos : Pos} (hc : CallR X (.builtin id) r) (o : CbD X r f) (hm : X.mg x = none) (hv : bootBuiltins x = some (.builtin id)) (ha : DJ X W (e :: es) a cha) (hg : Gl X x := by rfl)
    (hn : x ≠ "__name__" := by decide) (hdb : (x == ("__debug__" : Str)) = false := by decide) (he : starEach (e :: es) X.env = (false, eval e X.env) :: starEach es X.env := by rfl) (hpl : (backTo pos (starEach es X.env)).any (·.1) = false := by rfl) :
    DE X W (.Call (.Name x p) (e :: es) [] pos) (mCB f a) cha := by
  obtain ⟨t, pa, la⟩ := ha
  exact ⟨_, pe_callB hc hg hm hv pa hn hdb he hpl, lift_cb o la⟩
theorem de_ct {T : String} {x : Str} {r f} {e : Expr} {es : List Expr} {a : MJ} {p pos : Pos} (hc : CallR X (.type T) r) (o : CbD X r f) (hm : X.mg x = none) (hv : bootBuiltins x = some (.type T)) (ha : DJ X W (e :: es) a cha) (hg : Gl X x := by rfl)
    (hn : x ≠ "__name__" := by decide) (hdb : (x == ("__debug__" : Str)) = false := by decide) (he : starEach (e :: es) X.env = (false, eval e X.env) :: starEach es X.env := by rfl) (hpl : (backTo pos (starEach es X.env)).any (·.1) = false := by rfl) :
    DE X W (.Call (.Name x p) (e :: es) [] pos) (mCB f a) cha := by
  obtain ⟨t, pa, la⟩ := ha
  exact ⟨_, pe_callTy hc hg hm hv pa hn hdb he hpl, lift_cb o la⟩
theorem CbD.of {r : List V → Hp → VK → Prop} {f : List D → (IV → Prop) → Prop} (m : ∀ x Q Q', (∀ v, Q v → Q' v) → f x Q → f x Q')
    (h : ∀ B Z T H0 ε σ H xs ds (Q : VK), RE X.K B Z T H0 ε σ H → RIs X.K (AvE B Z ε σ) Z H ds xs → f ds (fun iv => ∀ v H', Aft Z T H H' → RV X.K (AvE B Z ε σ) Z H H' v iv → Q v H') → r xs H Q) : CbD X r f := ⟨m, h⟩
end
end G

namespace G
open PySem PySem.Spec PyProof.Rows L2
section
variable {X : Cx} {W : WX}
theorem RIs.one {K : Frag} {A : Av} {Z : Zt} {H : Hp} {d : D} {vs : List V} (h : RIs K A Z H [d] vs) : ∃ v, vs = [v] ∧ RI K A Z H d v := by
  obtain ⟨v, r, rfl, h1, h2⟩ := h
  simp only [RIs] at h2
  subst h2
  exact ⟨v, rfl, h1⟩
theorem RIs.two {K : Frag} {A : Av} {Z : Zt} {H : Hp} {d e : D} {vs : List V} (h : RIs K A Z H [d, e] vs) : ∃ v w, vs = [v, w] ∧ RI K A Z H d v ∧ RI K A Z H e w := by
  obtain ⟨v, r, rfl, h1, h2⟩ := h
  obtain ⟨w, rfl, h3⟩ := RIs.one h2
  exact ⟨v, w, rfl, h1, h3⟩

/-! ### len, abs, int -/
def fLen : List D → (IV → Prop) → Prop
  | [.str z], Q => Q (.fz (.int z.length))
  | [.lst ds], Q => Q (.fz (.int ds.length))
  | [.tup ds], Q => Q (.fz (.int ds.length))
  | _, _ => False
theorem cbD_len : CbD X (fun xs H Q => ∃ x n, xs = [x] ∧ LenV X.K x H n ∧ Q (.int n) H) fLen := by
  refine ⟨fun x Q Q' h q => ?_, fun B Z T H0 ε σ H xs ds Q r rs q => ?_⟩
  · unfold fLen at q ⊢
    split at q <;> first | exact h _ q | exact q
  · unfold fLen at q
    split at q
    · obtain ⟨v, rfl, h⟩ := rs.one
      exact ⟨v, _, rfl, by rw [h.str.1]; exact ⟨h.str.2, rfl⟩, q _ H r.aftRefl (RV.mk rz_int)⟩
    · obtain ⟨v, rfl, h⟩ := rs.one
      obtain ⟨a, vs, rfl, h1, _, h2⟩ := h.lst
      exact ⟨_, _, rfl, .inl ⟨vs, .of h1, h2.length.symm⟩, q _ H r.aftRefl (RV.mk rz_int)⟩
    · obtain ⟨v, rfl, h⟩ := rs.one
      obtain ⟨a, vs, rfl, h1, _, h2⟩ := h.tup
      exact ⟨_, _, rfl, .inr ⟨vs, h1.sq, h2.length.symm⟩, q _ H r.aftRefl (RV.mk rz_int)⟩
    · exact q.elim
section
variable {e e2 : Expr} {a : MJ} {p pos : Pos}
theorem de_len (hm : X.mg "len" = none) (ha : DJ X W [e] a cha) (hg : Gl X "len" := by rfl)
    (he : starEach (e :: []) X.env = (false, eval e X.env) :: starEach [] X.env := by rfl) (hpl : (backTo pos (starEach [] X.env)).any (·.1) = false := by rfl) : DE X W (.Call (.Name "len" p) [e] [] pos) (mCB fLen a) cha :=
  de_cb call_len cbD_len hm PySem.boot_len ha hg (by decide) (by decide) he hpl
/-- len of the law's script -/
def mLenS (i : Nat) : ME := fun ε Q _ => match ε[i]? with
  | some (.sc ns) => Q (.fz (.int ns.length))
  | _ => False
theorem de_lenS (i : Nat) {x : Str} {p2 : Pos} (hm : X.mg "len" = none) (hN : X.N[i]? = some x := by rfl) (hv : Vis X.env.scope x := by first | exact Or.inl rfl | exact Or.inr (Or.inl rfl) | exact Or.inr (Or.inr rfl)) (hd : (x == ("__debug__" : Str)) = false := by decide)
    (hcd : (x == ("__classdict__" : Str)) = false := by decide) (hg : Gl X "len" := by rfl)
    (he : starEach (.Name x p2 :: []) X.env = (false, eval (.Name x p2) X.env) :: starEach [] X.env := by rfl) (hpl : (backTo pos (starEach [] X.env)).any (·.1) = false := by rfl) : DE X W (.Call (.Name "len" p) [.Name x p2] [] pos) (mLenS i) 0 := by
  refine ⟨_, pe_callB call_len hg hm PySem.boot_len (pa_cons (pe_var hN hv hd hcd) pa_nil) (by decide) (by decide) he hpl, fun ε Q Q' Ex Ex' hq hx q => ?_, fun B Z T H0 ε σ H Q Ex hL r hx q => ?_⟩
  · unfold mLenS at q ⊢
    split at q <;> first | exact hq _ q | exact q
  · unfold mLenS at q
    split at q
    · rename_i ns e
      obtain ⟨b, h1, h2⟩ := r.slot i _ e
      have h3 : SqL X.K H b (ns.map V.int) := h2.elim (fun ⟨_, h⟩ => .inl h) .inr
      refine ⟨_, h1, _, _, rfl, .inl ⟨_, h3, rfl⟩, ?_⟩
      rw [List.length_map]
      exact q _ H r.aftRefl (RV.mk rz_int)
    · exact q.elim
def fAbs : List D → (IV → Prop) → Prop
  | [.int i], Q => Q (.fz (.int (if i < 0 then -i else i)))
  | _, _ => False
theorem cbD_abs : CbD X (fun xs H Q => ∃ i, xs = [.int i] ∧ Q (.int (if i < 0 then -i else i)) H) fAbs := by
  refine ⟨fun x Q Q' h q => ?_, fun B Z T H0 ε σ H xs ds Q r rs q => ?_⟩
  · unfold fAbs at q ⊢
    split at q <;> first | exact h _ q | exact q
  · unfold fAbs at q
    split at q
    · obtain ⟨v, rfl, h⟩ := rs.one
      exact ⟨_, by rw [h.int], q _ H r.aftRefl (RV.mk rz_int)⟩
    · exact q.elim
theorem de_abs (hm : X.mg "abs" = none) (ha : DJ X W [e] a cha) (hg : Gl X "abs" := by rfl)
    (he : starEach (e :: []) X.env = (false, eval e X.env) :: starEach [] X.env := by rfl) (hpl : (backTo pos (starEach [] X.env)).any (·.1) = false := by rfl) : DE X W (.Call (.Name "abs" p) [e] [] pos) (mCB fAbs a) cha :=
  de_cb call_abs cbD_abs hm boot_abs ha hg (by decide) (by decide) he hpl
def fInt : List D → (IV → Prop) → Prop
  | [.int i], Q => Q (.fz (.int i))
  | [.bl b], Q => Q (.fz (.int (if b then 1 else 0)))
  | [.str z], Q => ∃ n, PySem.intText? z = some n ∧ z.length ≤ 640 ∧ Q (.fz (.int n))
  | _, _ => False
abbrev rInt : List V → Hp → VK → Prop := fun xs H Q => (fun xs H Q => (∃ i, xs = [V.int i] ∧ Q (.int i) H) ∨ ∃ k, xs = [.bl k] ∧ Q (.int (if k then 1 else 0)) H) xs H Q ∨ (∃ (a : Str) (n : Int), xs = [.str a] ∧ PySem.intText? a = some n ∧ a.length ≤ 640 ∧ Q (.int n) H)
theorem call_intA : CallR X (.type "int") rInt := CallR.or call_int1 call_int_str
theorem cbD_int : CbD X rInt fInt := by
  refine ⟨fun x Q Q' h q => ?_, fun B Z T H0 ε σ H xs ds Q r rs q => ?_⟩
  · unfold fInt at q ⊢
    split at q
    · exact h _ q
    · exact h _ q
    · obtain ⟨n, e1, e2, q⟩ := q; exact ⟨n, e1, e2, h _ q⟩
    · exact q
  · unfold fInt at q
    split at q
    · obtain ⟨v, rfl, h⟩ := rs.one
      exact .inl (.inl ⟨_, by rw [h.int], q _ H r.aftRefl (RV.mk rz_int)⟩)
    · obtain ⟨v, rfl, h⟩ := rs.one
      exact .inl (.inr ⟨_, by rw [h.bl], q _ H r.aftRefl (RV.mk rz_int)⟩)
    · obtain ⟨v, rfl, h⟩ := rs.one
      obtain ⟨n, e1, e2, q⟩ := q
      exact .inr ⟨_, n, by rw [h.str.1], e1, e2, q _ H r.aftRefl (RV.mk rz_int)⟩
    · exact q.elim
theorem de_intc (hm : X.mg "int" = none) (ha : DJ X W [e] a cha) (hg : Gl X "int" := by rfl)
    (he : starEach (e :: []) X.env = (false, eval e X.env) :: starEach [] X.env := by rfl) (hpl : (backTo pos (starEach [] X.env)).any (·.1) = false := by rfl) : DE X W (.Call (.Name "int" p) [e] [] pos) (mCB fInt a) cha :=
  de_ct call_intA cbD_int hm boot_int ha hg (by decide) (by decide) he hpl
def fMin : List D → (IV → Prop) → Prop
  | [.int i, .int j], Q => Q (.fz (.int (if j < i then j else i)))
  | _, _ => False
theorem cbD_min : CbD X (fun xs H Q => ∃ i j, xs = [.int i, .int j] ∧ Q (.int (if j < i then j else i)) H) fMin := by
  refine ⟨fun x Q Q' h q => ?_, fun B Z T H0 ε σ H xs ds Q r rs q => ?_⟩
  · unfold fMin at q ⊢
    split at q <;> first | exact h _ q | exact q
  · unfold fMin at q
    split at q
    · obtain ⟨v, w, rfl, h, g⟩ := rs.two
      exact ⟨_, _, by rw [h.int, g.int], q _ H r.aftRefl (RV.mk rz_int)⟩
    · exact q.elim
theorem de_min (hc : X.calm = true) (hm : X.mg "min" = none) (ha : DJ X W [e, e2] a cha) (hg : Gl X "min" := by rfl)
    (he : starEach (e :: [e2]) X.env = (false, eval e X.env) :: starEach [e2] X.env := by rfl) (hpl : (backTo pos (starEach [e2] X.env)).any (·.1) = false := by rfl) : DE X W (.Call (.Name "min" p) [e, e2] [] pos) (mCB fMin a) cha :=
  de_cb (call_min2 hc) cbD_min hm boot_min ha hg (by decide) (by decide) he hpl
def fMax : List D → (IV → Prop) → Prop
  | [.int i, .int j], Q => Q (.fz (.int (if j > i then j else i)))
  | _, _ => False
theorem cbD_max : CbD X (fun xs H Q => ∃ i j, xs = [.int i, .int j] ∧ Q (.int (if j > i then j else i)) H) fMax := by
  refine ⟨fun x Q Q' h q => ?_, fun B Z T H0 ε σ H xs ds Q r rs q => ?_⟩
  · unfold fMax at q ⊢
    split at q <;> first | exact h _ q | exact q
  · unfold fMax at q
    split at q
    · obtain ⟨v, w, rfl, h, g⟩ := rs.two
      exact ⟨_, _, by rw [h.int, g.int], q _ H r.aftRefl (RV.mk rz_int)⟩
    · exact q.elim
theorem de_max (hc : X.calm = true) (hm : X.mg "max" = none) (ha : DJ X W [e, e2] a cha) (hg : Gl X "max" := by rfl)
    (he : starEach (e :: [e2]) X.env = (false, eval e X.env) :: starEach [e2] X.env := by rfl) (hpl : (backTo pos (starEach [e2] X.env)).any (·.1) = false := by rfl) : DE X W (.Call (.Name "max" p) [e, e2] [] pos) (mCB fMax a) cha :=
  de_cb (call_max2 hc) cbD_max hm boot_max ha hg (by decide) (by decide) he hpl

/-! ### list(..), tuple(..) -/
def fList : List D → (IV → Prop) → Prop
  | [.lst ds], Q => Q (.fr (.lst ds))
  | [.tup ds], Q => Q (.fr (.lst ds))
  | _, _ => False
theorem cbD_list : CbD X (fun xs H Q => ∃ p ys, xs = [.ref p] ∧ (SqL X.K H p ys ∨ SqT X.K H p ys) ∧ ∀ l, H l = none → Q (.ref l) (upd H l (.lst ys))) fList := by
  refine ⟨fun x Q Q' h q => ?_, fun B Z T H0 ε σ H xs ds Q r rs q => ?_⟩
  · unfold fList at q ⊢
    split at q <;> first | exact h _ q | exact q
  · unfold fList at q
    split at q
    · obtain ⟨v, rfl, h⟩ := rs.one
      obtain ⟨a, vs, rfl, h1, hl, h2⟩ := h.lst
      exact ⟨a, vs, rfl, .inl (.of h1), fun l hn => q _ _ (Aft.new r.z hn) (r.newLst hn h2 hl)⟩
    · obtain ⟨v, rfl, h⟩ := rs.one
      obtain ⟨a, vs, rfl, h1, hl, h2⟩ := h.tup
      exact ⟨a, vs, rfl, .inr h1.sq, fun l hn => q _ _ (Aft.new r.z hn) (r.newLst hn h2 hl)⟩
    · exact q.elim
theorem de_list (hm : X.mg "list" = none) (ha : DJ X W [e] a cha) (hg : Gl X "list" := by rfl)
    (he : starEach (e :: []) X.env = (false, eval e X.env) :: starEach [] X.env := by rfl) (hpl : (backTo pos (starEach [] X.env)).any (·.1) = false := by rfl) : DE X W (.Call (.Name "list" p) [e] [] pos) (mCB fList a) cha :=
  de_ct call_list_of cbD_list hm boot_list ha hg (by decide) (by decide) he hpl
def fTuple : List D → (IV → Prop) → Prop
  | [.lst ds], Q => Q (.fz (.tup ds))
  | [.tup ds], Q => Q (.fz (.tup ds))
  | _, _ => False
theorem cbD_tuple : CbD X (rTupleF X.K) fTuple := by
  refine ⟨fun x Q Q' h q => ?_, fun B Z T H0 ε σ H xs ds Q r rs q => ?_⟩
  · unfold fTuple at q ⊢
    split at q <;> first | exact h _ q | exact q
  · unfold fTuple at q
    split at q
    · obtain ⟨v, rfl, h⟩ := rs.one
      obtain ⟨a, vs, rfl, h1, hl, h2⟩ := h.lst
      exact ⟨a, vs, rfl, .inl ⟨.of h1, fun l o hn po => q _ _ (Aft.new r.z hn) (RV.mk (r.newTup hn po h2 hl))⟩⟩
    · obtain ⟨v, rfl, h⟩ := rs.one
      obtain ⟨a, vs, rfl, h1, hl, h2⟩ := h.tup
      exact ⟨a, vs, rfl, .inr ⟨h1.sq, q _ H r.aftRefl (RV.mk h.tupRz)⟩⟩
    · exact q.elim
theorem de_tuple (hm : X.mg "tuple" = none) (ha : DJ X W [e] a cha) (hg : Gl X "tuple" := by rfl)
    (he : starEach (e :: []) X.env = (false, eval e X.env) :: starEach [] X.env := by rfl) (hpl : (backTo pos (starEach [] X.env)).any (·.1) = false := by rfl) : DE X W (.Call (.Name "tuple" p) [e] [] pos) (mCB fTuple a) cha :=
  de_ct call_tupleF cbD_tuple hm boot_tuple ha hg (by decide) (by decide) he hpl

/-! ### all, any, sum of lists -/
def dBls : List D → Option (List Bool)
  | [] => some []
  | .bl b :: ds => (dBls ds).map (b :: ·)
  | _ => none
def dInts : List D → Option (List Int)
  | [] => some []
  | .int b :: ds => (dInts ds).map (b :: ·)
  | _ => none
def dStrs : List D → Option (List Str)
  | [] => some []
  | .str b :: ds => (dStrs ds).map (b :: ·)
  | _ => none
@[simp] theorem dBls_map (bs : List Bool) : dBls (bs.map D.bl) = some bs := by induction bs with
  | nil => rfl
  | cons b bs ih => simp [dBls, ih]
@[simp] theorem dInts_map (bs : List Int) : dInts (bs.map D.int) = some bs := by induction bs with
  | nil => rfl
  | cons b bs ih => simp [dInts, ih]
@[simp] theorem dStrs_map (bs : List Str) : dStrs (bs.map D.str) = some bs := by induction bs with
  | nil => rfl
  | cons b bs ih => simp [dStrs, ih]
theorem dBls_eq : ∀ {ds : List D} {bs : List Bool}, dBls ds = some bs → ds = bs.map D.bl
  | [], bs, h => by cases h; rfl
  | .bl b :: ds, bs, h => by
    simp only [dBls] at h
    cases q : dBls ds with
    | none => rw [q] at h; cases h
    | some cs => rw [q] at h; cases h; rw [dBls_eq q]; rfl
  | .non :: _, _, h => by cases h
  | .int _ :: _, _, h => by cases h
  | .str _ :: _, _, h => by cases h
  | .tup _ :: _, _, h => by cases h
  | .lst _ :: _, _, h => by cases h
  | .dic _ _ :: _, _, h => by cases h
  | .exc _ :: _, _, h => by cases h
theorem dInts_eq : ∀ {ds : List D} {bs : List Int}, dInts ds = some bs → ds = bs.map D.int
  | [], bs, h => by cases h; rfl
  | .int b :: ds, bs, h => by
    simp only [dInts] at h
    cases q : dInts ds with
    | none => rw [q] at h; cases h
    | some cs => rw [q] at h; cases h; rw [dInts_eq q]; rfl
  | .non :: _, _, h => by cases h
  | .bl _ :: _, _, h => by cases h
  | .str _ :: _, _, h => by cases h
  | .tup _ :: _, _, h => by cases h
  | .lst _ :: _, _, h => by cases h
  | .dic _ _ :: _, _, h => by cases h
  | .exc _ :: _, _, h => by cases h
theorem dStrs_eq : ∀ {ds : List D} {bs : List Str}, dStrs ds = some bs → ds = bs.map D.str
  | [], bs, h => by cases h; rfl
  | .str b :: ds, bs, h => by
    simp only [dStrs] at h
    cases q : dStrs ds with
    | none => rw [q] at h; cases h
    | some cs => rw [q] at h; cases h; rw [dStrs_eq q]; rfl
  | .non :: _, _, h => by cases h
  | .bl _ :: _, _, h => by cases h
  | .int _ :: _, _, h => by cases h
  | .tup _ :: _, _, h => by cases h
  | .lst _ :: _, _, h => by cases h
  | .dic _ _ :: _, _, h => by cases h
  | .exc _ :: _, _, h => by cases h
theorem Rzs.bls {K : Frag} {A : Av} {H : Hp} : ∀ {bs : List Bool} {vs : List V}, Rzs K A H (bs.map D.bl) vs → vs = bs.map V.bl
  | [], vs, h => by simpa only [List.map_nil, Rzs] using h
  | b :: bs, vs, h => by
    simp only [List.map_cons, Rzs, Rz] at h
    obtain ⟨v, r, rfl, rfl, h2⟩ := h
    rw [Rzs.bls h2]; rfl
theorem Rzs.ints {K : Frag} {A : Av} {H : Hp} : ∀ {bs : List Int} {vs : List V}, Rzs K A H (bs.map D.int) vs → vs = bs.map V.int
  | [], vs, h => by simpa only [List.map_nil, Rzs] using h
  | b :: bs, vs, h => by
    simp only [List.map_cons, Rzs, Rz] at h
    obtain ⟨v, r, rfl, rfl, h2⟩ := h
    rw [Rzs.ints h2]; rfl
theorem Rzs.strs {K : Frag} {A : Av} {H : Hp} : ∀ {bs : List Str} {vs : List V}, Rzs K A H (bs.map D.str) vs → vs = bs.map V.str
  | [], vs, h => by simpa only [List.map_nil, Rzs] using h
  | b :: bs, vs, h => by
    simp only [List.map_cons, Rzs, Rz] at h
    obtain ⟨v, r, rfl, ⟨rfl, _⟩, h2⟩ := h
    rw [Rzs.strs h2]; rfl
theorem rzs_ints {K : Frag} {A : Av} {H : Hp} : ∀ {bs : List Int}, Rzs K A H (bs.map D.int) (bs.map V.int)
  | [] => .nil
  | b :: bs => .cons rz_int rzs_ints
theorem rzs_strs {K : Frag} {A : Av} {H : Hp} : ∀ {bs : List Str}, (∀ b ∈ bs, b.length ≤ sizeLine) → Rzs K A H (bs.map D.str) (bs.map V.str)
  | [], _ => .nil
  | b :: bs, h => .cons (rz_str (h b (List.mem_cons_self ..))) (rzs_strs fun c hc => h c (List.mem_cons_of_mem _ hc))
def fAll : List D → (IV → Prop) → Prop
  | [.lst ds], Q => ∃ bs, dBls ds = some bs ∧ Q (.fz (.bl (bs.all id)))
  | _, _ => False
def fAny : List D → (IV → Prop) → Prop
  | [.lst ds], Q => ∃ bs, dBls ds = some bs ∧ Q (.fz (.bl (bs.any id)))
  | _, _ => False
def fSum : List D → (IV → Prop) → Prop
  | [.lst ds], Q => ∃ bs, dInts ds = some bs ∧ Q (.fz (.int bs.sum))
  | _, _ => False
theorem cbD_all : CbD X (rAll X.K) fAll := by
  refine ⟨fun x Q Q' h q => ?_, fun B Z T H0 ε σ H xs ds Q r rs q => ?_⟩
  · unfold fAll at q ⊢
    split at q
    · obtain ⟨bs, e, q⟩ := q; exact ⟨bs, e, h _ q⟩
    · exact q
  · unfold fAll at q
    split at q
    · obtain ⟨bs, e, q⟩ := q
      obtain ⟨v, rfl, h⟩ := rs.one
      obtain ⟨a, vs, rfl, h1, _, h2⟩ := h.lst
      rw [dBls_eq e] at h2
      exact ⟨a, bs, rfl, .of (by rw [← h2.bls]; exact h1), q _ H r.aftRefl (RV.mk rz_bl)⟩
    · exact q.elim
theorem cbD_any : CbD X (rAny X.K) fAny := by
  refine ⟨fun x Q Q' h q => ?_, fun B Z T H0 ε σ H xs ds Q r rs q => ?_⟩
  · unfold fAny at q ⊢
    split at q
    · obtain ⟨bs, e, q⟩ := q; exact ⟨bs, e, h _ q⟩
    · exact q
  · unfold fAny at q
    split at q
    · obtain ⟨bs, e, q⟩ := q
      obtain ⟨v, rfl, h⟩ := rs.one
      obtain ⟨a, vs, rfl, h1, _, h2⟩ := h.lst
      rw [dBls_eq e] at h2
      exact ⟨a, bs, rfl, .of (by rw [← h2.bls]; exact h1), q _ H r.aftRefl (RV.mk rz_bl)⟩
    · exact q.elim
theorem cbD_sum : CbD X (rSum X.K) fSum := by
  refine ⟨fun x Q Q' h q => ?_, fun B Z T H0 ε σ H xs ds Q r rs q => ?_⟩
  · unfold fSum at q ⊢
    split at q
    · obtain ⟨bs, e, q⟩ := q; exact ⟨bs, e, h _ q⟩
    · exact q
  · unfold fSum at q
    split at q
    · obtain ⟨bs, e, q⟩ := q
      obtain ⟨v, rfl, h⟩ := rs.one
      obtain ⟨a, vs, rfl, h1, _, h2⟩ := h.lst
      rw [dInts_eq e] at h2
      exact ⟨a, bs, rfl, .of (by rw [← h2.ints]; exact h1), q _ H r.aftRefl (RV.mk rz_int)⟩
    · exact q.elim
theorem de_all (hc : X.calm = true) (hm : X.mg "all" = none) (ha : DJ X W [e] a cha) (hg : Gl X "all" := by rfl)
    (he : starEach (e :: []) X.env = (false, eval e X.env) :: starEach [] X.env := by rfl) (hpl : (backTo pos (starEach [] X.env)).any (·.1) = false := by rfl) : DE X W (.Call (.Name "all" p) [e] [] pos) (mCB fAll a) cha :=
  de_cb (cr_all hc) cbD_all hm boot_all ha hg (by decide) (by decide) he hpl
theorem de_any (hc : X.calm = true) (hm : X.mg "any" = none) (ha : DJ X W [e] a cha) (hg : Gl X "any" := by rfl)
    (he : starEach (e :: []) X.env = (false, eval e X.env) :: starEach [] X.env := by rfl) (hpl : (backTo pos (starEach [] X.env)).any (·.1) = false := by rfl) : DE X W (.Call (.Name "any" p) [e] [] pos) (mCB fAny a) cha :=
  de_cb (cr_any hc) cbD_any hm boot_any ha hg (by decide) (by decide) he hpl
theorem de_sum (hc : X.calm = true) (hm : X.mg "sum" = none) (ha : DJ X W [e] a cha) (hg : Gl X "sum" := by rfl)
    (he : starEach (e :: []) X.env = (false, eval e X.env) :: starEach [] X.env := by rfl) (hpl : (backTo pos (starEach [] X.env)).any (·.1) = false := by rfl) : DE X W (.Call (.Name "sum" p) [e] [] pos) (mCB fSum a) cha :=
  de_cb (cr_sum hc) cbD_sum hm boot_sum ha hg (by decide) (by decide) he hpl

/-! ### isinstance -/
def D.ty : D → String
  | .non => "NoneType"
  | .bl _ => "bool"
  | .int _ => "int"
  | .str _ => "str"
  | .tup _ => "tuple"
  | .lst _ => "list"
  | .dic _ _ => "dict"
  | .exc _ => "an exception"
theorem RI.ty {K : Frag} {A : Av} {Z : Zt} {H : Hp} {d : D} {v : V} (h : RI K A Z H d v) (ne : ∀ c, d ≠ .exc c) : TyX K H v (.type d.ty) := by
  cases d with
  | non => rw [h.non]; exact .base .non
  | bl b => rw [h.bl]; exact .base (.bl b)
  | int b => rw [h.int]; exact .base (.int b)
  | str b => rw [h.str.1]; exact .base (.str b)
  | tup ds =>
    obtain ⟨a, vs, rfl, h1, _⟩ := h.tup
    rcases h1 with ⟨_, o, _, h1⟩ | ⟨o, its, n, h1, h2, _⟩
    · exact .fTuple h1
    · exact .kTuple h1 h2.1
  | lst ds =>
    obtain ⟨a, vs, rfl, h1, _⟩ := h.lst
    exact .base (.lst h1)
  | dic ks ds =>
    obtain ⟨a, vs, rfl, h1 | ⟨o, h1⟩, _⟩ := h.dic
    · exact .base (.dK h1)
    · exact .fDict h1
  | exc c => exact absurd rfl (ne c)
/-- isinstance(e, C), e a caught exception -/
def rIsX (K : Frag) : List V → Hp → VK → Prop := fun xs H Q => ∃ (a C : Addr) (c : V) (cv : Value) (b : Bool), xs = [.ref a, c] ∧ ClsV c cv ∧ H a = some (ExcO a C) ∧ L2.ExcC K C ∧ PySem.W.kitOne K (.ref C) cv = some b ∧ Q (.bl b) H
theorem call_isX : CallR X (.builtin "isinstance") (rIsX X.K) := by
  intro pins s σ H xs us Q I r h
  obtain ⟨a, C, c, cv, b, rfl, k, hx, C1, e, q⟩ := h
  obtain ⟨u1, u2, rfl, r1, r2⟩ := vals2 r
  have e2 := k.eq r2
  subst e2
  cases r1
  obtain ⟨⟨o, ho⟩, _, _⟩ := I.hok a _ hx
  exact PySem.W.kia_one (PySem.W.handS_kitx_exc C1.hg C1.hk C1.hs C1.hd C1.ha C1.hn C1.ht C1.hm) I.kIn ho e (fun z => nomatch z) fun tk => ⟨.bl b, H, I.tok tk, rfl, q⟩
def rIsXT (K : Frag) : List V → Hp → VK → Prop := fun xs H Q => ∃ (a C tp : Addr) (cs : List V) (ws : List Value) (b : Bool), xs = [.ref a, .ref tp] ∧ H tp = some (.tup cs) ∧ Paired ClsV cs ws ∧ H a = some (ExcO a C) ∧ L2.ExcC K C ∧ PySem.W.kitAny K (.ref C) ws = some b ∧ Q (.bl b) H
theorem call_isXT : CallR X (.builtin "isinstance") (rIsXT X.K) := by
  intro pins s σ H xs us Q I r h
  obtain ⟨a, C, tp, cs, ws, b, rfl, hT, k, hx, C1, e, q⟩ := h
  obtain ⟨u1, u2, rfl, r1, r2⟩ := vals2 r
  cases r1
  cases r2
  obtain ⟨⟨o, ho⟩, _, _⟩ := I.hok a _ hx
  obtain ⟨_, its, rv, ot, t1, t2, n, t3⟩ := I.hok tp _ hT
  have e3 := ClsV.all k rv
  subst e3
  obtain ⟨oc, od, dt, sl⟩ := ot
  simp only at t2 t3; subst t2 t3
  exact PySem.W.kia_tup (PySem.W.handS_kitx_exc C1.hg C1.hk C1.hs C1.hd C1.ha C1.hn C1.ht C1.hm) I.kIn ho t1 e (fun z => nomatch z) fun tk => ⟨.bl b, H, I.tok tk, rfl, q⟩
theorem six {S : String} (h : S = "int" ∨ S = "bool" ∨ S = "str" ∨ S = "tuple" ∨ S = "list" ∨ S = "dict") : S ∈ ["int", "bool", "str", "tuple", "list", "dict"] := by simpa using h
/-- isinstance(x, T), T a built-in class -/
def isTn (T s : String) : Bool := s == T || (T == "int" && s == "bool")
def D.isT (T : String) (d : D) : Bool := isTn T d.ty
theorem exc_no {S : String} {c : Str} (h : S = "int" ∨ S = "bool" ∨ S = "str" ∨ S = "tuple" ∨ S = "list" ∨ S = "dict") : D.isT S (.exc c) = false := by
  rcases h with rfl | rfl | rfl | rfl | rfl | rfl <;> (show isTn _ "an exception" = false; decide)
theorem kit_all : ∀ s ∈ ["NoneType", "bool", "int", "str", "tuple", "list", "dict"], ∀ T ∈ ["int", "bool", "str", "tuple", "list", "dict"], kitB s T = some (isTn T s) := by decide +kernel
theorem kit_D {K : Frag} {T : String} (h : T = "int" ∨ T = "bool" ∨ T = "str" ∨ T = "tuple" ∨ T = "list" ∨ T = "dict") (d : D) (ne : ∀ c, d ≠ .exc c) : PySem.W.kitOne K (.type d.ty) (.type T) = some (d.isT T) := by
  exact kit_ty (kit_all _ (by cases d <;> first | exact absurd rfl (ne _) | simp [D.ty]) _ (by simpa using h))
def mIs (T : String) (a : MI) : ME := fun ε Q Ex => a ε (fun d => Q (.fz (.bl (d.isT T)))) Ex
theorem de_isi {T : Str} {S : String} {a : MI} {p2 : Pos} (hm : X.mg "isinstance" = none) (hT : X.mg T = none) (ha : DI X W e a cha) (hv : bootBuiltins T = some (.type S)) (hS : S = "int" ∨ S = "bool" ∨ S = "str" ∨ S = "tuple" ∨ S = "list" ∨ S = "dict") (hg : Gl X "isinstance" := by rfl) (hgT : Gl X T := by rfl)
    (hn : T ≠ "__name__" := by decide) (hd : (T == ("__debug__" : Str)) = false := by decide) (hs1 : starEach [.Name T p2] X.env = (false, eval (.Name T p2) X.env) :: starEach [] X.env := by rfl)
    (he : starEach (e :: [.Name T p2]) X.env = (false, eval e X.env) :: starEach [.Name T p2] X.env := by rfl) (hpl : (backTo pos (starEach [.Name T p2] X.env)).any (·.1) = false := by rfl) : DE X W (.Call (.Name "isinstance" p) [e, .Name T p2] [] pos) (mIs S a) cha := by
  obtain ⟨t, pa, la⟩ := ha
  refine ⟨_, pe_callB (CallR.or call_isi call_isX) hg hm boot_isinstance (pa_cons pa (pa_cons (pe_bltn (v := .ty S) hgT hT hv rfl hn hd) pa_nil hs1) he) (by decide) (by decide) he hpl, fun ε Q Q' Ex Ex' hq hx q => la.mono ε _ _ _ _ (fun d q => hq _ q) hx q, fun B Z T H0 ε σ H Q Ex hL r hx q => ?_⟩
  refine la.run B Z H0 ε σ H _ Ex r (hx.at (T + cha)) (la.mono ε _ _ _ _ (fun d q v H1 a1 rv => ?_) (fun _ x => x) q)
  cases d with
  | exc c =>
    obtain ⟨a, C, rfl, h1, h2⟩ := rv.exc
    refine .inr ⟨a, C, .ty S, _, false, rfl, .ty S, h1, h2.ok, h2.no S (six hS), ?_⟩
    have q := q (.bl false) H1 a1
    rw [exc_no hS] at q
    exact q (RV.mk rz_bl)
  | _ => exact .inl ⟨v, .ty S, _, _, _, rfl, .ty S, rv.ty (fun c z => nomatch z), kit_D hS _ (fun c z => nomatch z), q _ H1 a1 (RV.mk rz_bl)⟩
/-- isinstance(x, (T1, T2)) -/
def mIs2 (T U : String) (a : MI) : ME := fun ε Q Ex => a ε (fun d => Q (.fz (.bl (d.isT T || d.isT U)))) Ex
theorem de_isi2 {T U : Str} {S S' : String} {a : MI} {p2 p3 p4 : Pos} {kk : Nat} (hm : X.mg "isinstance" = none) (hT : X.mg T = none) (hU : X.mg U = none) (ha : DI X W e a cha) (hv : bootBuiltins T = some (.type S)) (hv' : bootBuiltins U = some (.type S'))
    (hS : S = "int" ∨ S = "bool" ∨ S = "str" ∨ S = "tuple" ∨ S = "list" ∨ S = "dict") (hS' : S' = "int" ∨ S' = "bool" ∨ S' = "str" ∨ S' = "tuple" ∨ S' = "list" ∨ S' = "dict") (hg : Gl X "isinstance" := by rfl) (hgT : Gl X T := by rfl) (hgU : Gl X U := by rfl)
    (hn : T ≠ "__name__" := by decide) (hd : (T == ("__debug__" : Str)) = false := by decide) (hn' : U ≠ "__name__" := by decide) (hd' : (U == ("__debug__" : Str)) = false := by decide)
    (hs1 : starEach [.Name U p3] X.env = (false, eval (.Name U p3) X.env) :: starEach [] X.env := by rfl) (hs2 : starEach [.Name T p2, .Name U p3] X.env = (false, eval (.Name T p2) X.env) :: starEach [.Name U p3] X.env := by rfl)
    (hs3 : starEach [.Tuple [.Name T p2, .Name U p3] kk p4] X.env = (false, eval (.Tuple [.Name T p2, .Name U p3] kk p4) X.env) :: starEach [] X.env := by rfl)
    (he : starEach (e :: [.Tuple [.Name T p2, .Name U p3] kk p4]) X.env = (false, eval e X.env) :: starEach [.Tuple [.Name T p2, .Name U p3] kk p4] X.env := by rfl) (hpl : (backTo pos (starEach [.Tuple [.Name T p2, .Name U p3] kk p4] X.env)).any (·.1) = false := by rfl) :
    DE X W (.Call (.Name "isinstance" p) [e, .Tuple [.Name T p2, .Name U p3] kk p4] [] pos) (mIs2 S S' a) cha := by
  obtain ⟨t, pa, la⟩ := ha
  refine ⟨_, pe_callB (CallR.or call_isiT call_isXT) hg hm boot_isinstance (pa_cons pa (pa_cons (pe_tup (pa_cons (pe_bltn (v := .ty S) hgT hT hv rfl hn hd) (pa_cons (pe_bltn (v := .ty S') hgU hU hv' rfl hn' hd') pa_nil hs1) hs2)) pa_nil hs3) he) (by decide) (by decide) he hpl,
    fun ε Q Q' Ex Ex' hq hx q => la.mono ε _ _ _ _ (fun d q => hq _ q) hx q, fun B Z T H0 ε σ H Q Ex hL r hx q => ?_⟩
  refine la.run B Z H0 ε σ H _ Ex r (hx.at (T + cha)) (la.mono ε _ _ _ _ (fun d q v H1 a1 rv => ?_) (fun _ x => x) q)
  refine ⟨by show 2 ≤ sizeLine; decide, fun tp hp => ?_⟩
  have a2 : Aft Z (T + cha) H1 (upd H1 tp (.tup [.ty S, .ty S'])) := Aft.new a1.z hp
  by_cases ne : ∀ c, d ≠ .exc c
  · refine .inl ⟨v, tp, _, _, _, d.isT S || d.isT S', rfl, upd_same, .cons (.ty S) (.cons (.ty S') .nil), (rv.aft a2).ty ne, ?_, q _ _ (a1.trans a2) (RV.mk rz_bl)⟩
    refine kitAny_cons (kit_D hS d ne) (fun h => ?_) fun h => by rw [h]; rfl
    rw [h, Bool.false_or]
    refine kitAny_cons (kit_D hS' d ne) (fun h => ?_) fun h => h
    rw [h]
    rfl
  · have ex : ∃ c, d = .exc c := Classical.byContradiction fun n => ne fun c e => n ⟨c, e⟩
    obtain ⟨c, rfl⟩ := ex
    obtain ⟨a, C, rfl, h1, h2⟩ := (rv.aft a2).exc
    have z : ((D.exc c).isT S || (D.exc c).isT S') = false := by rw [exc_no hS, exc_no hS']; rfl
    rw [z] at q
    refine .inr ⟨a, C, tp, _, _, false, rfl, upd_same, .cons (.ty S) (.cons (.ty S') .nil), h1, h2.ok, ?_, q _ _ (a1.trans a2) (RV.mk rz_bl)⟩
    exact kitAny_cons (h2.no S (six hS)) (fun _ => kitAny_cons (h2.no S' (six hS')) (fun _ => rfl) fun z => z) fun z => nomatch z
end
end
end G

namespace G
open PySem PySem.Spec PyProof.Rows L2

/-! ### what is walked -/
/-- a pair that is new: nothing is told of its own dict -/
def RzP (K : Frag) (A : Av) (H : Hp) : D → V → Prop
  | .tup ds, v => ∃ a vs, v = .ref a ∧ (¬ A a ∧ Rd H a (.tup vs)) ∧ ds.length ≤ sizeLine ∧ Rzs K A H ds vs
  | _, _ => False
def Rzw (wk : Bool) (K : Frag) (A : Av) (H : Hp) (d : D) (v : V) : Prop := if wk = true then RzP K A H d v else Rz K A H d v
theorem Rzw.of {K : Frag} {A : Av} {H : Hp} {d : D} {v : V} (h : Rz K A H d v) : Rzw false K A H d v := h
theorem Rzw.map {wk : Bool} {K : Frag} {A A' : Av} {H H' : Hp} (f : ∀ a o, ¬ A a → At H a o → ¬ A' a ∧ At H' a o) {d : D} {v : V} (h : Rzw wk K A H d v) : Rzw wk K A' H' d v := by
  cases wk with
  | false => exact Rz.map (.of f) h
  | true =>
    have h : RzP K A H d v := h
    show RzP K A' H' d v
    cases d with
    | tup ds =>
      obtain ⟨a, vs, e, ⟨n, r⟩, hl, h2⟩ := h
      refine ⟨a, vs, e, ?_, hl, h2.map (.of f)⟩
      rcases r with r | ⟨u, r⟩
      · exact ⟨(f a _ n (.mk r)).1, .inl (f a _ n (.mk r)).2.1⟩
      · exact ⟨(f a _ n (.mk r)).1, .inr ⟨u, (f a _ n (.mk r)).2.1⟩⟩
    | _ => exact h
/-- J yields just the data ds, while what stands outside C stays; the items lie outside A (and whatever came later) -/
def WkD (wk : Bool) (K : Frag) (A C : Av) (J : It) (ds : List D) (H : Hp) : Prop := ∃ (Gd : Hp → Prop) (Y : Nat → Hp → V → Hp → Prop), Walk J ds.length Gd Y ∧ (∀ H', ExA C H H' → Gd H') ∧
  ∀ A' : Av, (∀ a, A' a → A a ∨ Gone H a) → ∀ i H1 x H2, i < ds.length → ExA C H H1 → (∀ a, A' a → Lv H1 a) → Y i H1 x H2 → ∃ d, ds[i]? = some d ∧ (∀ a o, H1 a = some o → H2 a = some o) ∧ Rzw wk K A' H2 d x
abbrev MW := Env → (List D → Prop) → (XC → Prop) → Prop
/-- fro: what is walked is no one's to change -/
structure LiftW (X : Cx) (W : WX) (fro wk : Bool) (t : TI) (m : MW) (c : Nat) : Prop where
  mono : ∀ ε Q Q' Ex Ex', (∀ x, Q x → Q' x) → (∀ c, Ex c → Ex' c) → m ε Q Ex → m ε Q' Ex'
  run0 : ∀ B Z T H0 ε σ H (R : It → Hp → Prop) Ex, T + c ≤ LIM → RE X.K B Z T H0 ε σ H → XW X W Z (T + c) σ H Ex →
    m ε (fun ds => ∀ J H', Aft Z (T + c) H H' → ds.length ≤ sizeLine → (∀ C : Av, (∀ a, C a → (if fro = true then AvE B Z ε σ a else inZ Z a) ∨ H' a = none) → WkD wk X.K (AvE B Z ε σ) C J ds H') → R J H') Ex → t σ H R
def DWk (X : Cx) (W : WX) (fro wk : Bool) (tg e : Expr) (m : MW) (c : Nat) : Prop := ∃ t, PI X tg e t ∧ LiftW X W fro wk t m c
theorem LiftW.run {X : Cx} {W : WX} {fro wk : Bool} {c T T' : Nat} {t : TI} {m : MW} (l : LiftW X W fro wk t m c) (B Z H0 ε σ H) (R : It → Hp → Prop) (Ex) (r : RE X.K B Z T H0 ε σ H) (hx : XW X W Z T' σ H Ex)
    (q : m ε (fun ds => ∀ J H', Aft Z T' H H' → ds.length ≤ sizeLine → (∀ C : Av, (∀ a, C a → (if fro = true then AvE B Z ε σ a else inZ Z a) ∨ H' a = none) → WkD wk X.K (AvE B Z ε σ) C J ds H') → R J H') Ex) (h1 : T + c ≤ T' := by omega) (h2 : T' ≤ LIM := by omega) : t σ H R :=
  l.run0 B Z T H0 ε σ H R Ex (by omega) r (hx.at _) (l.mono _ _ _ _ _ (fun iv q v H' a rv => q v H' a.up rv) (fun _ x => x) q)

/-- a list, a tuple, a text -/
def iAny (K : Frag) (tl : TE) : TI := fun σ H R => tl σ H fun x H1 => (∃ a, x = .ref a ∧ (∃ xs, SqL K H1 a xs) ∧ R (Itl K a) H1) ∨ (∃ a, x = .ref a ∧ (∃ xs, SqT K H1 a xs) ∧ R (Itt K a) H1) ∨ ∃ z, x = .str z ∧ R (Its z) H1
theorem pi_any {X : Cx} {tg l : Expr} {tl : TE} (hl : PE X l tl) : PI X tg l (iAny X.K tl) := by
  refine ⟨fun pins s σ H R I h => ?_⟩
  refine thn (hl.run pins s σ H _ I h) fun v s1 ⟨x, H1, I1, r1, q1⟩ => ?_
  rcases q1 with ⟨a, e, ⟨xs, hq⟩, q⟩ | ⟨a, e, ⟨xs, hq⟩, q⟩ | ⟨z, e, q⟩
  · subst e
    cases r1
    obtain ⟨its, rv, p, hz⟩ := I1.list hq
    refine wpAny_pyIter_list p.isList ?_
    refine ⟨s1.heap.objs.size, [s1.heap.objs.size], _, _, H1, rfl, I1.kept (t' := s1.toks) fun b o e => Heap.get?_push_of_some _ e, turn_list a _, ⟨_, Heap.get?_push_size _ rfl, rfl, rfl⟩, fun b hb => ?_, q⟩
    have e : b = s1.heap.objs.size := by simpa using hb
    subst e
    exact I1.fpOk (Nat.le_refl _) (I1.hok.fresh (Nat.le_refl _))
  · subst e
    cases r1
    obtain ⟨its, rv, p, hz⟩ := I1.tuple hq
    refine wpAny_pyIter_tuple (show s1.heap.IsTuple a its.toArray from p) ?_
    refine ⟨s1.heap.objs.size, [s1.heap.objs.size], _, _, H1, rfl, I1.kept (t' := s1.toks) fun b o e => Heap.get?_push_of_some _ e, turn_tuple a _, ⟨_, Heap.get?_push_size _ rfl, rfl, rfl⟩, fun b hb => ?_, q⟩
    have e : b = s1.heap.objs.size := by simpa using hb
    subst e
    exact I1.fpOk (Nat.le_refl _) (I1.hok.fresh (Nat.le_refl _))
  · subst e
    obtain ⟨t, rfl⟩ := r1
    cases ha : z.cps.all (· < 128)
    · exact wpAny_pyIter_wide ha (pi_one (tk := s1.toks) I1 _ (turn_str _ z t "str_iterator" (.inr rfl)) ⟨_, Heap.get?_push_size _ rfl, rfl, rfl⟩ q)
    · exact wpAny_pyIter_ascii ha (pi_one (tk := s1.toks) I1 _ (turn_str _ z t "str_ascii_iterator" (.inl rfl)) ⟨_, Heap.get?_push_size _ rfl, rfl, rfl⟩ q)
/-- the signs of a text, one by one -/
def signs (z : Str) : List D := z.cps.toList.map fun c => .str ⟨#[c]⟩
def onIt (Q : List D → Prop) : D → Prop
  | .lst ds => Q ds
  | .tup ds => Q ds
  | .str z => Q (signs z)
  | _ => False
@[simp] theorem onIt_lst {Q : List D → Prop} {ds : List D} : onIt Q (.lst ds) = Q ds := rfl
@[simp] theorem onIt_tup {Q : List D → Prop} {ds : List D} : onIt Q (.tup ds) = Q ds := rfl
@[simp] theorem onIt_str {Q : List D → Prop} {z : Str} : onIt Q (.str z) = Q (signs z) := rfl
theorem onIt_mono {Q Q' : List D → Prop} (h : ∀ d, Q d → Q' d) : ∀ d, onIt Q d → onIt Q' d := fun d q => by
  cases d <;> first | exact h _ q | exact q
/-- walked through a name that is looked at, or through any value -/
def wPeek (a : MI) : MW := fun ε Q Ex => a ε (onIt Q) Ex
section
variable {K : Frag} {A C : Av} {H H' : Hp}
theorem wk_list {a : Addr} {ds : List D} {vs : List V} (h1 : H a = some (.lst vs)) (nC : ¬ C a) (h2 : Rzs K A H ds vs) (hC : ∀ a, C a → A a ∨ H a = none) : WkD false K A C (Itl K a) ds H := by
  refine ⟨fun H => SqL K H a vs, YAt vs, by rw [← h2.length]; exact walk_list, fun H' x => .of (x a _ nC (.mk h1)).1, fun A' hA i H1 v H2 hi x _ y => ?_⟩
  obtain ⟨rfl, hv⟩ := y
  obtain ⟨d, e, r⟩ := h2.get hv
  refine ⟨d, e, fun _ _ q => q, r.map (.of fun b o n q => ⟨fun z => ?_, x b o (fun z => ?_) q⟩)⟩
  · rcases hA b z with z | z
    · exact n z
    · exact z _ q
  · rcases hC b z with z | z
    · exact n z
    · exact absurd rfl (q.ne z)
theorem wk_tup {a : Addr} {ds : List D} {vs : List V} (h1 : FzT K A H a vs) (h2 : Rzs K A H ds vs) (hC : ∀ a, C a → A a ∨ H a = none) : WkD false K A C (Itt K a) ds H := by
  have nC : ∀ b o, ¬ A b → At H b o → ¬ C b := fun b o n e z => by
    rcases hC b z with z | z
    · exact n z
    · exact absurd rfl (e.ne z)
  refine ⟨fun H => SqT K H a vs, YAt vs, by rw [← h2.length]; exact walk_tup, fun H' x => ?_, fun A' hA i H1 v H2 hi x _ y => ?_⟩
  · rcases h1 with ⟨n, o, po, h1⟩ | h1
    · exact .inl (.inr ⟨o, (x a _ (nC _ _ n (.mk h1)) (.mk h1)).1⟩)
    · exact FzT.sq (A := A) (.inr h1)
  · obtain ⟨rfl, hv⟩ := y
    obtain ⟨d, e, r⟩ := h2.get hv
    refine ⟨d, e, fun _ _ q => q, r.map (.of fun b o n q => ⟨fun z => ?_, x b o (nC b o n q) q⟩)⟩
    rcases hA b z with z | z
    · exact n z
    · exact z _ q
theorem wk_str {z : Str} : WkD false K A C (Its z) (signs z) H := by
  refine ⟨fun _ => True, fun i H v H' => H' = H ∧ ∃ c, z.cps[i]? = some c ∧ v = .str ⟨#[c]⟩, ?_, fun _ _ => trivial, fun A' hA i H1 v H2 hi x _ y => ?_⟩
  · have e : (signs z).length = z.cps.size := by simp [signs]
    rw [e]
    exact walk_str
  · obtain ⟨rfl, c, hc, rfl⟩ := y
    refine ⟨.str ⟨#[c]⟩, ?_, fun _ _ q => q, .of (rz_str (by show 1 ≤ sizeLine; decide))⟩
    unfold signs
    rw [List.getElem?_map, Array.getElem?_toList, hc]
    rfl
end
section
variable {X : Cx} {W : WX}
theorem signs_len {z : Str} : (signs z).length = z.length := by unfold signs; rw [List.length_map, Array.length_toList]; rfl
theorem lift_any {t : TE} {m : ME} (l : LiftE X W t m cl) : LiftW X W true false (iAny X.K t) (wPeek (mDat m)) cl := by
  refine ⟨fun ε Q Q' Ex Ex' hq hx q => l.dat.mono ε _ _ _ _ (onIt_mono hq) hx q, fun B Z T H0 ε σ H R Ex hL r hx q => ?_⟩
  have key : ∀ (d : D) (v : V) (H1 : Hp), Aft Z (T + cl) H H1 → Rz X.K (AvE B Z ε σ) H1 d v → onIt (fun ds => ∀ J H', Aft Z (T + cl) H H' → ds.length ≤ sizeLine → (∀ C : Av, (∀ a, C a → (if true = true then AvE B Z ε σ a else inZ Z a) ∨ H' a = none) → WkD false X.K (AvE B Z ε σ) C J ds H') → R J H') d →
      (∃ a, v = .ref a ∧ (∃ xs, SqL X.K H1 a xs) ∧ R (Itl X.K a) H1) ∨ (∃ a, v = .ref a ∧ (∃ xs, SqT X.K H1 a xs) ∧ R (Itt X.K a) H1) ∨ ∃ z, v = .str z ∧ R (Its z) H1 := by
    intro d v H1 a1 rv q
    cases d with
    | lst ds =>
      simp only [Rz] at rv
      obtain ⟨a, vs, rfl, ⟨n, h1⟩, hl, h2⟩ := rv
      refine .inl ⟨a, rfl, ⟨vs, .of h1⟩, q _ H1 a1 hl fun C hC => wk_list h1 (fun z => ?_) h2 (fun b z => hC b z)⟩
      rcases hC a z with z | z
      · exact n z
      · rw [h1] at z; cases z
    | tup ds =>
      simp only [Rz] at rv
      obtain ⟨a, vs, rfl, h1, hl, h2⟩ := rv
      exact .inr (.inl ⟨a, rfl, ⟨vs, h1.sq⟩, q _ H1 a1 hl fun C hC => wk_tup h1 h2 (fun b z => hC b z)⟩)
    | str z =>
      simp only [Rz] at rv
      exact .inr (.inr ⟨z, rv.1, q _ H1 a1 (by rw [signs_len]; exact rv.2) fun C hC => wk_str⟩)
    | _ => exact q.elim
  refine l.run B Z H0 ε σ H _ Ex r hx (l.mono ε _ _ _ _ (fun iv q v H1 a1 rv => ?_) (fun _ x => x) q)
  cases iv with
  | fz d => exact key d v H1 a1 rv q
  | fr d => exact key d v H1 a1 (RV.rz r rv) q
  | st => exact q.elim
  | bo d => exact q.elim
theorem lift_anyI {t : TE} {m : MI} (l : LiftI X W t m cl) : LiftW X W false false (iAny X.K t) (wPeek m) cl := by
  refine ⟨fun ε Q Q' Ex Ex' hq hx q => l.mono ε _ _ _ _ (onIt_mono hq) hx q, fun B Z T H0 ε σ H R Ex hL r hx q => ?_⟩
  refine l.run B Z H0 ε σ H _ Ex r hx (l.mono ε _ _ _ _ (fun d q v H1 a1 rv => ?_) (fun _ x => x) q)
  have hCA : ∀ C : Av, (∀ a, C a → (if false = true then AvE B Z ε σ a else inZ Z a) ∨ H1 a = none) → ∀ a, C a → AvE B Z ε σ a ∨ H1 a = none := fun C hC a z => (hC a z).elim (fun z => .inl (.inr (.inl z))) .inr
  cases d with
  | lst ds =>
    have aux : ∀ a vs, v = .ref a → H1 a = some (.lst vs) → ¬ inZ Z a → Rzs X.K (AvE B Z ε σ) H1 ds vs → ds.length ≤ sizeLine → (∃ a, v = .ref a ∧ (∃ xs, SqL X.K H1 a xs) ∧ R (Itl X.K a) H1) := fun a vs e h1 n h2 hl => by
      subst e
      refine ⟨a, rfl, ⟨vs, .of h1⟩, q _ H1 a1 hl fun C hC => wk_list h1 (fun z => ?_) h2 (hCA C hC)⟩
      rcases hC a z with z | z
      · exact n z
      · rw [h1] at z; cases z
    rcases rv with rv | ⟨a, e, n, vs, h1, hl, h2⟩
    · simp only [Rz] at rv
      obtain ⟨a, vs, e, ⟨n, h1⟩, hl, h2⟩ := rv
      exact .inl (aux a vs e h1 (fun z => n (.inr (.inl z))) h2 hl)
    · exact .inl (aux a vs e h1 n h2 hl)
  | tup ds =>
    obtain ⟨a, vs, rfl, h1, hl, h2⟩ := rv.tup
    exact .inr (.inl ⟨a, rfl, ⟨vs, h1.sq⟩, q _ H1 a1 hl fun C hC => wk_tup h1 h2 (hCA C hC)⟩)
  | str z => exact .inr (.inr ⟨z, rv.str.1, q _ H1 a1 (by rw [signs_len]; exact rv.str.2) fun C hC => wk_str⟩)
  | _ => exact q.elim
/-- for x in e (a statement's: e no one's to change) -/
theorem dk_any {tg e : Expr} {m : ME} (h : DE X W e m ch) : DWk X W true false tg e (wPeek (mDat m)) ch := let ⟨t, p, l⟩ := h; ⟨_, pi_any p, lift_any l⟩
/-- .. (a comprehension's) -/
theorem dk_anyI {tg e : Expr} {m : MI} (h : DI X W e m ch) : DWk X W false false tg e (wPeek m) ch := let ⟨t, p, l⟩ := h; ⟨_, pi_any p, lift_anyI l⟩

/-! ranges -/
def rangeD (lo : Int) (n : Nat) : List D := (List.range n).map fun i => .int (lo + (i : Nat))
@[simp] theorem rangeD_length (lo : Int) (n : Nat) : (rangeD lo n).length = n := by simp [rangeD]
theorem wk_range {K : Frag} {A C : Av} {H : Hp} {lo : Int} {n : Nat} : WkD false K A C (Itr lo n) (rangeD lo n) H := by
  refine ⟨fun _ => True, YFn fun i => .int (lo + i), by rw [rangeD_length]; exact walk_range, fun _ _ => trivial, fun A' hA i H1 v H2 hi x _ y => ?_⟩
  obtain ⟨rfl, rfl⟩ := y
  rw [rangeD_length] at hi
  refine ⟨.int (lo + (i : Nat)), ?_, fun _ _ q => q, .of rz_int⟩
  unfold rangeD
  rw [List.getElem?_map, List.getElem?_range hi]
  rfl
def wRange1 (a : MJ) : MW := fun ε Q Ex => a ε (fun ds => ∃ j : Int, ds = [.int j] ∧ (-(2 ^ 61) ≤ j ∧ j ≤ sizeLine) ∧ Q (rangeD 0 j.toNat)) Ex
def wRange2 (a : MJ) : MW := fun ε Q Ex => a ε (fun ds => ∃ i j : Int, ds = [.int i, .int j] ∧ (-(2 ^ 61) ≤ i ∧ i ≤ 2 ^ 61 ∧ -(2 ^ 61) ≤ j ∧ j - i ≤ sizeLine) ∧ Q (rangeD i (j - i).toNat)) Ex
theorem dk_range1 {fro : Bool} {tg a : Expr} {m : MJ} {p pos : Pos} (hm : X.mg "range" = none) (ha : DJ X W [a] m cha) (hg : Gl X "range" := by rfl) (hs : starEach [a] X.env = [(false, eval a X.env)] := by rfl) : DWk X W fro false tg (.Call (.Name "range" p) [a] [] pos) (wRange1 m) cha := by
  obtain ⟨t, pa, l⟩ := ha
  refine ⟨_, pi_range1 hg hm pa hs, fun ε Q Q' Ex Ex' hq hx q => l.mono ε _ _ _ _ (fun ds ⟨j, e, b, q⟩ => ⟨j, e, b, hq _ q⟩) hx q, fun B Z T H0 ε σ H R Ex hL r hx q => ?_⟩
  refine l.run B Z H0 ε σ H _ Ex r hx (l.mono ε _ _ _ _ (fun ds q vs H1 a1 r1 => ?_) (fun _ x => x) q)
  obtain ⟨j, rfl, b, q⟩ := q
  obtain ⟨v, rfl, h⟩ := r1.one
  have e := sizeLine_eq
  exact ⟨j, by rw [h.int], by omega, by omega, q _ H1 a1 (by rw [rangeD_length]; omega) fun C hC => wk_range⟩
theorem dk_range2 {fro : Bool} {tg a b : Expr} {m : MJ} {p pos : Pos} (hm : X.mg "range" = none) (ha : DJ X W [a, b] m cha) (hg : Gl X "range" := by rfl) (hs : starEach [a, b] X.env = [(false, eval a X.env), (false, eval b X.env)] := by rfl) (hs2 : starEach [b] X.env = [(false, eval b X.env)] := by rfl) :
    DWk X W fro false tg (.Call (.Name "range" p) [a, b] [] pos) (wRange2 m) cha := by
  obtain ⟨t, pa, l⟩ := ha
  refine ⟨_, pi_range2 hg hm pa hs hs2, fun ε Q Q' Ex Ex' hq hx q => l.mono ε _ _ _ _ (fun ds ⟨i, j, e, b, q⟩ => ⟨i, j, e, b, hq _ q⟩) hx q, fun B Z T H0 ε σ H R Ex hL r hx q => ?_⟩
  refine l.run B Z H0 ε σ H _ Ex r hx (l.mono ε _ _ _ _ (fun ds q vs H1 a1 r1 => ?_) (fun _ x => x) q)
  obtain ⟨i, j, rfl, b, q⟩ := q
  obtain ⟨v, w, rfl, h, g⟩ := r1.two
  have e := sizeLine_eq
  exact ⟨i, j, by rw [h.int, g.int], ⟨by omega, by omega, by omega, by omega⟩, q _ H1 a1 (by rw [rangeD_length]; omega) fun C hC => wk_range⟩
/-! zip -/
def zipD (xs ys : List D) : List D := (xs.zip ys).map fun p => .tup [p.1, p.2]
theorem zipD_length (xs ys : List D) : (zipD xs ys).length = min xs.length ys.length := by simp [zipD]
def onZip (Q : List D → Prop) : List D → Prop
  | [.lst xs, .lst ys] => Q (zipD xs ys)
  | [.tup xs, .tup ys] => Q (zipD xs ys)
  | _ => False
@[simp] theorem onZip_lst {Q : List D → Prop} {xs ys : List D} : onZip Q [.lst xs, .lst ys] = Q (zipD xs ys) := rfl
@[simp] theorem onZip_tup {Q : List D → Prop} {xs ys : List D} : onZip Q [.tup xs, .tup ys] = Q (zipD xs ys) := rfl
theorem onZip_mono {Q Q' : List D → Prop} (h : ∀ d, Q d → Q' d) : ∀ d, onZip Q d → onZip Q' d := fun d q => by
  unfold onZip at q ⊢
  split at q <;> first | exact h _ q | exact q
/-- a new pair of two items -/
theorem pair_rz {K : Frag} {A A' C : Av} {H H1 : Hp} {T : Addr} {x y : V} {xs ys : List D} {vs ws : List V} {i : Nat} (h2 : Rzs K A H xs vs) (g2 : Rzs K A H ys ws) (hC : ∀ a, C a → A a ∨ H a = none) (hA : ∀ a, A' a → A a ∨ Gone H a) (e : ExA C H H1) (tr : ∀ a, A' a → Lv H1 a)
    (hT : H1 T = none) (hx : vs[i]? = some x) (hy : ws[i]? = some y) : ∃ d, (zipD xs ys)[i]? = some d ∧ (∀ a o, H1 a = some o → upd H1 T (.tup [x, y]) a = some o) ∧ Rzw true K A' (upd H1 T (.tup [x, y])) d (.ref T) := by
  obtain ⟨d, e1, r1⟩ := h2.get hx
  obtain ⟨d', e2, r2⟩ := g2.get hy
  have up : ∀ a o, H1 a = some o → upd H1 T (.tup [x, y]) a = some o := fun a o q => by rw [upd_ne (ne_of_none q hT)]; exact q
  have f : Kp A A' H (upd H1 T (.tup [x, y])) := .of fun b o n q => by
    refine ⟨fun z => ?_, (e b o (fun z => ?_) q).new hT⟩
    · rcases hA b z with z | z
      · exact n z
      · exact z _ q
    · rcases hC b z with z | z
      · exact n z
      · exact absurd rfl (q.ne z)
  refine ⟨.tup [d, d'], ?_, up, ?_⟩
  · unfold zipD
    have z : (xs.zip ys)[i]? = some (d, d') := List.getElem?_zip_eq_some.mpr ⟨e1, e2⟩
    rw [List.getElem?_map, z]
    rfl
  · exact ⟨T, [x, y], rfl, ⟨fun z => (tr _ z).ne hT, .inl upd_same⟩, by show 2 ≤ sizeLine; decide, .cons (r1.map f) (.one (r2.map f))⟩
theorem wk_zip {K : Frag} {A C : Av} {H : Hp} {a b : Addr} {xs ys : List D} {vs ws : List V} (h1 : H a = some (.lst vs)) (n1 : ¬ C a) (h2 : Rzs K A H xs vs) (g1 : H b = some (.lst ws)) (m1 : ¬ C b) (g2 : Rzs K A H ys ws) (hC : ∀ a, C a → A a ∨ H a = none) :
    WkD true K A C (Itz K a b) (zipD xs ys) H := by
  refine ⟨_, _, walk_zip (xs := vs) (ys := ws) (by rw [zipD_length, h2.length, g2.length]), fun H' x => ⟨.of (x a _ n1 (.mk h1)).1, .of (x b _ m1 (.mk g1)).1⟩, fun A' hA i H1 v H2 hi x tr y => ?_⟩
  obtain ⟨T, x', y', rfl, hT, rfl, hx, hy⟩ := y
  exact pair_rz h2 g2 hC hA x tr hT hx hy
theorem walk_zipT {K : Frag} {a b : Addr} {xs ys : List V} {n : Nat} (hn : n = min xs.length ys.length) : Walk (RZ.ItzT K a b) n (fun H => SqT K H a xs ∧ SqT K H b ys) (YPair (fun i => xs[i]?) (fun i => ys[i]?)) := by
  subst hn
  refine ⟨fun i _ hi q => ?_, fun _ q => ⟨xs, ys, q.1, q.2, by omega⟩, fun i H v H' _ q y => ?_⟩
  · have h1 : i < xs.length := by omega
    have h2 : i < ys.length := by omega
    exact ⟨xs, ys, xs[i], ys[i], q.1, q.2, by simp [h1], by simp [h2]⟩
  · obtain ⟨T, x, z, h1, h2, h3, h4, h5⟩ := y
    exact ⟨T, x, z, h1, h2, h3, h4 xs q.1, h5 ys q.2⟩
theorem FzT.stay {K : Frag} {A C : Av} {H H' : Hp} {a : Addr} {xs : List V} (h : FzT K A H a xs) (hC : ∀ a, C a → A a ∨ H a = none) (x : ExA C H H') : SqT K H' a xs := by
  have nC : ∀ b o, ¬ A b → At H b o → ¬ C b := fun b o n e z => by
    rcases hC b z with z | z
    · exact n z
    · exact absurd rfl (e.ne z)
  rcases h with ⟨n, o, po, h1⟩ | h1
  · exact .inl (.inr ⟨o, (x a _ (nC _ _ n (.mk h1)) (.mk h1)).1⟩)
  · exact FzT.sq (A := A) (.inr h1)
theorem wk_zipT {K : Frag} {A C : Av} {H : Hp} {a b : Addr} {xs ys : List D} {vs ws : List V} (h1 : FzT K A H a vs) (h2 : Rzs K A H xs vs) (g1 : FzT K A H b ws) (g2 : Rzs K A H ys ws) (hC : ∀ a, C a → A a ∨ H a = none) :
    WkD true K A C (RZ.ItzT K a b) (zipD xs ys) H := by
  refine ⟨_, _, walk_zipT (xs := vs) (ys := ws) (by rw [zipD_length, h2.length, g2.length]), fun H' x => ⟨h1.stay hC x, g1.stay hC x⟩, fun A' hA i H1 v H2 hi x tr y => ?_⟩
  obtain ⟨T, x', y', rfl, hT, rfl, hx, hy⟩ := y
  exact pair_rz h2 g2 hC hA x tr hT hx hy
def wZip (a : MJ) : MW := fun ε Q Ex => a ε (onZip Q) Ex
/-- in a comprehension -/
theorem dk_zip {elts : List Expr} {kk : Nat} {tpos : Pos} {e e2 : Expr} {m : MJ} {p pos : Pos} (hm : X.mg "zip" = none) (ha : DJ X W [e, e2] m cha) (hg : Gl X "zip" := by rfl)
    (hs : starEach [e, e2] X.env = (false, eval e X.env) :: starEach [e2] X.env := by rfl) (hpl : (backTo pos (starEach [e2] X.env)).any (·.1) = false := by rfl) : DWk X W false true (.Tuple elts kk tpos) (.Call (.Name "zip" p) [e, e2] [] pos) (wZip m) cha := by
  obtain ⟨t, pa, l⟩ := ha
  refine ⟨_, RZ.pi_zipA hg hm pa hs hpl, fun ε Q Q' Ex Ex' hq hx q => l.mono ε _ _ _ _ (onZip_mono hq) hx q, fun B Z T H0 ε σ H R Ex hL r hx q => ?_⟩
  refine l.run B Z H0 ε σ H _ Ex r hx (l.mono ε _ _ _ _ (fun ds q vs H1 a1 r1 => ?_) (fun _ x => x) q)
  have hCA : ∀ C : Av, (∀ a, C a → (if false = true then AvE B Z ε σ a else inZ Z a) ∨ H1 a = none) → ∀ a, C a → AvE B Z ε σ a ∨ H1 a = none := fun C hC a z => (hC a z).elim (fun z => .inl (.inr (.inl z))) .inr
  unfold onZip at q
  split at q
  · rename_i xs ys
    obtain ⟨v, w, rfl, h, g⟩ := r1.two
    have aux : ∀ {d : List D} {v : V}, RI X.K (AvE B Z ε σ) Z H1 (.lst d) v → ∃ a vs, v = .ref a ∧ ¬ inZ Z a ∧ H1 a = some (.lst vs) ∧ d.length ≤ sizeLine ∧ Rzs X.K (AvE B Z ε σ) H1 d vs := fun {d v} h => by
      rcases h with h | ⟨a, e, n, vs, h1, hl, h2⟩
      · simp only [Rz] at h
        obtain ⟨a, vs, e, ⟨n, h1⟩, hl, h2⟩ := h
        exact ⟨a, vs, e, fun z => n (.inr (.inl z)), h1, hl, h2⟩
      · exact ⟨a, vs, e, n, h1, hl, h2⟩
    obtain ⟨a, vs, rfl, n, h1, hl, h2⟩ := aux h
    obtain ⟨b, ws, rfl, n', g1, gl, g2⟩ := aux g
    refine ⟨a, b, vs, ws, rfl, .inl ⟨.of h1, .of g1, q _ H1 a1 (by rw [zipD_length]; omega) fun C hC => wk_zip h1 (fun z => ?_) h2 g1 (fun z => ?_) g2 (hCA C hC)⟩⟩
    · rcases hC a z with z | z
      · exact n z
      · rw [h1] at z; cases z
    · rcases hC b z with z | z
      · exact n' z
      · rw [g1] at z; cases z
  · obtain ⟨v, w, rfl, h, g⟩ := r1.two
    obtain ⟨a, vs, rfl, h1, hl, h2⟩ := h.tup
    obtain ⟨b, ws, rfl, g1, gl, g2⟩ := g.tup
    exact ⟨a, b, vs, ws, rfl, .inr ⟨h1.sq, g1.sq, q _ H1 a1 (by rw [zipD_length]; omega) fun C hC => wk_zipT h1 h2 g1 g2 (hCA C hC)⟩⟩
  · exact q.elim
/-- in a for: what is walked no one's to change -/
def onDs' (Q : List D → Prop) (is : List IV) : Prop := onDs is Q
def wZipF (a : MA) : MW := fun ε Q Ex => a ε (fun is => onDs is (onZip Q)) Ex
theorem dk_zipF {elts : List Expr} {kk : Nat} {tpos : Pos} {e e2 : Expr} {m : MA} {p pos : Pos} (hm : X.mg "zip" = none) (ha : DA X W [e, e2] m cha) (hg : Gl X "zip" := by rfl)
    (hs : starEach [e, e2] X.env = (false, eval e X.env) :: starEach [e2] X.env := by rfl) (hpl : (backTo pos (starEach [e2] X.env)).any (·.1) = false := by rfl) : DWk X W true true (.Tuple elts kk tpos) (.Call (.Name "zip" p) [e, e2] [] pos) (wZipF m) cha := by
  obtain ⟨t, pa, l⟩ := ha
  refine ⟨_, RZ.pi_zipA hg hm pa hs hpl, fun ε Q Q' Ex Ex' hq hx q => l.mono ε _ _ _ _ (fun is q => onDs_mono (onZip_mono hq) q) hx q, fun B Z T H0 ε σ H R Ex hL r hx q => ?_⟩
  refine l.run B Z H0 ε σ H _ Ex r hx (l.mono ε _ _ _ _ (fun is q vs H1 a1 r1 => ?_) (fun _ x => x) q)
  unfold onDs at q
  split at q
  · rename_i ds e
    have h := r1.rzs e
    unfold onZip at q
    split at q
    · rename_i xs ys
      simp only [Rzs] at h
      obtain ⟨v, r, rfl, h, w, r', rfl, g, rfl⟩ := h
      simp only [Rz] at h g
      obtain ⟨a, vs, rfl, ⟨n, h1⟩, hl, h2⟩ := h
      obtain ⟨b, ws, rfl, ⟨n', g1⟩, gl, g2⟩ := g
      refine ⟨a, b, vs, ws, rfl, .inl ⟨.of h1, .of g1, q _ H1 a1 (by rw [zipD_length]; omega) fun C hC => wk_zip h1 (fun z => ?_) h2 g1 (fun z => ?_) g2 (fun b z => hC b z)⟩⟩
      · rcases hC a z with z | z
        · exact n z
        · rw [h1] at z; cases z
      · rcases hC b z with z | z
        · exact n' z
        · rw [g1] at z; cases z
    · simp only [Rzs] at h
      obtain ⟨v, r, rfl, h, w, r', rfl, g, rfl⟩ := h
      simp only [Rz] at h g
      obtain ⟨a, vs, rfl, h1, hl, h2⟩ := h
      obtain ⟨b, ws, rfl, g1, gl, g2⟩ := g
      exact ⟨a, b, vs, ws, rfl, .inr ⟨h1.sq, g1.sq, q _ H1 a1 (by rw [zipD_length]; omega) fun C hC => wk_zipT h1 h2 g1 g2 (fun b z => hC b z)⟩⟩
    · exact q.elim
  · exact q.elim
end
end G

namespace G
open PySem PySem.Spec PyProof.Rows L2

/-! ### slots are set -/
section
variable {K : Frag} {B : Av} {Z : Zt} {T : Nat} {H0 H H' : Hp} {ε : Env} {σ : St}
theorem avE_set {i : Nat} {x : SV} {v : Option V} (hx : ∀ d, x ≠ .ow d) {a : Addr} (h : AvE B Z (ε.set i x) (σ.set i v) a) : AvE B Z ε σ a := by
  rcases h with h | h | ⟨j, d, e1, e2⟩
  · exact .inl h
  · exact .inr (.inl h)
  · by_cases hj : i = j
    · subst hj
      by_cases hl : i < ε.length
      · rw [List.getElem?_set_self hl] at e1
        exact absurd (Option.some.inj e1) (hx d)
      · rw [List.getElem?_eq_none (by simpa using hl)] at e1; cases e1
    · rw [List.getElem?_set_ne hj] at e1 e2
      exact .inr (.inr ⟨j, d, e1, e2⟩)
theorem SvOk.mono {A A' : Av} (hA : ∀ a, A' a → A a) {i : Nat} {x : SV} (h : SvOk K A B Z H0 H σ i x) : SvOk K A' B Z H0 H σ i x := by
  have f : Kp A A' H H := .of fun a o n e => ⟨fun z => n (hA a z), e⟩
  cases x with
  | un => trivial
  | fz d => obtain ⟨v, h1, h2⟩ := h; exact ⟨v, h1, h2.map f⟩
  | ow d => obtain ⟨a, h1, h2, h3, h4, h5⟩ := h; exact ⟨a, h1, h2, h3, h4, h5.map f fun o e => e⟩
  | st => exact h
  | bo d => obtain ⟨a, h1, h2, h3, h5⟩ := h; exact ⟨a, h1, h2, h3, h5.map f fun o e => e⟩
  | sc ns => obtain ⟨a, h1, h2⟩ := h; exact ⟨a, h1, h2.elim (fun ⟨n, r⟩ => .inl ⟨fun z => n (hA a z), r⟩) .inr⟩
theorem SvOk.slot {A : Av} {σ' : St} {i : Nat} {x : SV} (e : σ'[i]? = σ[i]?) (h : SvOk K A B Z H0 H σ i x) : SvOk K A B Z H0 H σ' i x := by
  cases x with
  | un => trivial
  | fz d => obtain ⟨v, h1, h2⟩ := h; exact ⟨v, e.trans h1, h2⟩
  | ow d => obtain ⟨a, h1, h2⟩ := h; exact ⟨a, e.trans h1, h2⟩
  | st => obtain ⟨p, q, c, h1, h2⟩ := h; exact ⟨p, q, c, h1, e.trans h2⟩
  | bo d => obtain ⟨a, h1, h2⟩ := h; exact ⟨a, e.trans h1, h2⟩
  | sc ns => obtain ⟨a, h1, h2⟩ := h; exact ⟨a, e.trans h1, h2⟩
/-- a slot forgotten or given a datum -/
theorem RE.set (r : RE K B Z T H0 ε σ H) {i : Nat} {x : SV} {v : Option V} (hx : ∀ d, x ≠ .ow d) (hv : i < σ.length → SvOk K (AvE B Z ε σ) B Z H0 H (σ.set i v) i x) : RE K B Z T H0 (ε.set i x) (σ.set i v) H := by
  refine ⟨fun j y e => ?_, fun j k d d' a e1 e2 e3 e4 => ?_, r.trk, r.z, r.ext, by rw [List.length_set, List.length_set, r.len], r.tb⟩
  · by_cases hj : i = j
    · subst hj
      by_cases hl : i < ε.length
      · rw [List.getElem?_set_self hl] at e
        cases e
        exact (hv (by rw [← r.len]; exact hl)).mono fun a => avE_set hx
      · rw [List.getElem?_eq_none (by simpa using hl)] at e; cases e
    · rw [List.getElem?_set_ne hj] at e
      exact ((r.slot j y e).slot (List.getElem?_set_ne hj)).mono fun a => avE_set hx
  · have nj : ∀ {j d}, (ε.set i x)[j]? = some (.ow d) → i ≠ j := fun {j d} e q => by
      subst q
      by_cases hl : i < ε.length
      · rw [List.getElem?_set_self hl] at e
        exact hx d (Option.some.inj e)
      · rw [List.getElem?_eq_none (by simpa using hl)] at e; cases e
    have n1 := nj e1
    have n2 := nj e2
    rw [List.getElem?_set_ne n1] at e1 e3
    rw [List.getElem?_set_ne n2] at e2 e4
    exact r.inj j k d d' a e1 e2 e3 e4
theorem RE.setFz (r : RE K B Z T H0 ε σ H) {i : Nat} {d : D} {v : V} (h : Rz K (AvE B Z ε σ) H d v) : RE K B Z T H0 (ε.set i (.fz d)) (σ.set i (some v)) H :=
  r.set (fun _ e => nomatch e) fun hl => ⟨v, by rw [List.getElem?_set_self hl], h⟩
theorem RE.setSt (r : RE K B Z T H0 ε σ H) {i : Nat} {v : V} (h : ∃ p q c, Z.1 = some (p, q, c) ∧ v = .ref p) : RE K B Z T H0 (ε.set i .st) (σ.set i (some v)) H :=
  r.set (fun _ e => nomatch e) fun hl => by
    obtain ⟨p, q, c, e, rfl⟩ := h
    exact ⟨p, q, c, e, by rw [List.getElem?_set_self hl]⟩
/-- a slot given a new object of its own -/
theorem RE.setOw (r : RE K B Z T H0 ε σ H) {T' : Nat} (x : Aft Z T' H H') {i : Nat} {d : D} {p : Addr} (hp : Gone H p) (h : OwnAt K (fun a => AvE B Z ε σ a ∨ a = p) H' p d) : RE K B Z T' H0 (ε.set i (.ow d)) (σ.set i (some (.ref p))) H' := by
  have r' := r.aft x
  have nB : ¬ B p := fun z => (r.trk p z).no hp
  have nZ : ¬ inZ Z p := fun z => (r.z.trk z).no hp
  have n0 : Gone H0 p := fun o q => hp o (r.ext p o nZ q)
  have sub : ∀ a, AvE B Z (ε.set i (.ow d)) (σ.set i (some (.ref p))) a → AvE B Z ε σ a ∨ a = p := fun a h => by
    rcases h with h | h | ⟨j, d', e1, e2⟩
    · exact .inl (.inl h)
    · exact .inl (.inr (.inl h))
    · by_cases hj : i = j
      · subst hj
        by_cases hl : i < σ.length
        · rw [List.getElem?_set_self hl] at e2
          cases e2; exact .inr rfl
        · rw [List.getElem?_eq_none (by simpa using hl)] at e2; cases e2
      · rw [List.getElem?_set_ne hj] at e1 e2
        exact .inl (.inr (.inr ⟨j, d', e1, e2⟩))
  have ownp : ∀ (j : Nat) (d' : D), ε[j]? = some (.ow d') → σ[j]? ≠ some (some (.ref p)) := fun j d' e q => by
    obtain ⟨b, f1, _, _, _, f2⟩ := r.slot j _ e
    rw [q] at f1
    cases f1
    exact f2.trk.no hp
  -- what stood at H avoids p
  have r2 : RE K (fun a => B a ∨ a = p) Z T' H0 ε σ H' := r.step x (fun a z => .inl z) (fun a z => z.elim .inl fun e => .inr (by rw [e]; exact hp)) fun a z => z.elim (r'.trk a) fun e => by rw [e]; exact h.trk
  have sub2 : ∀ a, AvE B Z (ε.set i (.ow d)) (σ.set i (some (.ref p))) a → AvE (fun a => B a ∨ a = p) Z ε σ a := fun a z => (sub a z).elim (fun z => z.elim (fun z => .inl (.inl z)) .inr) fun e => .inl (.inr e)
  refine ⟨fun j y e => ?_, fun j k d1 d2 a e1 e2 e3 e4 => ?_, r'.trk, r'.z, r'.ext, by rw [List.length_set, List.length_set, r.len], r.tb⟩
  · by_cases hj : i = j
    · subst hj
      by_cases hl : i < ε.length
      · rw [List.getElem?_set_self hl] at e
        cases e
        refine ⟨p, by rw [List.getElem?_set_self (by rw [← r.len]; exact hl)], nB, nZ, n0, h.map (.of fun a o n q => ⟨fun z => n (sub a z), q⟩) fun o q => q⟩
      · rw [List.getElem?_eq_none (by simpa using hl)] at e; cases e
    · rw [List.getElem?_set_ne hj] at e
      have q := ((r2.slot j y e).slot (σ' := σ.set i (some (.ref p))) (List.getElem?_set_ne hj)).mono sub2
      cases y with
      | un => trivial
      | fz d => exact q
      | ow d => obtain ⟨a, h1, h2, h3⟩ := q; exact ⟨a, h1, fun z => h2 (.inl z), h3⟩
      | st => exact q
      | bo d =>
        obtain ⟨a, h1, h2, h3, h4⟩ := r'.slot j _ e
        obtain ⟨b, k1, _, k3, k4⟩ := q
        rw [List.getElem?_set_ne hj] at k1
        rw [h1] at k1; cases k1
        exact ⟨a, by rw [List.getElem?_set_ne hj]; exact h1, h2, h3, k4⟩
      | sc ns => exact q
  · by_cases hj : i = j
    · by_cases hk : i = k
      · exact hj.symm.trans hk
      · subst hj
        rw [List.getElem?_set_ne hk] at e2 e4
        by_cases hl : i < σ.length
        · rw [List.getElem?_set_self hl] at e3
          cases e3
          exact absurd e4 (ownp k d2 e2)
        · rw [List.getElem?_eq_none (by simpa using hl)] at e3; cases e3
    · by_cases hk : i = k
      · subst hk
        rw [List.getElem?_set_ne hj] at e1 e3
        by_cases hl : i < σ.length
        · rw [List.getElem?_set_self hl] at e4
          cases e4
          exact absurd e3 (ownp j d1 e1)
        · rw [List.getElem?_eq_none (by simpa using hl)] at e4; cases e4
      · rw [List.getElem?_set_ne hj] at e1 e3
        rw [List.getElem?_set_ne hk] at e2 e4
        exact r.inj j k d1 d2 a e1 e2 e3 e4
end

/-! ### targets -/
abbrev MG := D → Env → (Env → Prop) → Prop
abbrev MGs := List D → Env → (Env → Prop) → Prop
/-- only the slots js differ -/
def SameBut (js : List Nat) (σ σ' : St) : Prop := ∀ vs : List Nat, (∀ j ∈ js, j ∈ vs) → wipe σ' vs = wipe σ vs
theorem SameBut.refl {js : List Nat} {σ : St} : SameBut js σ σ := fun _ _ => rfl
theorem SameBut.trans {js ks : List Nat} {σ σ' σ'' : St} (a : SameBut js σ σ') (b : SameBut ks σ' σ'') : SameBut (js ++ ks) σ σ'' := fun vs h =>
  (b vs fun j hj => h j (List.mem_append_right _ hj)).trans (a vs fun j hj => h j (List.mem_append_left _ hj))
theorem wipe_set {σ : St} {i : Nat} {v : Option V} : ∀ {vs : List Nat}, i ∈ vs → wipe (σ.set i v) vs = wipe σ vs
  | [], h => by cases h
  | j :: vs, h => by
    unfold wipe
    by_cases hj : j = i
    · subst hj
      have aux : ∀ (us : List Nat) (τ : St), (wipe (τ.set j v) us).set j none = (wipe τ us).set j none := by
        intro us
        induction us with
        | nil => intro τ; simp [wipe]
        | cons k us ih =>
          intro τ
          unfold wipe
          by_cases hk : k = j
          · subst hk
            rw [ih τ]
          · rw [List.set_comm _ _ hk, ih τ, List.set_comm _ _ (Ne.symm hk)]
      exact aux vs σ
    · have hi : i ∈ vs := by
        rcases List.mem_cons.mp h with e | e
        · exact absurd e.symm hj
        · exact e
      rw [wipe_set hi]
theorem SameBut.set {σ : St} {i : Nat} {v : Option V} : SameBut [i] σ (σ.set i v) := fun vs h => wipe_set (h i (List.mem_cons_self ..))
structure GPost (K : Frag) (B : Av) (Z : Zt) (T : Nat) (H0 : Hp) (js : List Nat) (ε : Env) (σ : St) (ε' : Env) (σ' : St) (H : Hp) : Prop where
  re : RE K B Z T H0 ε' σ' H
  same : SameBut js σ σ'
  sub : ∀ a, AvE B Z ε' σ' a → AvE B Z ε σ a
structure LiftG (wk : Bool) (K : Frag) (js : List Nat) (g : TG) (m : MG) : Prop where
  mono : ∀ d ε P P', (∀ ε, P ε → P' ε) → m d ε P → m d ε P'
  run : ∀ B Z T H0 ε σ H x d P (Q : St → Hp → Prop), RE K B Z T H0 ε σ H → Rzw wk K (AvE B Z ε σ) H d x → m d ε P → (∀ ε' σ', P ε' → GPost K B Z T H0 js ε σ ε' σ' H → Q σ' H) → g x σ H Q
structure LiftGs (K : Frag) (js : List Nat) (g : TGs) (m : MGs) : Prop where
  mono : ∀ d ε P P', (∀ ε, P ε → P' ε) → m d ε P → m d ε P'
  run : ∀ B Z T H0 ε σ H xs ds P (Q : St → Hp → Prop), RE K B Z T H0 ε σ H → Rzs K (AvE B Z ε σ) H ds xs → m ds ε P → (∀ ε' σ', P ε' → GPost K B Z T H0 js ε σ ε' σ' H → Q σ' H) → g xs σ H Q
def DG (X : Cx) (wk : Bool) (js : List Nat) (tg : Expr) (m : MG) : Prop := ∃ g, PG X tg g ∧ LiftG wk X.K js g m
def DGs (X : Cx) (js : List Nat) (tg : List Expr) (m : MGs) : Prop := ∃ g, PGs X tg g ∧ LiftGs X.K js g m
def gN (i : Nat) : MG := fun d ε P => P (ε.set i (.fz d))
def gsNil : MGs := fun ds ε P => ds = [] ∧ P ε
def gsCons (a : MG) (b : MGs) : MGs := fun ds ε P => match ds with
  | d :: r => a d ε fun ε' => b r ε' P
  | [] => False
def gT (n : Nat) (m : MGs) : MG := fun d ε P => match d with
  | .tup ds => ds.length = n ∧ m ds ε P
  | .lst ds => ds.length = n ∧ m ds ε P
  | _ => False
section
variable {X : Cx}
theorem dg_name (i : Nat) {x : Str} {pos : Pos} (hN : X.N.Nodup) (hi : X.N[i]? = some x := by rfl) (hx : Loc X.env.scope x := by first | exact Or.inl rfl | exact Or.inr rfl) (hf : X.fn x = true ∨ X.env.scope.names.lookup x = some .local := by first | exact .inl rfl | exact .inr rfl) : DG X false [i] (.Name x pos) (gN i) := by
  refine ⟨_, pg_name hN hi hx hf, fun d ε P P' h q => h _ q, fun B Z T H0 ε σ H x d P Q r rz q k => ?_⟩
  exact k _ _ q ⟨r.setFz rz, SameBut.set, fun a => avE_set (x := .fz d) (fun _ e => nomatch e)⟩
theorem dgs_nil : DGs X [] [] gsNil := ⟨_, pgs_nil, fun d ε P P' h q => ⟨q.1, h _ q.2⟩, fun B Z T H0 ε σ H xs ds P Q r rz q k => by
  obtain ⟨rfl, q⟩ := q
  simp only [Rzs] at rz
  exact ⟨rz, k _ _ q ⟨r, SameBut.refl, fun a h => h⟩⟩⟩
theorem dgs_cons {js ks : List Nat} {e : Expr} {es : List Expr} {a : MG} {b : MGs} (ha : DG X false js e a) (hb : DGs X ks es b) (hs : (assignEach (e :: es) X.env).map (·.2) = assign e X.env :: (assignEach es X.env).map (·.2) := by rfl) : DGs X (js ++ ks) (e :: es) (gsCons a b) := by
  obtain ⟨g, p, l⟩ := ha
  obtain ⟨g', p', l'⟩ := hb
  refine ⟨_, pgs_cons p p' hs, fun ds ε P P' h q => ?_, fun B Z T H0 ε σ H xs ds P Q r rz q k => ?_⟩
  · cases ds with
    | nil => exact q
    | cons d r => exact l.mono _ _ _ _ (fun ε q => l'.mono _ _ _ _ h q) q
  · cases ds with
    | nil => exact q.elim
    | cons d ds =>
      simp only [Rzs] at rz
      obtain ⟨v, vs, rfl, h1, h2⟩ := rz
      refine ⟨v, vs, rfl, l.run B Z _ H0 ε σ H v d _ _ r h1 q fun ε1 σ1 q1 g1 => ?_⟩
      refine l'.run B Z _ H0 ε1 σ1 H vs ds P Q g1.re (h2.map (.of fun a o n e => ⟨fun z => n (g1.sub a z), e⟩)) q1 fun ε2 σ2 q2 g2 => ?_
      exact k ε2 σ2 q2 ⟨g2.re, g1.same.trans g2.same, fun a h => g1.sub a (g2.sub a h)⟩
theorem PG.or {tg : Expr} {t t' : TG} (h : PG X tg t) (h' : PG X tg t') : PG X tg (fun v σ H Q => t v σ H Q ∨ t' v σ H Q) := ⟨fun pins s σ H v u Q I r q => q.elim (h.run pins s σ H v u Q I r) (h'.run pins s σ H v u Q I r)⟩
theorem dg_tup {wk : Bool} {js : List Nat} {es : List Expr} {k : Nat} {pos : Pos} {m : MGs} {n : Nat} (hc : X.calm = true) (h : DGs X js es m) (hn : (assignEach es X.env).length = n := by rfl) (hst : (assignEach es X.env).findIdx? (·.1) = none := by rfl) : DG X wk js (.Tuple es k pos) (gT n m) := by
  obtain ⟨g, p, l⟩ := h
  refine ⟨_, PG.or (pg_tup hc p hn hst) (pg_lst hc p hn hst), fun d ε P P' h q => ?_, fun B Z T H0 ε σ H x d P Q r rz q k => ?_⟩
  · unfold gT at q ⊢
    split at q
    · exact ⟨q.1, l.mono _ _ _ _ h q.2⟩
    · exact ⟨q.1, l.mono _ _ _ _ h q.2⟩
    · exact q
  · unfold gT at q
    split at q
    · cases wk with
      | true =>
        obtain ⟨a, vs, rfl, h1, hl, h2⟩ := (show RzP X.K _ H (.tup _) x from rz)
        exact .inl ⟨a, vs, rfl, .inl h1.2, by rw [h2.length]; exact q.1, l.run B Z _ H0 ε σ H vs _ P Q r h2 q.2 k⟩
      | false =>
        have rz : Rz X.K _ H (.tup _) x := rz
        simp only [Rz] at rz
        obtain ⟨a, vs, rfl, h1, hl, h2⟩ := rz
        exact .inl ⟨a, vs, rfl, h1.sq, by rw [h2.length]; exact q.1, l.run B Z _ H0 ε σ H vs _ P Q r h2 q.2 k⟩
    · cases wk with
      | true => exact (show False from rz).elim
      | false =>
      have rz : Rz X.K _ H (.lst _) x := rz
      simp only [Rz] at rz
      obtain ⟨a, vs, rfl, h1, hl, h2⟩ := rz
      exact .inr ⟨a, vs, rfl, h1.sq, by rw [h2.length]; exact q.1, l.run B Z _ H0 ε σ H vs _ P Q r h2 q.2 k⟩
    · exact q.elim
end

/-! ### a reading made of what is done to data -/
def tOfE (K : Frag) (mg : Str → Option Value) (W : WX) (m : ME) (c : Nat) : TE := fun σ H Q => ∃ (B : Av) (Z : Zt) (T T' : Nat) (H0 : Hp) (ε : Env) (Ex : XC → Prop), (T + c ≤ T' ∧ T' ≤ LIM) ∧ RE K B Z T H0 ε σ H ∧ (∀ c C H', Ex c → mg c = some (.ref C) → Aft Z T' H H' → W (.ref C) none σ H') ∧
  m ε (fun iv => ∀ v H', Aft Z T' H H' → RV K (AvE B Z ε σ) Z H H' v iv → Q v H') Ex
def tOfT (K : Frag) (mg : Str → Option Value) (W : WX) (m : MT) (c : Nat) : TT := fun σ H Q => ∃ (B : Av) (Z : Zt) (T T' : Nat) (H0 : Hp) (ε : Env) (Ex : XC → Prop), (T + c ≤ T' ∧ T' ≤ LIM) ∧ RE K B Z T H0 ε σ H ∧ (∀ c C H', Ex c → mg c = some (.ref C) → Aft Z T' H H' → W (.ref C) none σ H') ∧
  m ε (fun b => ∀ H', Aft Z T' H H' → Q b H') Ex
def tOfG (wk : Bool) (K : Frag) (js : List Nat) (m : MG) : TG := fun x σ H Q => ∃ (B : Av) (Z : Zt) (T : Nat) (H0 : Hp) (ε : Env) (d : D) (P : Env → Prop), RE K B Z T H0 ε σ H ∧ Rzw wk K (AvE B Z ε σ) H d x ∧ m d ε P ∧ ∀ ε' σ', P ε' → GPost K B Z T H0 js ε σ ε' σ' H → Q σ' H
section
variable {X : Cx} {W : WX}
theorem DE.can {e : Expr} {m : ME} {c : Nat} (h : DE X W e m c) : PE X e (tOfE X.K X.mg W m c) := by
  obtain ⟨t, p, l⟩ := h
  refine ⟨fun pins s σ H Q I q => ?_⟩
  obtain ⟨B, Z, T, T', H0, ε, Ex, hT, r, hx, q⟩ := q
  exact p.run pins s σ H Q I (l.run B Z H0 ε σ H Q Ex r hx q)
theorem DT.can {e : Expr} {m : MT} {c : Nat} (h : DT X W e m c) : PT X e (tOfT X.K X.mg W m c) := by
  obtain ⟨t, p, l⟩ := h
  refine ⟨fun pins s σ H Q I q => ?_⟩
  obtain ⟨B, Z, T, T', H0, ε, Ex, hT, r, hx, q⟩ := q
  exact p.run pins s σ H Q I (l.run B Z H0 ε σ H Q Ex r hx q)
theorem DG.can {wk : Bool} {js : List Nat} {e : Expr} {m : MG} (h : DG X wk js e m) : PG X e (tOfG wk X.K js m) := by
  obtain ⟨t, p, l⟩ := h
  refine ⟨fun pins s σ H v u Q I r q => ?_⟩
  obtain ⟨B, Z, T, H0, ε, d, P, re, rz, q, k⟩ := q
  exact p.run pins s σ H v u Q I r (l.run B Z _ H0 ε σ H v d P Q re rz q k)
theorem DE.mono {e : Expr} {m : ME} {c : Nat} (h : DE X W e m c) : ∀ ε Q Q' Ex Ex', (∀ x, Q x → Q' x) → (∀ c, Ex c → Ex' c) → m ε Q Ex → m ε Q' Ex' := let ⟨_, _, l⟩ := h; l.mono
theorem DT.mono {e : Expr} {m : MT} {c : Nat} (h : DT X W e m c) : ∀ ε Q Q' Ex Ex', (∀ x, Q x → Q' x) → (∀ c, Ex c → Ex' c) → m ε Q Ex → m ε Q' Ex' := let ⟨_, _, l⟩ := h; l.mono
theorem DG.mono {wk : Bool} {js : List Nat} {e : Expr} {m : MG} (h : DG X wk js e m) : ∀ d ε P P', (∀ ε, P ε → P' ε) → m d ε P → m d ε P' := let ⟨_, _, l⟩ := h; l.mono
end
end G

namespace G
open PySem PySem.Spec PyProof.Rows L2
/-! ### comprehensions -/
def SV.lent : SV → SV
  | .ow d => .bo d
  | x => x
def wipeE (ε : Env) : List Nat → Env
  | [] => ε
  | v :: vs => (wipeE ε vs).set v .un
/-- the environment within a comprehension's block -/
def blkE (ε : Env) (vs : List Nat) : Env := wipeE (ε.map SV.lent) vs
theorem wipeE_length (ε : Env) : ∀ vs : List Nat, (wipeE ε vs).length = ε.length
  | [] => rfl
  | v :: vs => by unfold wipeE; rw [List.length_set, wipeE_length ε vs]
theorem wipeE_get {ε : Env} {i : Nat} {x : SV} : ∀ {vs : List Nat}, (wipeE ε vs)[i]? = some x → x = .un ∨ (ε[i]? = some x ∧ i ∉ vs)
  | [], h => .inr ⟨h, by simp⟩
  | v :: vs, h => by
    unfold wipeE at h
    by_cases hi : v = i
    · subst hi
      by_cases hv : v < (wipeE ε vs).length
      · rw [List.getElem?_set_self hv] at h; cases h; exact .inl rfl
      · rw [List.getElem?_eq_none (by simpa using hv)] at h; cases h
    · rw [List.getElem?_set_ne hi] at h
      rcases wipeE_get h with h | ⟨h1, h2⟩
      · exact .inl h
      · exact .inr ⟨h1, by simp only [List.mem_cons, not_or]; exact ⟨fun e => hi e.symm, h2⟩⟩
theorem blkE_get {ε : Env} {vs : List Nat} {i : Nat} {x : SV} (h : (blkE ε vs)[i]? = some x) : x = .un ∨ ∃ y, ε[i]? = some y ∧ x = y.lent ∧ i ∉ vs := by
  rcases wipeE_get h with h | ⟨h1, h2⟩
  · exact .inl h
  · rw [List.getElem?_map] at h1
    cases q : ε[i]? with
    | none => rw [q] at h1; cases h1
    | some y => rw [q] at h1; cases h1; exact .inr ⟨y, rfl, rfl, h2⟩
theorem lent_ow {x : SV} {d : D} : x.lent ≠ .ow d := by cases x <;> (intro h; cases h)
theorem blkE_ow {ε : Env} {vs : List Nat} {i : Nat} {d : D} (h : (blkE ε vs)[i]? = some (.ow d)) : False := by
  rcases blkE_get h with h | ⟨y, _, h, _⟩
  · cases h
  · exact lent_ow h.symm
section
variable {K : Frag} {B : Av} {Z : Zt} {T : Nat} {H0 H1 H : Hp} {ε : Env} {σ : St} {Dl : Addr} {vs : List Nat}
theorem avE_blk {a : Addr} (h : AvE (fun a => B a ∨ Own ε σ a ∨ a = Dl) Z (blkE ε vs) (wipe σ vs) a) : AvE B Z ε σ a ∨ a = Dl := by
  rcases h with (h | h | h) | h | ⟨i, d, e, _⟩
  · exact .inl (.inl h)
  · exact .inl (.inr (.inr h))
  · exact .inr h
  · exact .inl (.inr (.inl h))
  · exact (blkE_ow e).elim
theorem avE_blk' {a : Addr} (h : AvE B Z ε σ a ∨ a = Dl) : AvE (fun a => B a ∨ Own ε σ a ∨ a = Dl) Z (blkE ε vs) (wipe σ vs) a := by
  rcases h with (h | h | h) | h
  · exact .inl (.inl h)
  · exact .inr (.inl h)
  · exact .inl (.inr (.inl h))
  · exact .inl (.inr (.inr h))
/-- the block's own state, at each turn -/
theorem RE.blk (r : RE K B Z T H0 ε σ H1) (hD : H1 Dl = none) (x : ExA (fun a => inZ Z a ∨ a = Dl) H1 H) {T' : Nat} (z : ZOk Z T' H) (hD2 : Lv H Dl) : RE K (fun a => B a ∨ Own ε σ a ∨ a = Dl) Z T' H (blkE ε vs) (wipe σ vs) H := by
  have nD : ∀ a o, At H1 a o → a ≠ Dl := fun a o e => e.ne hD
  have keep : ∀ a o, ¬ inZ Z a → At H1 a o → At H a o := fun a o n e => x a o (fun q => q.elim n (nD a o e)) e
  have f0 : ∀ a o, ¬ AvE B Z ε σ a → At H1 a o → ¬ AvE (fun a => B a ∨ Own ε σ a ∨ a = Dl) Z (blkE ε vs) (wipe σ vs) a ∧ At H a o := fun a o n e =>
    ⟨fun q => (avE_blk q).elim n (nD a o e), keep a o (fun q => n (.inr (.inl q))) e⟩
  have f : Kp (AvE B Z ε σ) (AvE (fun a => B a ∨ Own ε σ a ∨ a = Dl) Z (blkE ε vs) (wipe σ vs)) H1 H := .of f0
  have trk : ∀ a, Lv H1 a → Lv H a := fun a ⟨o, e⟩ => by
    by_cases q : inZ Z a
    · exact z.trk q
    · exact ⟨o, keep a o q e⟩
  refine ⟨fun i y e => ?_, fun i j d d' a e _ _ _ => (blkE_ow e).elim, fun a h => ?_, z, ExA.refl, by unfold blkE; rw [wipeE_length, wipe_length, List.length_map, r.len], r.tb⟩
  · rcases blkE_get e with rfl | ⟨y', e', rfl, ni⟩
    · trivial
    · have q := r.slot i y' e'
      have es : (wipe σ vs)[i]? = σ[i]? := wipe_out ni
      cases y' with
      | un => trivial
      | fz d => obtain ⟨v, h1, h2⟩ := q; exact ⟨v, es.trans h1, h2.map f⟩
      | ow d =>
        obtain ⟨a, h1, h2, h3, h4, h5⟩ := q
        exact ⟨a, es.trans h1, .inr (.inl ⟨i, d, e', h1⟩), h3, h5.map f fun o e => keep a o h3 e⟩
      | st => obtain ⟨p, q', c, h1, h2⟩ := q; exact ⟨p, q', c, h1, es.trans h2⟩
      | bo d =>
        obtain ⟨a, h1, h2, h3, h5⟩ := q
        exact ⟨a, es.trans h1, .inl h2, h3, h5.map f fun o e => keep a o h3 e⟩
      | sc ns =>
        obtain ⟨a, h1, ⟨h2, h4⟩ | hk⟩ := q
        · exact ⟨a, es.trans h1, .inl (rd_at f0 h2 h4)⟩
        · exact ⟨a, es.trans h1, .inr hk⟩
  · rcases h with h | h | h
    · exact trk a (r.trk a h)
    · exact trk a (r.trkA (.inr (.inr h)))
    · rw [h]; exact hD2
end

theorem SameBut.wipe {σ : St} : ∀ vs : List Nat, SameBut vs σ (L2.wipe σ vs)
  | [] => SameBut.refl
  | v :: vs => fun us h => by
    show L2.wipe ((L2.wipe σ vs).set v none) us = _
    rw [wipe_set (h v (List.mem_cons_self ..))]
    exact SameBut.wipe vs us fun j hj => h j (List.mem_cons_of_mem _ hj)
theorem wipe_idem {σ : St} (vs : List Nat) : L2.wipe (L2.wipe σ vs) vs = L2.wipe σ vs := SameBut.wipe vs vs fun _ h => h
/-- what a comprehension makes of the data ds, acc so far -/
def compD (mg : MG) (mt : MT) (me : ME) (ε : Env) (Q : List D → Prop) : List D → List D → Prop
  | [], acc => Q acc
  | d :: r, acc => mg d ε fun ε1 => mt ε1 (fun b => if b = true then me ε1 (onD fun x => compD mg mt me ε Q r (acc ++ [x])) (fun _ => False) else compD mg mt me ε Q r acc) (fun _ => False)
def mLC (vs : List Nat) (mw : MW) (mg : MG) (mt : MT) (me : ME) : ME := fun ε Q Ex => mw ε (fun ds => compD mg mt me (blkE ε vs) (fun out => Q (.fr (.lst out))) ds []) Ex
def mYes : MT := fun _ Q _ => Q true
section
variable {X : Cx} {W : WX}
abbrev W0 : WX := fun _ _ _ _ => False
theorem compD_mono {mg : MG} {mt : MT} {me : ME} {ε : Env} (hg : ∀ d ε P P', (∀ ε, P ε → P' ε) → mg d ε P → mg d ε P') (ht : ∀ ε Q Q' Ex Ex', (∀ x, Q x → Q' x) → (∀ c, Ex c → Ex' c) → mt ε Q Ex → mt ε Q' Ex') (he : ∀ ε Q Q' Ex Ex', (∀ x, Q x → Q' x) → (∀ c, Ex c → Ex' c) → me ε Q Ex → me ε Q' Ex')
    {Q Q' : List D → Prop} (h : ∀ o, Q o → Q' o) : ∀ ds acc, compD mg mt me ε Q ds acc → compD mg mt me ε Q' ds acc
  | [], acc, q => h _ q
  | d :: r, acc, q => by
    unfold compD at q ⊢
    refine hg _ _ _ _ (fun ε1 q => ht _ _ _ _ _ (fun b q => ?_) (fun _ x => x) q) q
    cases b with
    | true =>
      simp only [if_true] at q ⊢
      exact he _ _ _ _ _ (onD_mono fun x q => compD_mono hg ht he h r _ q) (fun _ x => x) q
    | false =>
      simp only [Bool.false_eq_true, if_false] at q ⊢
      exact compD_mono hg ht he h r _ q
theorem lift_lc {wk : Bool} {wi : TI} {mw : MW} {mg : MG} {mt : MT} {me : ME} {js vs : List Nat} {cw ct ce : Nat} (lw : LiftW X W false wk wi mw cw) (hjs : ∀ j ∈ js, j ∈ vs)
    (mog : ∀ d ε P P', (∀ ε, P ε → P' ε) → mg d ε P → mg d ε P') (mot : ∀ ε Q Q' Ex Ex', (∀ x, Q x → Q' x) → (∀ c, Ex c → Ex' c) → mt ε Q Ex → mt ε Q' Ex') (moe : ∀ ε Q Q' Ex Ex', (∀ x, Q x → Q' x) → (∀ c, Ex c → Ex' c) → me ε Q Ex → me ε Q' Ex') :
    LiftE X W (tLc wi (tOfG wk X.K js mg) (tOfT X.K X.mg W0 mt ct) (tOfE X.K X.mg W0 me ce) vs) (mLC vs mw mg mt me) (cw + sizeLine * (ct + ce)) := by
  refine ⟨fun ε Q Q' Ex Ex' hq hx q => lw.mono ε _ _ _ _ (fun ds q => compD_mono mog mot moe (fun o q => hq _ q) _ _ q) hx q, fun B Z T H0 ε σ H Q Ex hL r hx q => ?_⟩
  refine lw.run B Z H0 ε σ H _ Ex r (hx.at (T + cw)) (lw.mono ε _ _ _ _ (fun ds q J H1 a1 hlen wk Dl hD => ?_) (fun _ x => x) q)
  have r1 := r.aft a1
  generalize hcb : ct + ce = cb at *
  have tstep : ∀ i, i < ds.length → T + cw + i * cb + cb ≤ T + (cw + sizeLine * cb) := fun i hi => by
    have h : (i + 1) * cb ≤ sizeLine * cb := Nat.mul_le_mul_right _ (by omega)
    rw [Nat.succ_mul] at h
    omega
  have tend : T + cw + ds.length * cb ≤ T + (cw + sizeLine * cb) := by
    have h : ds.length * cb ≤ sizeLine * cb := Nat.mul_le_mul_right _ hlen
    omega
  obtain ⟨Gd, Y, w, hGd, hY'⟩ := wk (fun a => inZ Z a ∨ a = Dl) (fun a h => h.elim .inl fun e => .inr (by rw [e]; exact hD))
  have hY := hY' (fun a => AvE B Z ε σ a ∨ a = Dl) (fun a h => h.elim .inl fun e => .inr (by rw [e]; exact .of hD))
  have xu : ExA (fun a => inZ Z a ∨ a = Dl) H1 (upd H1 Dl (.lst [])) := ExA.new hD
  generalize hQL : (fun out : List D => (fun iv : IV => ∀ (v : V) (H' : Hp), Aft Z (T + (cw + sizeLine * cb)) H H' → RV X.K (AvE B Z ε σ) Z H H' v iv → Q v H') (.fr (.lst out))) = QL at q
  -- what holds at a heap of the block
  have trkA : ∀ H2 T2, ExA (fun a => inZ Z a ∨ a = Dl) H1 H2 → ZOk Z T2 H2 → Lv H2 Dl → ∀ a, AvE B Z ε σ a ∨ a = Dl → Lv H2 a := fun H2 T2 x z hd a h => by
    rcases h with h | h
    · obtain ⟨o, e⟩ := r1.trkA h
      by_cases q : inZ Z a
      · exact z.trk q
      · exact ⟨o, x a o (fun q' => q'.elim q (e.ne hD)) e⟩
    · rw [h]; exact hd
  refine lc_it w (Pv := fun i H2 => ∃ (acc : List D) (accV : List V), H2 Dl = some (.lst accV) ∧ acc.length ≤ i ∧ Rzs X.K (fun a => AvE B Z ε σ a ∨ a = Dl) H2 acc accV ∧ ExA (fun a => inZ Z a ∨ a = Dl) H1 H2 ∧ ZOk Z (T + cw + i * cb) H2 ∧
      compD mg mt me (blkE ε vs) QL (ds.drop i) acc) ?_ ?_ ?_ ?_
  · exact ⟨[], [], upd_same, Nat.le_refl _, .nil, ExA.new hD, by rw [Nat.zero_mul]; exact (Aft.new r1.z hD).z, q⟩
  · rintro i H2 _ ⟨acc, accV, _, _, _, x, _⟩
    exact hGd H2 x
  · rintro i x H2 H3 hi ⟨acc, accV, h1, h2, h3, h4, h5, h6⟩ y
    obtain ⟨d, hd, grow, rx⟩ := hY i H2 x H3 hi h4 (trkA H2 _ h4 h5 ⟨_, .mk h1⟩) y
    obtain ⟨hlt, e1⟩ := List.getElem?_eq_some_iff.mp hd
    rw [List.drop_eq_getElem_cons hlt, e1] at h6
    have x3 : ExA (fun a => inZ Z a ∨ a = Dl) H1 H3 := h4.trans fun a o _ e => e.grow grow
    have z3 : ZOk Z (T + cw + i * cb) H3 := h5.grow grow
    have d3 : H3 Dl = some (.lst accV) := grow _ _ h1
    have r3 := r1.blk (vs := vs) hD x3 z3 ⟨_, .mk d3⟩
    have acc3 : Rzs X.K (fun a => AvE B Z ε σ a ∨ a = Dl) H3 acc accV := h3.map (.of fun a o n e => ⟨n, e.grow grow⟩)
    unfold compD at h6
    have ts := tstep i hi
    refine ⟨_, Z, _, H3, blkE ε vs, d, _, r3, Rzw.map (fun a o n e => ⟨fun z => n (avE_blk z), e⟩) rx, h6, fun ε1 σ1 q1 g1 => ?_⟩
    refine ⟨(g1.same vs hjs).trans (wipe_idem vs), ?_⟩
    refine ⟨_, Z, _, T + cw + i * cb + ct, H3, ε1, fun _ => False, ⟨by omega, by omega⟩, g1.re, fun c C H' e => e.elim, mot _ _ _ _ _ (fun b q H4 a4 => ?_) (fun _ x => x) q1⟩
    have x4 : ExA (fun a => inZ Z a ∨ a = Dl) H1 H4 := x3.trans fun a o n e => a4.ex a o (fun z => n (.inl z)) e
    have nZD : ¬ inZ Z Dl := fun z => (r1.z.trk z).ne hD
    have d4 : H4 Dl = some (.lst accV) := (a4.ex _ _ nZD (.mk d3)).1
    have acc4 : Rzs X.K (fun a => AvE B Z ε σ a ∨ a = Dl) H4 acc accV := acc3.map (.of fun a o n e => ⟨n, a4.ex a o (fun z => n (.inl (.inr (.inl z)))) e⟩)
    cases b with
    | false =>
      simp only [Bool.false_eq_true, if_false] at q ⊢
      exact ⟨acc, accV, d4, Nat.le_succ_of_le h2, acc4, x4, a4.z.up (by rw [Nat.succ_mul]; omega), q⟩
    | true =>
      simp only [if_true] at q ⊢
      refine ⟨_, Z, _, T + cw + i * cb + cb, H3, ε1, fun _ => False, ⟨by omega, by omega⟩, g1.re.aft a4, fun c C H' e => e.elim, moe _ _ _ _ _ (fun iv q v H5 a5 rv => ?_) (fun _ x => x) q⟩
      have r5 := (g1.re.aft a4).aft a5
      have d5 : H5 Dl = some (.lst accV) := (a5.ex _ _ nZD (.mk d4)).1
      have acc5 : Rzs X.K (fun a => AvE B Z ε σ a ∨ a = Dl) H5 acc accV := acc4.map (.of fun a o n e => ⟨n, a5.ex a o (fun z => n (.inl (.inr (.inl z)))) e⟩)
      have x5 : ExA (fun a => inZ Z a ∨ a = Dl) H1 H5 := x4.trans fun a o n e => a5.ex a o (fun z => n (.inl z)) e
      have hacc : accV.length = acc.length := acc5.length
      have lt : acc.length < sizeLine := by omega
      refine ⟨accV, d5, by omega, ?_⟩
      have fin : ∀ d', Rz X.K (AvE (fun a => B a ∨ Own ε σ a ∨ a = Dl) Z ε1 σ1) H5 d' v → compD mg mt me (blkE ε vs) QL (ds.drop (i + 1)) (acc ++ [d']) → ∃ (acc : List D) (accV' : List V), (upd H5 Dl (.lst (accV ++ [v]))) Dl = some (.lst accV') ∧ acc.length ≤ i + 1 ∧
          Rzs X.K (fun a => AvE B Z ε σ a ∨ a = Dl) (upd H5 Dl (.lst (accV ++ [v]))) acc accV' ∧ ExA (fun a => inZ Z a ∨ a = Dl) H1 (upd H5 Dl (.lst (accV ++ [v]))) ∧ ZOk Z (T + cw + (i + 1) * cb) (upd H5 Dl (.lst (accV ++ [v]))) ∧ compD mg mt me (blkE ε vs) QL (ds.drop (i + 1)) acc := fun d' rd q => by
        have up : Kp (fun a => AvE B Z ε σ a ∨ a = Dl) (fun a => AvE B Z ε σ a ∨ a = Dl) H5 (upd H5 Dl (.lst (accV ++ [v]))) := .of fun a o n e => ⟨n, e.but (fun z => n (.inr z))⟩
        refine ⟨acc ++ [d'], accV ++ [v], upd_same, by rw [List.length_append]; simp; exact h2, (acc5.map up).append (.one ?_), ?_, (a5.z.but nZD (fun φ z => by rw [d5] at z; cases z) (fun ps z => by rw [d5] at z; cases z)).up (by rw [Nat.succ_mul]; omega), q⟩
        · refine Rz.map up (rd.map (.of fun a o n e => ⟨fun z => n ?_, e⟩))
          rcases z with (z | z | z) | z
          · exact .inl (.inl z)
          · exact .inr (.inl z)
          · exact .inl (.inr (.inl z))
          · exact .inl (.inr (.inr z))
        · exact x5.trans fun a o n e => e.but (fun z => n (.inr z))
      cases iv with
      | fz d' => exact fin d' rv q
      | fr d' => exact fin d' (RV.rz (g1.re.aft a4) rv) q
      | st => exact q.elim
      | bo d' => exact q.elim
  · rintro H2 ⟨acc, accV, h1, h2, h3, h4, h5, h6⟩
    rw [List.drop_length] at h6
    have h6 : QL acc := h6
    rw [← hQL] at h6
    have nZD : ¬ inZ Z Dl := fun z => (r1.z.trk z).ne hD
    have a2 : Aft Z (T + cw + ds.length * cb) H1 H2 := ⟨fun a o n e => h4 a o (fun q => q.elim n (e.ne hD)) e, h5⟩
    exact h6 (.ref Dl) H2 (a1.trans a2).up ⟨Dl, rfl, a1.none_back (.of hD), accV, h1, by have := h3.length; omega, h3⟩
/-- a clause's tests -/
def DTs (X : Cx) (W : WX) (ifs : List Expr) (m : MT) (c : Nat) : Prop := ∃ t, PTs X ifs t ∧ LiftT X W t m c
theorem dts_nil : DTs X W [] mYes 0 := ⟨_, pts_nil, fun _ _ _ _ _ hq _ q => hq _ q, fun _ _ _ _ _ _ H _ _ _ r _ q => q H r.aftRefl⟩
theorem dts_one {c : Expr} {m : MT} {cc : Nat} (h : DT X W c m cc) : DTs X W [c] m cc := let ⟨t, p, l⟩ := h; ⟨t, pts_one p, l⟩
theorem DTs.can {e : List Expr} {m : MT} {cc : Nat} (h : DTs X W e m cc) : PTs X e (tOfT X.K X.mg W m cc) := by
  obtain ⟨t, p, l⟩ := h
  refine ⟨fun pins s σ H Q I q => ?_⟩
  obtain ⟨B, Z, T, T', H0, ε, Ex, hT, r, hx, q⟩ := q
  exact p.run pins s σ H Q I (l.run B Z H0 ε σ H Q Ex r hx q)
theorem DTs.mono {e : List Expr} {m : MT} {cc : Nat} (h : DTs X W e m cc) : ∀ ε Q Q' Ex Ex', (∀ x, Q x → Q' x) → (∀ c, Ex c → Ex' c) → m ε Q Ex → m ε Q' Ex' := let ⟨_, _, l⟩ := h; l.mono
/-- [elt for tg in iter if ..] -/
theorem de_lc {wk : Bool} (own : List (Str × Nat)) {elt tg iter : Expr} {ifs : List Expr} {scope : Scope} {pos : Pos} {mw : MW} {mg : MG} {mt : MT} {me : ME} {js : List Nat} {cw ct ce : Nat} (hc : X.calm = true) (hN : X.N.Nodup) (hi : DWk X W false wk tg iter mw cw)
    (hg : ∀ (s : Shared) (H : Hp) (C : Addr) (cl : List (Str × Addr)) (fp : List Addr), DG (X.blk s H scope (compEnvC scope cl C X.env) fp) wk js tg mg)
    (ht : ∀ (s : Shared) (H : Hp) (C : Addr) (cl : List (Str × Addr)) (fp : List Addr), DTs (X.blk s H scope (compEnvC scope cl C X.env) fp) W0 ifs mt ct)
    (he : ∀ (s : Shared) (H : Hp) (C : Addr) (cl : List (Str × Addr)) (fp : List Addr), DE (X.blk s H scope (compEnvC scope cl C X.env) fp) W0 elt me ce)
    (ok : blkC X.N X.env.scope scope own = true := by decide +kernel) (hjs : ∀ j ∈ js, j ∈ own.map (·.2) := by decide) (hs : ∀ x, foldedSetIterable iter X.env x = pure x := by intro _; rfl) :
    DE X W (.ListComp elt [⟨tg, iter, ifs, 0⟩] scope pos) (mLC (own.map (·.2)) mw mg mt me) (cw + sizeLine * (ct + ce)) := by
  obtain ⟨wi, pi, lw⟩ := hi
  refine ⟨_, pe_lc (g := tOfG wk X.K js mg) (tt := tOfT X.K X.mg W0 mt ct) (te := tOfE X.K X.mg W0 me ce) hc hN pi (blkOk_by ok) (fun s H C cl fp => (hg s H C cl fp).can) (fun s H C cl fp => (ht s H C cl fp).can) (fun s H C cl fp => (he s H C cl fp).can) hs, ?_⟩
  exact lift_lc lw hjs (hg X.s_0 (fun _ => none) 0 [] []).mono (ht X.s_0 (fun _ => none) 0 [] []).mono (he X.s_0 (fun _ => none) 0 [] []).mono
end
end G

namespace G
open PySem PySem.Spec PyProof.Rows L2
section
variable {X : Cx} {W : WX}
/-! ### ends -/
theorem LE.rebase {B : Av} {Z : Zt} {T : Nat} {H0 : Hp} {De : EndsD} {D : Ends} (l : LE X W B Z T H0 De D) {De' : EndsD} (nx : St → Hp → Prop) (h : ∀ ε σ H, De'.nx ε → RE X.K B Z T H0 ε σ H → nx σ H) (hrt : De'.rt = De.rt) (hbk : De'.bk = De.bk) (hct : De'.ct = De.ct) (hex : De'.ex = De.ex) :
    LE X W B Z T H0 De' { D with nx := nx } := by
  obtain ⟨nx', rt', bk', ct', ex'⟩ := De'
  cases hrt; cases hbk; cases hct; cases hex
  exact ⟨h, l.bk, l.ct, l.rt, l.ex⟩
theorem LE.xw {B : Av} {Z : Zt} {T T' : Nat} {H0 H : Hp} {De : EndsD} {D : Ends} {ε : Env} {σ : St} (l : LE X W B Z T' H0 De D) (r : RE X.K B Z T H0 ε σ H) : XW X W Z T' σ H (fun c => De.ex c ε) := fun c C H' e m a => l.ex c C ε σ H' e m (r.aft a)
/-! ### blocks -/
def mNext : MS := fun De ε => De.nx ε
def mSeq (a b : MS) : MS := fun De ε => a { De with nx := b De } ε
theorem lift_next : LiftS X W tNext mNext 0 := ⟨fun ε De De' h q => h.nx _ q, fun B Z T H0 ε σ H De D hL r l q => l.nx ε σ H q r⟩
theorem lift_seq {t u : TS} {a b : MS} (la : LiftS X W t a cla) (lb : LiftS X W u b clb) : LiftS X W (tSeq t u) (mSeq a b) (cla + clb) := by
  refine ⟨fun ε De De' h q => la.mono ε { De with nx := b De } _ ⟨fun ε q => lb.mono _ De De' h q, h.rt, h.bk, h.ct, h.ex⟩ q, fun B Z T H0 ε σ H De D hL r l q => ?_⟩
  exact la.run B Z H0 ε σ H { De with nx := b De } _ r ((l.at (T + cla)).rebase (De' := { De with nx := b De }) (u D) (fun ε σ H q r => lb.run B Z H0 ε σ H De D r l q) rfl rfl rfl rfl) q
theorem dss_nil : DSs X W [] mNext 0 := ⟨_, pss_nil, lift_next⟩
theorem dss_one {s : Stmt} {a : MS} (h : DS X W s a ch) : DSs X W [s] a ch := let ⟨t, p, l⟩ := h; ⟨t, pss_one p, l⟩
theorem dss_cons {s : Stmt} {r : List Stmt} {a b : MS} (h : DS X W s a ch) (k : DSs X W r b ck) : DSs X W (s :: r) (mSeq a b) (ch + ck) := let ⟨_, p, l⟩ := h; let ⟨_, q, m⟩ := k; ⟨_, pss_cons p q, lift_seq l m⟩
theorem ds_pass {pos : Pos} : DS X W (.Pass pos) mNext 0 := ⟨_, ps_pass, lift_next⟩
def mBreak : MS := fun De ε => De.bk ε
def mCont : MS := fun De ε => De.ct ε
theorem ds_break {pos : Pos} : DS X W (.Break pos) mBreak 0 := ⟨_, ps_break, fun ε De De' h q => h.bk _ q, fun B Z T H0 ε σ H De D hL r l q => l.bk ε σ H q r⟩
theorem ds_cont {pos : Pos} : DS X W (.Continue pos) mCont 0 := ⟨_, ps_continue, fun ε De De' h q => h.ct _ q, fun B Z T H0 ε σ H De D hL r l q => l.ct ε σ H q r⟩
/-! ### return -/
def onR (Q : IV → Prop) : IV → Prop
  | .bo _ => False
  | x => Q x
@[simp] theorem onR_fz {Q : IV → Prop} {d : D} : onR Q (.fz d) = Q (.fz d) := rfl
@[simp] theorem onR_fr {Q : IV → Prop} {d : D} : onR Q (.fr d) = Q (.fr d) := rfl
@[simp] theorem onR_st {Q : IV → Prop} : onR Q .st = Q .st := rfl
theorem onR_mono {Q Q' : IV → Prop} (h : ∀ d, Q d → Q' d) : ∀ d, onR Q d → onR Q' d := fun d q => by
  cases d <;> first | exact h _ q | exact q
def mRet (m : ME) : MS := fun De ε => m ε (onR De.rt) (fun c => De.ex c ε)
theorem RE.aft0 {K : Frag} {B : Av} {Z : Zt} {T : Nat} {H0 H : Hp} {ε : Env} {σ : St} (r : RE K B Z T H0 ε σ H) : Aft Z T H0 H := ⟨r.ext, r.z⟩
theorem lift_ret {t : TE} {m : ME} (l : LiftE X W t m cl) : LiftS X W (tRet t) (mRet m) cl := by
  refine ⟨fun ε De De' h q => l.mono _ _ _ _ _ (onR_mono h.rt) (fun c x => h.ex c ε x) q, fun B Z T H0 ε σ H De D hL r le q => ?_⟩
  refine l.run B Z H0 ε σ H _ _ r (le.xw r) (l.mono _ _ _ _ _ (fun iv q v H' a rv => ?_) (fun _ x => x) q)
  have r' := r.aft a
  have sub : ∀ a, (B a ∨ inZ Z a) → AvE B Z ε σ a := fun a z => z.elim .inl fun z => .inr (.inl z)
  cases iv with
  | fz d => exact le.rt _ v H' q r'.aft0 r'.trk (Rz.map (.of fun a o n e => ⟨fun z => n (sub a z), e⟩) rv)
  | fr d =>
    obtain ⟨p, e, hn, ho⟩ := rv
    exact le.rt _ v H' q r'.aft0 r'.trk ⟨p, e, r.aft0.none_back hn, ho.map (.of fun a o n e => ⟨fun z => n (z.elim (fun z => .inl (sub a z)) .inr), e⟩) fun o e => e⟩
  | st => exact le.rt _ v H' q r'.aft0 r'.trk rv
  | bo d => exact q.elim
theorem ds_ret {e : Expr} {m : ME} {pos : Pos} (h : DE X W e m ch) : DS X W (.Return (some e) pos) (mRet m) ch := let ⟨_, p, l⟩ := h; ⟨_, ps_ret p, lift_ret l⟩
/-- return x, x's own object handed over -/
def mRetV (i : Nat) : MS := fun De ε => match ε[i]? with
  | some (.fz d) => De.rt (.fz d)
  | some (.ow d) => De.rt (.fr d)
  | some .st => De.rt .st
  | _ => False
theorem ds_retv (i : Nat) {x : Str} {pos pos' : Pos} (hN : X.N[i]? = some x := by rfl) (hv : Vis X.env.scope x := by first | exact Or.inl rfl | exact Or.inr (Or.inl rfl) | exact Or.inr (Or.inr rfl)) (hd : (x == ("__debug__" : Str)) = false := by decide)
    (hcd : (x == ("__classdict__" : Str)) = false := by decide) : DS X W (.Return (some (.Name x pos)) pos') (mRetV i) 0 := by
  refine ⟨_, ps_ret (pe_var hN hv hd hcd), fun ε De De' h q => ?_, fun B Z T H0 ε σ H De D hL r le q => ?_⟩
  · unfold mRetV at q ⊢
    split at q <;> first | exact h.rt _ q | exact q
  · have sub : ∀ a, (B a ∨ inZ Z a) → AvE B Z ε σ a := fun a z => z.elim .inl fun z => .inr (.inl z)
    unfold mRetV at q
    split at q
    · rename_i d e
      obtain ⟨v, h1, h2⟩ := r.slot i _ e
      exact ⟨v, h1, le.rt _ v H q r.aft0 r.trk (Rz.map (.of fun a o n e => ⟨fun z => n (sub a z), e⟩) h2)⟩
    · rename_i d e
      obtain ⟨a, h1, h2, h3, h4, h5⟩ := r.slot i _ e
      refine ⟨_, h1, le.rt _ _ H q r.aft0 r.trk ⟨a, rfl, h4, h5.map (.of fun b o n e' => ⟨fun z => n ?_, e'⟩) fun o e => e⟩⟩
      rcases z with z | z
      · exact sub b z
      · exact .inr (.inr ⟨i, d, e, by rw [z]; exact h1⟩)
    · rename_i e
      obtain ⟨p, a, c, h1, h2⟩ := r.slot i _ e
      exact ⟨_, h2, le.rt _ _ H q r.aft0 r.trk ⟨p, a, c, h1, rfl⟩⟩
    · exact q.elim
def mRetN : MS := fun De ε => De.rt (.fz .non)
theorem ds_retn {pos : Pos} : DS X W (.Return none pos) mRetN 0 := ⟨_, ps_retN, fun ε De De' h q => h.rt _ q, fun B Z T H0 ε σ H De D hL r le q => le.rt (.fz .non) _ H q r.aft0 r.trk (rz_non (K := X.K) (A := fun a => B a ∨ inZ Z a) (H := H))⟩
/-! ### if -/
def mIfS (t : MT) (a b : MS) : MS := fun De ε => t ε (fun c => if c = true then a De ε else b De ε) (fun c => De.ex c ε)
theorem ds_if {c : Expr} {a b : List Stmt} {m : MT} {ma mb : MS} {pos : Pos} (hc : DT X W c m chc) (ha : DSs X W a ma cha) (hb : DSs X W b mb chb) : DS X W (.If c a b pos) (mIfS m ma mb) (chc + cha + chb) := by
  obtain ⟨tc, pc, lc⟩ := hc
  obtain ⟨ta, pa, la⟩ := ha
  obtain ⟨tb, pb, lb⟩ := hb
  refine ⟨_, ps_if pc pa pb, fun ε De De' h q => lc.mono _ _ _ _ _ (fun k q => ?_) (fun c x => h.ex c ε x) q, fun B Z T H0 ε σ H De D hL r le q => ?_⟩
  · cases k with
    | true => simp only [if_true] at q ⊢; exact la.mono _ _ _ h q
    | false => simp only [Bool.false_eq_true, if_false] at q ⊢; exact lb.mono _ _ _ h q
  · refine lc.run B Z H0 ε σ H _ _ r ((le.xw r).at (T + chc)) (lc.mono _ _ _ _ _ (fun k q H1 a1 => ?_) (fun _ x => x) q)
    cases k with
    | true => simp only [if_true] at q ⊢; exact la.run B Z H0 ε σ H1 De D (r.aft a1) le q
    | false => simp only [Bool.false_eq_true, if_false] at q ⊢; exact lb.run B Z H0 ε σ H1 De D (r.aft a1) le q
/-! ### assignments -/
def IV.put (ε : Env) (i : Nat) (P : Env → Prop) : IV → Prop
  | .fz d => P (ε.set i (.fz d))
  | .fr d => P (ε.set i (.ow d))
  | .st => P (ε.set i .st)
  | .bo _ => False
@[simp] theorem put_fz {ε : Env} {i : Nat} {P : Env → Prop} {d : D} : IV.put ε i P (.fz d) = P (ε.set i (.fz d)) := rfl
@[simp] theorem put_fr {ε : Env} {i : Nat} {P : Env → Prop} {d : D} : IV.put ε i P (.fr d) = P (ε.set i (.ow d)) := rfl
@[simp] theorem put_st {ε : Env} {i : Nat} {P : Env → Prop} : IV.put ε i P .st = P (ε.set i .st) := rfl
theorem put_mono {ε : Env} {i : Nat} {P P' : Env → Prop} (h : ∀ ε, P ε → P' ε) : ∀ iv, IV.put ε i P iv → IV.put ε i P' iv := fun iv q => by
  cases iv <;> first | exact h _ q | exact q
theorem RE.put {K : Frag} {B : Av} {Z : Zt} {T T' : Nat} {H0 H H' : Hp} {ε : Env} {σ : St} (r : RE K B Z T H0 ε σ H) (a : Aft Z T' H H') {i : Nat} {iv : IV} {v : V} (rv : RV K (AvE B Z ε σ) Z H H' v iv) {P : Env → Prop} (q : IV.put ε i P iv) :
    ∃ ε', P ε' ∧ RE K B Z T' H0 ε' (σ.set i (some v)) H' := by
  cases iv with
  | fz d => exact ⟨_, q, (r.aft a).setFz rv⟩
  | fr d =>
    obtain ⟨p, rfl, hn, ho⟩ := rv
    exact ⟨_, q, r.setOw a hn ho⟩
  | st => exact ⟨_, q, (r.aft a).setSt rv⟩
  | bo d => exact q.elim
def mSet (i : Nat) (m : ME) : MS := fun De ε => m ε (IV.put ε i De.nx) (fun c => De.ex c ε)
theorem lift_set {i : Nat} {t : TE} {m : ME} (l : LiftE X W t m cl) : LiftS X W (tAsg t (gName i)) (mSet i m) cl := by
  refine ⟨fun ε De De' h q => l.mono _ _ _ _ _ (put_mono h.nx) (fun c x => h.ex c ε x) q, fun B Z T H0 ε σ H De D hL r le q => ?_⟩
  refine l.run B Z H0 ε σ H _ _ r (le.xw r) (l.mono _ _ _ _ _ (fun iv q v H' a rv => ?_) (fun _ x => x) q)
  obtain ⟨ε', q, r'⟩ := r.put a rv q
  exact le.nx _ _ H' q r'
theorem ds_set (i : Nat) {x : Str} {e : Expr} {m : ME} {p pos : Pos} (hN : X.N.Nodup) (h : DE X W e m ch) (hi : X.N[i]? = some x := by rfl) (hx : Loc X.env.scope x := by first | exact Or.inl rfl | exact Or.inr rfl) (hf : X.fn x = true ∨ X.env.scope.names.lookup x = some .local := by first | exact .inl rfl | exact .inr rfl)
    (hs : swapsWithSole [.Name x p] e pos.line X.env = pure false := by rfl) (hw : swappedStores [.Name x p] e X.env = pure none := by rfl) (h1 : (assignEach [.Name x p] X.env).map (·.2) = [assign (.Name x p) X.env] := by rfl) : DS X W (.Assign [.Name x p] e pos) (mSet i m) ch := by
  obtain ⟨t, pe, l⟩ := h
  exact ⟨_, ps_asg pe (pg_name hN hi hx hf) hs hw h1, lift_set l⟩
/-- x = [elt for ..] on one line, x a local -/
theorem ds_setLc {wk : Bool} (i : Nat) (own : List (Str × Nat)) {x : Str} {elt tg iter : Expr} {ifs : List Expr} {scope : Scope} {p pos spos : Pos} {mw : MW} {mg : MG} {mt : MT} {me : ME} {js : List Nat} {cw ct ce : Nat} (hc : X.calm = true) (hN : X.N.Nodup) (hi : DWk X W false wk tg iter mw cw)
    (hg : ∀ (s : Shared) (H : Hp) (C : Addr) (cl : List (Str × Addr)) (fp : List Addr), DG (X.blk s H scope (compEnvC scope cl C X.env) fp) wk js tg mg)
    (ht : ∀ (s : Shared) (H : Hp) (C : Addr) (cl : List (Str × Addr)) (fp : List Addr), DTs (X.blk s H scope (compEnvC scope cl C X.env) fp) W0 ifs mt ct)
    (he : ∀ (s : Shared) (H : Hp) (C : Addr) (cl : List (Str × Addr)) (fp : List Addr), DE (X.blk s H scope (compEnvC scope cl C X.env) fp) W0 elt me ce)
    (hy : X.N[i]? = some x := by rfl) (hyl : X.env.scope.names.lookup x = some .local := by rfl)
    (hsw : swapsWith (.ListComp elt [⟨tg, iter, ifs, 0⟩] scope pos) (some (.Name x p)) spos.line X.env = pure true := by exact sw_true rfl rfl rfl (by decide +kernel))
    (ok : blkC X.N X.env.scope scope own = true := by decide +kernel) (hjs : ∀ j ∈ js, j ∈ own.map (·.2) := by decide) (hs : ∀ x, foldedSetIterable iter X.env x = pure x := by intro _; rfl) :
    DS X W (.Assign [.Name x p] (.ListComp elt [⟨tg, iter, ifs, 0⟩] scope pos) spos) (mSet i (mLC (own.map (·.2)) mw mg mt me)) (cw + sizeLine * (ct + ce)) := by
  obtain ⟨wi, pi, lw⟩ := hi
  refine ⟨_, ps_setLc (g := tOfG wk X.K js mg) (tt := tOfT X.K X.mg W0 mt ct) (te := tOfE X.K X.mg W0 me ce) hc hN hy hyl hsw pi (blkOk_by ok) (fun s H C cl fp => (hg s H C cl fp).can) (fun s H C cl fp => (ht s H C cl fp).can) (fun s H C cl fp => (he s H C cl fp).can) hs, ?_⟩
  exact lift_set (lift_lc lw hjs (hg X.s_0 (fun _ => none) 0 [] []).mono (ht X.s_0 (fun _ => none) 0 [] []).mono (he X.s_0 (fun _ => none) 0 [] []).mono)
/-- a, b = e -/
def mAsgT (m : ME) (g : MG) : MS := fun De ε => m ε (onD fun d => g d ε De.nx) (fun c => De.ex c ε)
theorem lift_asgT {t : TE} {m : ME} {g : TG} {mg : MG} {js : List Nat} (l : LiftE X W t m cl) (lg : LiftG false X.K js g mg) : LiftS X W (tAsg t g) (mAsgT m mg) cl := by
  refine ⟨fun ε De De' h q => l.mono _ _ _ _ _ (onD_mono fun d q => lg.mono _ _ _ _ h.nx q) (fun c x => h.ex c ε x) q, fun B Z T H0 ε σ H De D hL r le q => ?_⟩
  refine l.run B Z H0 ε σ H _ _ r (le.xw r) (l.mono _ _ _ _ _ (fun iv q v H' a rv => ?_) (fun _ x => x) q)
  have r' := r.aft a
  cases iv with
  | fz d => exact lg.run B Z _ H0 ε σ H' v d _ _ r' rv q fun ε' σ' q g1 => le.nx _ _ H' q g1.re
  | fr d => exact lg.run B Z _ H0 ε σ H' v d _ _ r' (RV.rz r rv) q fun ε' σ' q g1 => le.nx _ _ H' q g1.re
  | st => exact q.elim
  | bo d => exact q.elim
theorem ds_asgT {es : List Expr} {k : Nat} {tp pos : Pos} {e : Expr} {m : ME} {mg : MG} {js : List Nat} (h : DE X W e m ch) (hg : DG X false js (.Tuple es k tp) mg) (hs : swapsWithSole [.Tuple es k tp] e pos.line X.env = pure false := by rfl) (hw : swappedStores [.Tuple es k tp] e X.env = pure none := by rfl)
    (h1 : (assignEach [.Tuple es k tp] X.env).map (·.2) = [assign (.Tuple es k tp) X.env] := by rfl) : DS X W (.Assign [.Tuple es k tp] e pos) (mAsgT m mg) ch := by
  obtain ⟨t, pe, l⟩ := h
  obtain ⟨g, pg, lg⟩ := hg
  exact ⟨_, ps_asg pe pg hs hw h1, lift_asgT l lg⟩
/-- a, b = e1, e2 -/
def mPar (i j : Nat) (a b : ME) : MS := fun De ε => a ε (fun x => b ε (fun y => IV.put ε i (fun ε1 => IV.put ε1 j De.nx y) x) (fun c => De.ex c ε)) (fun c => De.ex c ε)
theorem RV.under {K : Frag} {A A' : Av} {Z : Zt} {H H' : Hp} {v : V} {iv : IV} (h : RV K A Z H H' v iv) (e : ∀ a, A' a → A a) (n : ∀ d, iv ≠ .bo d) : RV K A' Z H H' v iv := by
  cases iv with
  | fz d => exact Rz.map (.of fun a o n x => ⟨fun z => n (e a z), x⟩) h
  | fr d =>
    obtain ⟨p, h1, h2, h3⟩ := h
    exact ⟨p, h1, h2, h3.map (.of fun a o n x => ⟨fun z => n (z.elim (fun z => .inl (e a z)) .inr), x⟩) fun o x => x⟩
  | st => exact h
  | bo d => exact absurd rfl (n d)
theorem put_nobo {ε : Env} {i : Nat} {P : Env → Prop} {iv : IV} (q : IV.put ε i P iv) : ∀ d, iv ≠ .bo d := fun d e => by subst e; exact q
theorem lift_par {i j : Nat} {ta tb : TE} {a b : ME} (la : LiftE X W ta a cla) (lb : LiftE X W tb b clb) : LiftS X W (tPar i j (tCons ta (tCons tb tNil))) (mPar i j a b) (cla + clb) := by
  refine ⟨fun ε De De' h q => la.mono _ _ _ _ _ (fun x q => lb.mono _ _ _ _ _ (fun y q => put_mono (fun ε1 q => put_mono h.nx y q) x q) (fun c x => h.ex c ε x) q) (fun c x => h.ex c ε x) q, fun B Z T H0 ε σ H De D hL r le q => ?_⟩
  refine la.run B Z H0 ε σ H _ _ r ((le.xw r).at (T + cla)) (la.mono _ _ _ _ _ (fun iv q v H1 a1 rv => ?_) (fun _ x => x) q)
  have r1 := r.aft a1
  have simple : ∀ x : SV, (∀ d, x ≠ .ow d) → RE X.K B Z (T + cla) H0 (ε.set i x) (σ.set i (some v)) H1 → b ε (fun y => IV.put (ε.set i x) j De.nx y) (fun c => De.ex c ε) → tCons tb tNil σ H1 (fun vs H2 => ∃ v' w, v :: vs = [v', w] ∧ D.nx ((σ.set i (some v')).set j (some w)) H2) := fun x hx rx q => by
    refine lb.run B Z H0 ε σ H1 _ _ r1 ((le.xw r).aft a1) (lb.mono _ _ _ _ _ (fun iw q w H2 a2 rw' => ?_) (fun _ x => x) q)
    refine ⟨_, _, rfl, ?_⟩
    obtain ⟨ε', q', r'⟩ := rx.put (i := j) a2 (rw'.under (fun a => avE_set hx) (put_nobo q)) q
    exact le.nx _ _ H2 q' r'
  cases iv with
  | fr d =>
    obtain ⟨p, rfl, hn, ho⟩ := rv
    have hp1 : Lv H1 p := ho.trk
    have rB : RE X.K (fun a => B a ∨ a = p) Z (T + cla) H0 ε σ H1 := r.step a1 (fun a z => .inl z) (fun a z => z.elim .inl fun e => .inr (by rw [e]; exact hn)) fun a z => z.elim (r1.trk a) fun e => by rw [e]; exact hp1
    refine lb.run (fun a => B a ∨ a = p) Z H0 ε σ H1 _ _ rB ((le.xw r).aft a1) (lb.mono _ _ _ _ _ (fun iw q w H2 a2 rw' => ?_) (fun _ x => x) q)
    refine ⟨_, _, rfl, ?_⟩
    have r1' := r.setOw a1 (i := i) (d := d) hn ho
    have sub : ∀ a, AvE B Z (ε.set i (.ow d)) (σ.set i (some (.ref p))) a → AvE (fun a => B a ∨ a = p) Z ε σ a := fun a h => by
      rcases h with h | h | ⟨j', d', e1, e2⟩
      · exact .inl (.inl h)
      · exact .inr (.inl h)
      · by_cases hj : i = j'
        · subst hj
          by_cases hl : i < σ.length
          · rw [List.getElem?_set_self hl] at e2
            cases e2; exact .inl (.inr rfl)
          · rw [List.getElem?_eq_none (by simpa using hl)] at e2; cases e2
        · rw [List.getElem?_set_ne hj] at e1 e2
          exact .inr (.inr ⟨j', d', e1, e2⟩)
    have q : IV.put (ε.set i (.ow d)) j De.nx iw := q
    obtain ⟨ε', q', r'⟩ := r1'.put (i := j) a2 (rw'.under sub (put_nobo q)) q
    exact le.nx _ _ H2 q' r'
  | fz d => exact simple (.fz d) (fun _ e => nomatch e) (r1.setFz rv) q
  | st => exact simple .st (fun _ e => nomatch e) (r1.setSt rv) q
  | bo d =>
    -- nothing is put
    refine lb.run B Z H0 ε σ H1 _ _ r1 ((le.xw r).aft a1) (lb.mono _ _ _ _ _ (fun iw q w H2 a2 rw' => ?_) (fun _ x => x) q)
    exact (show False from q).elim
theorem ds_par (i j : Nat) {x y : Str} {a b : Expr} {ma mb : ME} {px py pt : Pos} {kt k2 : Nat} {pt2 pos : Pos} (hc : X.calm = true) (hN : X.N.Nodup) (ha : DE X W a ma cha) (hb : DE X W b mb chb) (hi : X.N[i]? = some x := by rfl) (hj : X.N[j]? = some y := by rfl) (hij : i ≠ j := by decide)
    (hx : X.env.scope.names.lookup x = some .local := by rfl) (hy : X.env.scope.names.lookup y = some .local := by rfl)
    (hw : swappedStores [.Tuple [.Name x px, .Name y py] kt pt] (.Tuple [a, b] k2 pt2) X.env = pure (some [x, y]) := by rfl)
    (hs : swapsWithSole [.Tuple [.Name x px, .Name y py] kt pt] (.Tuple [a, b] k2 pt2) pos.line X.env = pure false := by rfl)
    (s1 : starEach (b :: []) X.env = (false, eval b X.env) :: starEach [] X.env := by rfl) (s2 : starEach (a :: [b]) X.env = (false, eval a X.env) :: starEach [b] X.env := by rfl) :
    DS X W (.Assign [.Tuple [.Name x px, .Name y py] kt pt] (.Tuple [a, b] k2 pt2) pos) (mPar i j ma mb) (cha + chb) := by
  obtain ⟨ta, pa, la⟩ := ha
  obtain ⟨tb, pb, lb⟩ := hb
  exact ⟨_, ps_par hc hN hi hj hij hx hy (pa_cons pa (pa_cons pb pa_nil s1) s2) hw hs, lift_par la lb⟩
/-! ### expressions as statements, raise -/
def mDrop (m : ME) : MS := fun De ε => m ε (fun _ => De.nx ε) (fun c => De.ex c ε)
theorem ds_expr {e : Expr} {m : ME} {pos : Pos} (h : DE X W e m ch) (hs : swapsWith e none pos.line X.env = pure false := by rfl) : DS X W (.Expr e pos) (mDrop m) ch := by
  obtain ⟨t, p, l⟩ := h
  refine ⟨_, ps_expr p hs, fun ε De De' h q => l.mono _ _ _ _ _ (fun _ => h.nx ε) (fun c x => h.ex c ε x) q, fun B Z T H0 ε σ H De D hL r le q => ?_⟩
  exact l.run B Z H0 ε σ H _ _ r (le.xw r) (l.mono _ _ _ _ _ (fun iv q v H' a rv => le.nx _ _ H' q (r.aft a)) (fun _ x => x) q)
/-- raise C('..') -/
def mRaise (c : XC) : MS := fun De ε => De.ex c ε
/-- a class of refusals: where it stands -/
structure ExC (K : Frag) (mg : Str → Option Value) (c : Str) : Prop where
  ex : ∃ (C : Addr) (base : List Value), mg c = some (.ref C) ∧ PySem.W.keepIn K (.ref C) = true ∧ PySem.W.excIn K C base "ValueError.__new__" = true ∧ base.contains (.type "BaseException") = true ∧ PySem.W.subIn K (.ref C) (.type "BaseException") = some true ∧ PySem.W.typeIn K (.ref C) = some (.type "type")
/-! ### loops -/
def forD (mg : MG) (mb : MS) (De : EndsD) : List D → Env → Prop
  | [], ε => De.nx ε
  | d :: r, ε => mg d ε fun ε1 => mb { De with nx := forD mg mb De r, ct := forD mg mb De r, bk := De.nx } ε1
def mFor (mw : MW) (mg : MG) (mb : MS) : MS := fun De ε => mw ε (fun ds => forD mg mb De ds ε) (fun c => De.ex c ε)
theorem forD_mono {mg : MG} {mb : MS} (hg : ∀ d ε P P', (∀ ε, P ε → P' ε) → mg d ε P → mg d ε P') (hb : ∀ ε De De', De.le De' → mb De ε → mb De' ε) {De De' : EndsD} (h : De.le De') : ∀ ds ε, forD mg mb De ds ε → forD mg mb De' ds ε
  | [], ε, q => h.nx _ q
  | d :: r, ε, q => hg _ _ _ _ (fun ε1 q => hb _ { De with nx := forD mg mb De r, ct := forD mg mb De r, bk := De.nx } { De' with nx := forD mg mb De' r, ct := forD mg mb De' r, bk := De'.nx } ⟨forD_mono hg hb h r, h.rt, h.nx, forD_mono hg hb h r, h.ex⟩ q) q
theorem RE.base {K : Frag} {B : Av} {Z : Zt} {T : Nat} {H0 H0' H : Hp} {ε : Env} {σ : St} (r : RE K B Z T H0 ε σ H) (h1 : ExA (inZ Z) H0' H) (h2 : ∀ a, Own ε σ a → Gone H0' a) : RE K B Z T H0' ε σ H := by
  refine ⟨fun i x e => ?_, r.inj, r.trk, r.z, h1, r.len, r.tb⟩
  have q := r.slot i x e
  cases x with
  | un => trivial
  | fz d => exact q
  | ow d => obtain ⟨a, k1, k2, k3, k4, k5⟩ := q; exact ⟨a, k1, k2, k3, h2 a ⟨i, d, e, k1⟩, k5⟩
  | st => exact q
  | bo d => exact q
  | sc ns => exact q
theorem lift_for {wk : Bool} {wi : TI} {mw : MW} {g : TG} {mg : MG} {tb : TS} {mb : MS} {js : List Nat} {cw cb : Nat} (lw : LiftW X W true wk wi mw cw) (lg : LiftG wk X.K js g mg) (lb : LiftS X W tb mb cb) : LiftS X W (tFor wi g tb) (mFor mw mg mb) (cw + sizeLine * cb) := by
  refine ⟨fun ε De De' h q => lw.mono _ _ _ _ _ (fun ds q => forD_mono lg.mono lb.mono h ds ε q) (fun c x => h.ex c ε x) q, fun B Z T H0 ε σ H De D hL r le q => ?_⟩
  refine lw.run B Z H0 ε σ H _ _ r ((le.xw r).at (T + cw)) (lw.mono _ _ _ _ _ (fun ds q J H1 a1 hlen wk => ?_) (fun _ x => x) q)
  have r1 := r.aft a1
  have tstep : ∀ i, i < ds.length → T + cw + i * cb + cb ≤ T + (cw + sizeLine * cb) := fun i hi => by
    have h : (i + 1) * cb ≤ sizeLine * cb := Nat.mul_le_mul_right _ (by omega)
    rw [Nat.succ_mul] at h
    omega
  have tend : T + cw + ds.length * cb ≤ T + (cw + sizeLine * cb) := by
    have h : ds.length * cb ≤ sizeLine * cb := Nat.mul_le_mul_right _ hlen
    omega
  -- the heap at the loop's start without what is one's own
  classical
  let H0' : Hp := fun a => if Own ε σ a then none else H1 a
  have own0 : ∀ a, Own ε σ a → H0' a = none := fun a h => if_pos h
  have r1' : RE X.K B Z (T + cw) H0' ε σ H1 := r1.base (fun a o _ e => by
    by_cases h : Own ε σ a
    · have e := e.1; rw [own0 a h] at e; cases e
    · have z : H0' a = H1 a := if_neg h
      exact ⟨by rw [← z]; exact e.1, e.2⟩) fun a h => .of (own0 a h)
  have back : ∀ a o, ¬ inZ Z a → At H0 a o → At H0' a o := fun a o n e => by
    have e1 := r1.ext a o n e
    have h : ¬ Own ε σ a := fun ⟨i, d, k1, k2⟩ => by
      obtain ⟨b, f1, _, _, f4, _⟩ := r1.slot i _ k1
      rw [k2] at f1
      cases f1
      exact f4 o e
    have z : H0' a = H1 a := if_neg h
    exact ⟨by rw [z]; exact e1.1, e.2⟩
  have rb : ∀ {T2 ε σ H}, RE X.K B Z T2 H0' ε σ H → RE X.K B Z T2 H0 ε σ H := fun {T2 ε σ H} r => r.base (fun a o n e => r.ext a o n (back a o n e)) fun a ⟨i, d, k1, k2⟩ => by
    obtain ⟨b, f1, _, f3, f4, _⟩ := r.slot i _ k1
    rw [k2] at f1
    cases f1
    exact fun o q => f4 o (back a o f3 q)
  have le' : LE X W B Z (T + (cw + sizeLine * cb)) H0' De D := ⟨fun ε σ H q r => le.nx ε σ H q (rb r), fun ε σ H q r => le.bk ε σ H q (rb r), fun ε σ H q r => le.ct ε σ H q (rb r), fun iv v H q a t rv => by
      refine le.rt iv v H q ⟨fun b o n e => a.ex b o n (back b o n e), a.z⟩ t ?_
      cases iv with
      | fz d => exact rv
      | fr d =>
        obtain ⟨p, e1, e2, e3⟩ := rv
        refine ⟨p, e1, ?_, e3⟩
        by_cases z : inZ Z p
        · obtain ⟨o, t1⟩ := r1.z.trk z
          have h : ¬ Own ε σ p := fun ⟨i, d, k1, k2⟩ => by
            obtain ⟨b, f1, _, f3, _⟩ := r1.slot i _ k1
            rw [k2] at f1
            cases f1
            exact f3 z
          have z' : H0' p = H1 p := if_neg h
          exact absurd ⟨by rw [z']; exact t1.1, t1.2⟩ (e2 o)
        · exact fun o q => e2 o (back p o z q)
      | st => exact rv
      | bo d => exact rv, fun c C ε σ H q m r => le.ex c C ε σ H q m (rb r)⟩
  obtain ⟨Gd, Y, w, hGd, hY⟩ := wk (AvE B Z ε σ) fun a h => .inl (by rw [if_pos rfl]; exact h)
  -- at each turn: what was not one's own, nor the state's, stands as at the start
  have stay : ∀ {T2 ε2 σ2 H2}, RE X.K B Z T2 H0' ε2 σ2 H2 → ExA (AvE B Z ε σ) H1 H2 := fun {T2 ε2 σ2 H2} r2 a o n e => r2.ext a o (fun z => n (.inr (.inl z))) (by
    have z : H0' a = H1 a := if_neg fun z => n (.inr (.inr z))
    exact ⟨by rw [z]; exact e.1, e.2⟩)
  have now : ∀ {T2 ε2 σ2 H2}, RE X.K B Z T2 H0' ε2 σ2 H2 → ∀ a, AvE B Z ε2 σ2 a → AvE B Z ε σ a ∨ Gone H1 a := fun {T2 ε2 σ2 H2} r2 a h => by
    rcases h with h | h | ⟨i, d, k1, k2⟩
    · exact .inl (.inl h)
    · exact .inl (.inr (.inl h))
    · obtain ⟨b, f1, _, _, f4, _⟩ := r2.slot i _ k1
      rw [k2] at f1
      cases f1
      by_cases z : Own ε σ a
      · exact .inl (.inr (.inr z))
      · have z' : H0' a = H1 a := if_neg z
        exact .inr fun o e => f4 o ⟨by rw [z']; exact e.1, e.2⟩
  refine for_it w (Pv := fun i σ2 H2 => ∃ ε2, RE X.K B Z (T + cw + i * cb) H0' ε2 σ2 H2 ∧ forD mg mb De (ds.drop i) ε2) ?_ ?_ ?_ ?_
  · exact ⟨ε, by rw [Nat.zero_mul]; exact r1', q⟩
  · rintro i σ2 H2 _ ⟨ε2, r2, _⟩
    exact hGd H2 (stay r2)
  · rintro i x σ2 H2 H3 hi ⟨ε2, r2, f⟩ y
    obtain ⟨d, hd, grow, rx⟩ := hY (AvE B Z ε2 σ2) (now r2) i H2 x H3 hi (stay r2) (fun a h => r2.trkA h) y
    obtain ⟨hlt, e1⟩ := List.getElem?_eq_some_iff.mp hd
    rw [List.drop_eq_getElem_cons hlt, e1] at f
    have ts := tstep i hi
    have z3 : ZOk Z (T + cw + i * cb) H3 := r2.z.grow grow
    have r3 : RE X.K B Z (T + cw + i * cb) H0' ε2 σ2 H3 := r2.aft ⟨fun a o _ e => e.grow grow, z3⟩
    unfold forD at f
    refine lg.run B Z _ H0' ε2 σ2 H3 x d _ _ r3 rx f fun ε4 σ4 q4 g4 => ?_
    exact lb.run B Z H0' ε4 σ4 H3 { De with nx := forD mg mb De (ds.drop (i + 1)), ct := forD mg mb De (ds.drop (i + 1)), bk := De.nx } _ g4.re
      (T' := T + cw + i * cb + cb) ⟨fun ε5 σ5 H5 q r => ⟨ε5, by rw [Nat.succ_mul, ← Nat.add_assoc]; exact r, q⟩, fun ε5 σ5 H5 q r => le'.nx ε5 σ5 H5 q r.up, fun ε5 σ5 H5 q r => ⟨ε5, by rw [Nat.succ_mul, ← Nat.add_assoc]; exact r, q⟩, (le'.at (T + cw + i * cb + cb)).rt, (le'.at (T + cw + i * cb + cb)).ex⟩ q4
  · rintro σ2 H2 ⟨ε2, r2, f⟩
    rw [List.drop_length] at f
    exact le'.nx ε2 σ2 H2 f r2.up
theorem ds_for {wk : Bool} {tg iter : Expr} {body : List Stmt} {mw : MW} {mg : MG} {mb : MS} {js : List Nat} {pos : Pos} (hp : PassesOwn (model X.prog X.w) X.A X.env X.xe) (hc : X.calm = true) {cw cb : Nat} (hi : DWk X W true wk tg iter mw cw) (hg : DG X wk js tg mg) (hb : DSs X W body mb cb)
    (hs : ∀ x, foldedSetIterable iter X.env x = pure x := by intro _; rfl) : DS X W (.For tg iter body [] pos) (mFor mw mg mb) (cw + sizeLine * cb) := by
  obtain ⟨wi, pi, lw⟩ := hi
  obtain ⟨g, pg, lg⟩ := hg
  obtain ⟨tb, pb, lb⟩ := hb
  exact ⟨_, ps_for hp hc pi pg pb hs, lift_for lw lg lb⟩
/-- while: I holds at each turn, its number falls -/
def mWhileN (N : Nat → Prop) (mt : MT) (mb : MS) : MS := fun De ε => ∃ I : Nat → Env → Prop, (∃ n, N n ∧ I n ε) ∧ ∀ n ε', I n ε' → mt ε' (fun b => if b = true then mb { De with nx := fun ε2 => ∃ m, m < n ∧ I m ε2, ct := fun ε2 => ∃ m, m < n ∧ I m ε2, bk := De.nx } ε' else De.nx ε') (fun c => De.ex c ε')
theorem ds_whileN {N : Nat → Prop} {C : Nat} {c : Expr} {body : List Stmt} {mt : MT} {mb : MS} {pos : Pos} {ct cb : Nat} (hp : PassesOwn (model X.prog X.w) X.A X.env X.xe) (hc : DT X W c mt ct) (hb : DSs X W body mb cb) (hN : ∀ n, N n → (n + 1) * (ct + cb) ≤ C) : DS X W (.While c body [] pos) (mWhileN N mt mb) C := by
  obtain ⟨tc, pc, lc⟩ := hc
  obtain ⟨tb, pb, lb⟩ := hb
  refine ⟨_, ps_while hp pc pb, fun ε De De' h q => ?_, fun B Z T H0 ε σ H De D hL r le q => ?_⟩
  · obtain ⟨I, h0, q⟩ := q
    refine ⟨I, h0, fun n ε' i => lc.mono _ _ _ _ _ (fun b q => ?_) (fun c x => h.ex c _ x) (q n ε' i)⟩
    cases b with
    | true =>
      simp only [if_true] at q ⊢
      exact lb.mono _ { De with nx := fun ε2 => ∃ m, m < n ∧ I m ε2, ct := fun ε2 => ∃ m, m < n ∧ I m ε2, bk := De.nx } { De' with nx := fun ε2 => ∃ m, m < n ∧ I m ε2, ct := fun ε2 => ∃ m, m < n ∧ I m ε2, bk := De'.nx } ⟨fun _ x => x, h.rt, h.nx, fun _ x => x, h.ex⟩ q
    | false => simp only [Bool.false_eq_true, if_false] at q ⊢; exact h.nx _ q
  · obtain ⟨I, ⟨n0, hn0, h0⟩, q⟩ := q
    have hC := hN n0 hn0
    generalize hcb : ct + cb = k at *
    -- the draws' number at a turn whose number is n
    have nxt : ∀ m n, m < n → n ≤ n0 → T + (n0 - n) * k + k ≤ T + (n0 - m) * k := fun m n h1 h2 => by
      have h : (n0 - n + 1) * k ≤ (n0 - m) * k := Nat.mul_le_mul_right _ (by omega)
      rw [Nat.succ_mul] at h
      omega
    have fin : ∀ n, n ≤ n0 → T + (n0 - n) * k + k ≤ T + C := fun n h => by
      have h : (n0 - n + 1) * k ≤ (n0 + 1) * k := Nat.mul_le_mul_right _ (by omega)
      rw [Nat.succ_mul] at h
      omega
    refine ⟨fun n σ2 H2 => n ≤ n0 ∧ ∃ ε2, RE X.K B Z (T + (n0 - n) * k) H0 ε2 σ2 H2 ∧ I n ε2, ⟨n0, Nat.le_refl _, ε, by rw [Nat.sub_self, Nat.zero_mul]; exact r, h0⟩, ?_⟩
    rintro n σ2 H2 ⟨hn, ε2, r2, i2⟩
    have f2 := fin n hn
    refine lc.run B Z H0 ε2 σ2 H2 _ _ r2 ((le.xw r2).at (T + (n0 - n) * k + ct)) (lc.mono _ _ _ _ _ (fun b q H3 a3 => ?_) (fun _ x => x) (q n ε2 i2))
    cases b with
    | true =>
      simp only [if_true] at q ⊢
      refine ⟨fun σ4 H4 => ∃ m, m < n ∧ ∃ ε4, RE X.K B Z (T + (n0 - m) * k) H0 ε4 σ4 H4 ∧ I m ε4, fun σ4 H4 ⟨m, hm, x⟩ => ⟨m, hm, by omega, x⟩, ?_⟩
      have le2 := le.at (T + (n0 - n) * k + k)
      exact lb.run B Z H0 ε2 σ2 H3 { De with nx := fun ε2 => ∃ m, m < n ∧ I m ε2, ct := fun ε2 => ∃ m, m < n ∧ I m ε2, bk := De.nx } _ (r2.aft a3)
        (T' := T + (n0 - n) * k + k) ⟨fun ε5 σ5 H5 ⟨m, hm, x⟩ r => ⟨m, hm, ε5, r.up (nxt m n hm hn), x⟩, fun ε5 σ5 H5 q r => le2.nx ε5 σ5 H5 q r, fun ε5 σ5 H5 ⟨m, hm, x⟩ r => ⟨m, hm, ε5, r.up (nxt m n hm hn), x⟩, le2.rt, le2.ex⟩ q
    | false => simp only [Bool.false_eq_true, if_false] at q ⊢; exact le.nx ε2 σ2 H3 q (r2.aft a3).up
def mWhile (mt : MT) (mb : MS) : MS := fun De ε => ∃ I : Nat → Env → Prop, (∃ n, I n ε) ∧ ∀ n ε', I n ε' → mt ε' (fun b => if b = true then mb { De with nx := fun ε2 => ∃ m, m < n ∧ I m ε2, ct := fun ε2 => ∃ m, m < n ∧ I m ε2, bk := De.nx } ε' else De.nx ε') (fun c => De.ex c ε')
/-- where nothing is drawn in the loop -/
theorem ds_while {c : Expr} {body : List Stmt} {mt : MT} {mb : MS} {pos : Pos} {ct cb : Nat} (hp : PassesOwn (model X.prog X.w) X.A X.env X.xe) (hc : DT X W c mt ct) (hb : DSs X W body mb cb) (h0 : ct + cb = 0 := by decide +kernel) : DS X W (.While c body [] pos) (mWhile mt mb) 0 := by
  have h := ds_whileN (N := fun _ => True) (C := 0) (pos := pos) hp hc hb (fun n _ => by rw [h0, Nat.mul_zero]; exact Nat.le_refl _)
  have e : mWhileN (fun _ => True) mt mb = mWhile mt mb := by
    funext De ε
    unfold mWhileN mWhile
    simp only [true_and]
  rw [e] at h
  exact h
/-- where something is drawn: few turns -/
theorem ds_whileF {c : Expr} {body : List Stmt} {mt : MT} {mb : MS} {pos : Pos} {ct cb : Nat} (hp : PassesOwn (model X.prog X.w) X.A X.env X.xe) (hc : DT X W c mt ct) (hb : DSs X W body mb cb) : DS X W (.While c body [] pos) (mWhileN (· < sizeLine) mt mb) (sizeLine * (ct + cb)) :=
  ds_whileN hp hc hb fun n h => Nat.mul_le_mul_right _ h
end
end G

namespace G
open PySem PySem.Spec PyProof.Rows L2
section
variable {X : Cx} {W : WX}
/-! ### raise C('..') -/
def veB : List Value := [.type "ValueError", .type "Exception", .type "BaseException", .type "object"]
structure ExC' (K : Frag) (mg : Str → Option Value) (c : Str) : Prop where
  ex : ∃ C : Addr, mg c = some (.ref C) ∧ PySem.W.excIn K C veB "ValueError.__new__" = true ∧ PySem.W.keepIn K (.ref C) = true ∧ PySem.W.subIn K (.ref C) (.type "BaseException") = some true ∧ PySem.W.typeIn K (.ref C) = some (.type "type")
theorem ds_raise {x m : Str} {j : Nat} {p p2 pos pos2 : Pos} (ec : ExC' X.K X.mg x) (hc : X.calm = true) (tk : Takes X W) (hg : Gl X x := by rfl) (hdb : (x == ("__debug__" : Str)) = false := by decide) :
    DS X W (.Raise (some (.Call (.Name x p) [.Constant (.str m) j p2] [] pos)) none pos2) (mRaise x) 0 := by
  obtain ⟨C, h1, h2, h3, h4, h5⟩ := ec.ex
  refine ⟨_, ps_raise hc tk (pmk_own PySem.F.excBase_ValueError h2 h1 h3 (raises_own h4 h5) hg hdb), fun ε De De' h q => h.ex _ _ q, fun B Z T H0 ε σ H De D hL r le q => ?_⟩
  exact le.ex x C ε σ H q h1 r

/-! ### freezing -/
def frzE (ε : Env) (i : Nat) : Env := match ε[i]? with
  | some (.ow d) => ε.set i (.fz d)
  | _ => ε
def mFrz (i : Nat) (m : MS) : MS := fun De ε => m De (frzE ε i)
theorem RE.frz {K : Frag} {B : Av} {Z : Zt} {T : Nat} {H0 H : Hp} {ε : Env} {σ : St} (r : RE K B Z T H0 ε σ H) (i : Nat) : RE K B Z T H0 (frzE ε i) σ H := by
  unfold frzE
  split
  · rename_i d e
    obtain ⟨a, h1, h2, h3, h4, h5⟩ := r.slot i _ e
    have hi : i < ε.length := (List.getElem?_eq_some_iff.mp e).1
    have sub : ∀ b, AvE B Z (ε.set i (.fz d)) σ b → AvE B Z ε σ b := fun b h => by
      rcases h with h | h | ⟨j, d', e1, e2⟩
      · exact .inl h
      · exact .inr (.inl h)
      · by_cases hj : i = j
        · subst hj
          rw [List.getElem?_set_self hi] at e1
          cases e1
        · rw [List.getElem?_set_ne hj] at e1
          exact .inr (.inr ⟨j, d', e1, e2⟩)
    have na : ¬ AvE B Z (ε.set i (.fz d)) σ a := fun h => by
      rcases h with h | h | ⟨j, d', e1, e2⟩
      · exact h2 h
      · exact h3 h
      · by_cases hj : i = j
        · subst hj
          rw [List.getElem?_set_self hi] at e1
          cases e1
        · rw [List.getElem?_set_ne hj] at e1
          exact hj (r.inj i j d d' a e e1 h1 e2)
    refine ⟨fun j y ey => ?_, fun j k d1 d2 b e1 e2 e3 e4 => ?_, r.trk, r.z, r.ext, by rw [List.length_set, r.len], r.tb⟩
    · by_cases hj : i = j
      · subst hj
        rw [List.getElem?_set_self hi] at ey
        cases ey
        exact ⟨_, h1, h5.rz na sub⟩
      · rw [List.getElem?_set_ne hj] at ey
        exact (r.slot j y ey).mono sub
    · have f : ∀ {j : Nat} {d' : D}, (ε.set i (.fz d))[j]? = some (.ow d') → ε[j]? = some (.ow d') := fun {j d'} e => by
        by_cases hj : i = j
        · subst hj
          rw [List.getElem?_set_self hi] at e
          cases e
        · rwa [List.getElem?_set_ne hj] at e
      exact r.inj j k d1 d2 b (f e1) (f e2) e3 e4
  · exact r
theorem ds_frz (i : Nat) {s : Stmt} {m : MS} {c : Nat} (h : DS X W s m c) : DS X W s (mFrz i m) c := by
  obtain ⟨t, p, l⟩ := h
  exact ⟨t, p, fun ε De De' h q => l.mono _ _ _ h q, fun B Z T H0 ε σ H De D hL r le q => l.run B Z H0 _ σ H De D (r.frz i) le q⟩

/-! ### an own object is changed -/
/-- the object of slot i, changed at its address -/
theorem RE.chg {K : Frag} {B : Av} {Z : Zt} {T : Nat} {H0 H : Hp} {ε : Env} {σ : St} (r : RE K B Z T H0 ε σ H) {i : Nat} {d d' : D} {a : Addr} {o : HO} (e : ε[i]? = some (.ow d)) (ea : σ[i]? = some (some (.ref a))) (h : OwnAt K (AvE B Z ε σ) (upd H a o) a d') :
    RE K B Z T H0 (ε.set i (.ow d')) σ (upd H a o) := by
  obtain ⟨b, h1, h2, h3, h4, h5⟩ := r.slot i _ e
  rw [ea] at h1
  cases h1
  have hi : i < ε.length := (List.getElem?_eq_some_iff.mp e).1
  have av : ∀ c, AvE B Z (ε.set i (.ow d')) σ c ↔ AvE B Z ε σ c := fun c => by
    have f : Own (ε.set i (.ow d')) σ c ↔ Own ε σ c := by
      constructor
      · rintro ⟨j, d2, e1, e2⟩
        by_cases hj : i = j
        · subst hj; exact ⟨i, d, e, e2⟩
        · rw [List.getElem?_set_ne hj] at e1; exact ⟨j, d2, e1, e2⟩
      · rintro ⟨j, d2, e1, e2⟩
        by_cases hj : i = j
        · subst hj; exact ⟨i, d', List.getElem?_set_self hi, e2⟩
        · exact ⟨j, d2, by rw [List.getElem?_set_ne hj]; exact e1, e2⟩
    unfold AvE
    rw [f]
  have own_a : AvE B Z ε σ a := .inr (.inr ⟨i, d, e, ea⟩)
  have keep : ∀ c o', c ≠ a → At H c o' → At (upd H a o) c o' := fun c o' n q => q.but n
  have la : ∃ x, At (upd H a o) a x := h.trk
  have f0 : ∀ c o', ¬ AvE B Z ε σ c → At H c o' → ¬ AvE B Z (ε.set i (.ow d')) σ c ∧ At (upd H a o) c o' := fun c o' n q => ⟨fun z => n ((av c).mp z), keep c o' (fun z => n (by rw [z]; exact own_a)) q⟩
  have f : Kp (AvE B Z ε σ) (AvE B Z (ε.set i (.ow d')) σ) H (upd H a o) := .of f0
  refine ⟨fun j y ey => ?_, fun j k d1 d2 b e1 e2 e3 e4 => ?_, fun c hc => ?_, r.z.but h3 (fun φ z => ?_) (fun ps z => ?_), fun c o' n q => ?_, by rw [List.length_set, r.len], r.tb⟩
  · by_cases hj : i = j
    · subst hj
      rw [List.getElem?_set_self hi] at ey
      cases ey
      exact ⟨a, ea, h2, h3, h4, h.map (.of fun c o' n q => ⟨fun z => n ((av c).mp z), q⟩) fun o q => q⟩
    · rw [List.getElem?_set_ne hj] at ey
      have q := r.slot j y ey
      cases y with
      | un => trivial
      | fz d => obtain ⟨v, k1, k2⟩ := q; exact ⟨v, k1, k2.map f⟩
      | ow d2 =>
        obtain ⟨c, k1, k2, k3, k4, k5⟩ := q
        have ne : c ≠ a := fun z => hj (r.inj i j d d2 a e ey ea (by rw [← z]; exact k1))
        exact ⟨c, k1, k2, k3, k4, k5.map f fun o q => keep c o ne q⟩
      | st => exact q
      | bo d2 =>
        obtain ⟨c, k1, k2, k3, k5⟩ := q
        have ne : c ≠ a := fun z => h2 (by rw [← z]; exact k2)
        exact ⟨c, k1, k2, k3, k5.map f fun o q => keep c o ne q⟩
      | sc ns =>
        obtain ⟨c, k1, ⟨k2, k4⟩ | hk⟩ := q
        · exact ⟨c, k1, .inl (rd_at f0 k2 k4)⟩
        · exact ⟨c, k1, .inr hk⟩
  · have g : ∀ {j : Nat} {d2 : D}, (ε.set i (.ow d'))[j]? = some (.ow d2) → ∃ d3, ε[j]? = some (.ow d3) := fun {j d2} e' => by
      by_cases hj : i = j
      · subst hj; exact ⟨d, e⟩
      · rw [List.getElem?_set_ne hj] at e'; exact ⟨d2, e'⟩
    obtain ⟨d3, g1⟩ := g e1
    obtain ⟨d4, g2⟩ := g e2
    exact r.inj j k d3 d4 b g1 g2 e3 e4
  · by_cases z : c = a
    · rw [z]; exact la
    · obtain ⟨x, y⟩ := r.trk c hc
      exact ⟨x, keep c x z y⟩
  · obtain ⟨x, y, _⟩ := h5.trk
    cases d with
    | lst ds => obtain ⟨ws, k6, _⟩ := h5; rw [k6] at z; cases z
    | dic ks ds => obtain ⟨ws, k6, _⟩ := h5; rw [k6] at z; cases z
    | _ => exact h5.elim
  · obtain ⟨x, y, n⟩ := h5.trk
    rw [z] at y; cases y
    exact n ps rfl
  · have := r.ext c o' n q
    exact keep c o' (fun z => by rw [z] at q; exact h4 _ q) this
/-- the list that slot i has for itself -/
def onOwL (P : List D → Prop) : Option SV → Prop
  | some (.ow (.lst ds)) => P ds
  | _ => False
@[simp] theorem onOwL_ow {P : List D → Prop} {ds : List D} : onOwL P (some (.ow (.lst ds))) = P ds := rfl
theorem onOwL_mono {P P' : List D → Prop} (h : ∀ ds, P ds → P' ds) : ∀ x, onOwL P x → onOwL P' x := fun x q => by
  unfold onOwL at q ⊢
  split at q <;> first | exact h _ q | exact q
theorem onOwL_ex {P : List D → Prop} {x : Option SV} (q : onOwL P x) : ∃ ds, x = some (.ow (.lst ds)) ∧ P ds := by
  unfold onOwL at q
  split at q <;> first | exact ⟨_, rfl, q⟩ | exact q.elim
/-- x.append(e) -/
def mAppend (i : Nat) (m : ME) : MS := fun De ε => onOwL (fun ds => m ε (onD fun d => ds.length < sizeLine ∧ De.nx (ε.set i (.ow (.lst (ds ++ [d]))))) (fun c => De.ex c ε)) ε[i]?
theorem lift_append {i : Nat} {t : TE} {m : ME} {c : Nat} (l : LiftE X W t m c) : LiftS X W (tDrop (tBM X.K "list" rAppend (tVar i) (tCons t tNil))) (mAppend i m) c := by
  refine ⟨fun ε De De' h q => onOwL_mono (fun ds q => l.mono _ _ _ _ _ (onD_mono fun d q => ⟨q.1, h.nx _ q.2⟩) (fun c x => h.ex c ε x) q) _ q, fun B Z T H0 ε σ H De D hL r le q => ?_⟩
  obtain ⟨ds, e, q⟩ := onOwL_ex q
  obtain ⟨a, h1, h2, h3, h4, vs, h5, hl, h6⟩ := r.slot i _ e
  refine ⟨_, h1, .inl ⟨rfl, vs, .of h5⟩, ?_⟩
  refine l.run B Z H0 ε σ H _ _ r (le.xw r) (l.mono _ _ _ _ _ (fun iv q v H1 a1 rv => ?_) (fun _ x => x) q)
  have r1 := r.aft a1
  have fin : ∀ d, Rz X.K (AvE B Z ε σ) H1 d v → ds.length < sizeLine ∧ De.nx (ε.set i (.ow (.lst (ds ++ [d])))) → ∃ l xs y, V.ref a = .ref l ∧ [v] = [y] ∧ H1 l = some (.lst xs) ∧ xs.length < sizeLine ∧ D.nx σ (upd H1 l (.lst (xs ++ [y]))) := fun d rd q => by
    obtain ⟨q1, q2⟩ := q
    have e5 := (a1.ex a _ h3 (.mk h5)).1
    have h6' : Rzs X.K (AvE B Z ε σ) H1 ds vs := h6.map (.of fun c o n x => ⟨n, a1.ex c o (fun z => n (.inr (.inl z))) x⟩)
    refine ⟨a, vs, v, rfl, rfl, e5, by rw [h6.length]; exact q1, le.nx _ _ _ q2 (r1.chg e h1 ?_)⟩
    have up : Kp (AvE B Z ε σ) (AvE B Z ε σ) H1 (upd H1 a (.lst (vs ++ [v]))) := .of fun c o n x => ⟨n, x.but (fun z => n (by rw [z]; exact .inr (.inr ⟨i, _, e, h1⟩)))⟩
    exact ⟨_, upd_same, by rw [List.length_append]; simp; omega, (h6'.append (.one rd)).map up⟩
  cases iv with
  | fz d => exact fin d rv q
  | fr d => exact fin d (RV.rz r rv) q
  | st => exact q.elim
  | bo d => exact q.elim
theorem ds_append (i : Nat) {x : Str} {e : Expr} {m : ME} {p apos cpos pos : Pos} {c : Nat} (h : DE X W e m c) (hN : X.N[i]? = some x := by rfl) (hv : Vis X.env.scope x := by first | exact Or.inl rfl | exact Or.inr (Or.inl rfl) | exact Or.inr (Or.inr rfl)) (hd : (x == ("__debug__" : Str)) = false := by decide) (hcd : (x == ("__classdict__" : Str)) = false := by decide)
    (hbase : attributeBase (.Name x p) "append" X.env (eval (.Name x p) X.env) = eval (.Name x p) X.env := by rfl)
    (hfew : ((backTo cpos (starEach (e :: []) X.env)).all (fun x => !x.1) && (backToKw cpos (keywordEach [] X.env)).all (fun x => x.1.isSome) && decide ((e :: []).length + ([] : List Keyword).length + (if ([] : List Keyword).isEmpty then 0 else 1) < 30)) = true := by rfl)
    (hline : (apos.endLine == cpos.line) = true := by rfl) (hs : starEach (e :: []) X.env = (false, eval e X.env) :: starEach [] X.env := by rfl) (hplain : (backTo cpos (starEach [] X.env)).any (·.1) = false := by rfl)
    (hsw : swapsWith (.Call (.Attribute (.Name x p) "append" apos) [e] [] cpos) none pos.line X.env = pure false := by rfl) :
    DS X W (.Expr (.Call (.Attribute (.Name x p) "append" apos) [e] [] cpos) pos) (mAppend i m) c := by
  obtain ⟨t, pe, l⟩ := h
  exact ⟨_, ps_expr (pe_bm PySem.F.plainAttrs_list PySem.F.slot_list_append PySem.F.type_list_append mt_append (pe_var hN hv hd hcd) (pa_cons pe pa_nil hs) hbase hfew hline hs hplain) hsw, lift_append l⟩

/-! ### a def -/
def startE (is : List IV) (n : Nat) : Env := is.map (fun
  | .fz d => .fz d
  | .fr d => .un
  | .st => .st
  | .bo d => .bo d) ++ List.replicate (n - is.length) .un
theorem startE_get {is : List IV} {n i : Nat} {x : SV} (h : (startE is n)[i]? = some x) : x = .un ∨ ∃ iv, is[i]? = some iv ∧ ((∃ d, iv = .fz d ∧ x = .fz d) ∨ (iv = .st ∧ x = .st) ∨ ∃ d, iv = .bo d ∧ x = .bo d) := by
  unfold startE at h
  by_cases hi : i < is.length
  · rw [List.getElem?_append_left (by simpa using hi), List.getElem?_map] at h
    cases e : is[i]? with
    | none => rw [e] at h; cases h
    | some iv =>
      rw [e] at h
      cases h
      cases iv with
      | fz d => exact .inr ⟨_, rfl, .inl ⟨d, rfl, rfl⟩⟩
      | fr d => exact .inl rfl
      | st => exact .inr ⟨_, rfl, .inr (.inl ⟨rfl, rfl⟩)⟩
      | bo d => exact .inr ⟨_, rfl, .inr (.inr ⟨d, rfl, rfl⟩)⟩
  · rw [List.getElem?_append_right (by simpa using hi), List.getElem?_replicate] at h
    split at h
    · cases h; exact .inl rfl
    · cases h
theorem start_get {N : List Str} {vs : List V} {i : Nat} {v : V} (h : vs[i]? = some v) : (L2.start N vs)[i]? = some (some v) := by
  have hi := (List.getElem?_eq_some_iff.mp h).1
  unfold L2.start
  rw [List.getElem?_append_left (by simpa using hi), List.getElem?_map, h]
  rfl
theorem RVs.get {K : Frag} {A : Av} {Z : Zt} {H : Hp} : ∀ {is : List IV} {vs : List V} {i : Nat} {iv : IV}, RVs K A Z H is vs → is[i]? = some iv → ∃ v, vs[i]? = some v ∧ RV K A Z H H v iv
  | [], _, _, _, _, e => by simp at e
  | j :: is, vs, i, iv, h, e => by
    obtain ⟨v, r, rfl, h1, _, h2⟩ := h
    cases i with
    | zero => simp at e; subst e; exact ⟨v, by simp, h1⟩
    | succ i =>
      obtain ⟨w, e', q⟩ := RVs.get (i := i) h2 (by simpa using e)
      exact ⟨w, by simpa using e', q⟩
theorem RE.start {K : Frag} {B : Av} {Z : Zt} {H : Hp} {is : List IV} {vs : List V} {N : List Str} (h : RVs K (fun a => B a ∨ inZ Z a) Z H is vs) (z : ZOk Z T H) (t : ∀ a, B a → Lv H a) (tb : Z.2 = lamTabs K) (hn : is.length ≤ N.length) : RE K B Z T H (startE is N.length) (L2.start N vs) H := by
  have noOwn : ∀ (i : Nat) (d : D), (startE is N.length)[i]? ≠ some (.ow d) := fun i d e => by
    rcases startE_get e with e | ⟨iv, _, ⟨d', _, e⟩ | ⟨_, e⟩ | ⟨d', _, e⟩⟩ <;> cases e
  have sub : ∀ a, AvE B Z (startE is N.length) (L2.start N vs) a → (B a ∨ inZ Z a) := fun a h => by
    rcases h with h | h | ⟨i, d, e, _⟩
    · exact .inl h
    · exact .inr h
    · exact absurd e (noOwn i d)
  refine ⟨fun i x e => ?_, fun i j d d' a e _ _ _ => absurd e (noOwn i d), t, z, ExA.refl, ?_, tb⟩
  · rcases startE_get e with rfl | ⟨iv, e1, ⟨d, rfl, rfl⟩ | ⟨rfl, rfl⟩ | ⟨d, rfl, rfl⟩⟩
    · trivial
    · obtain ⟨v, e2, q⟩ := h.get e1
      exact ⟨v, start_get e2, Rz.map (.of fun a o n e => ⟨fun z => n (sub a z), e⟩) q⟩
    · obtain ⟨v, e2, p, q, c, q1, q2⟩ := h.get e1
      exact ⟨p, q, c, q1, by rw [start_get e2, q2]⟩
    · obtain ⟨v, e2, p, q1, q2, q3, q4⟩ := h.get e1
      exact ⟨p, by rw [start_get e2, q1], q2.elim id fun z => absurd z q3, q3, q4.map (.of fun a o n e => ⟨fun z => n (sub a z), e⟩) fun o e => e⟩
  · unfold startE L2.start
    simp [h.length]
theorem takesE {P : Program} {w : World} {K : Frag} {mg : Str → Option Value} {base : Heap} {N : List Str} {qual : Str} {scope : Scope} {f : Addr} {cd : Value} {A : Around} {outer : List PySem.Env} {s : Shared} {H : Hp} {E : XK} :
    Takes (cxOf (L2.CX P w) P w K mg base N qual scope f cd A outer s H E) (fun cls d _ H => E cls d H) := takes_of rfl rfl rfl rfl
theorem fn_okD {P : Program} {w : World} {K : Frag} {mg : Str → Option Value} {base : Heap} {x : Str} {params : Arguments} {body : List Stmt} {scope : Scope} {dvs : List V} {f : Addr} {fd : FuncData} {N ps : List Str} {k : Nat} {sp : SpD} {m : MS} {c C : Nat}
    (F : FunD K x x params body scope dvs [] f fd) (gm : mg x = some (.ref f)) (S : FnScope N ps scope) (mono : SpMono sp) (len : ∀ is Q E, sp is Q E → is.length = ps.length) (hN : ps.length ≤ N.length)
    (hb : ∀ (cdv : Value) (A : Around) (outer : List PySem.Env) (s : Shared) (H : Hp) (E : XK), Room k (A.deeper (envOfC x scope s.heap.objs.size f cdv)) → DSs (cxOf (L2.CX P w) P w K mg base N x scope f cdv A outer s H E) (fun cls d _ H => E cls d H) body m c)
    (pure : ∀ is Q E, ivsOk is → sp is Q E → m { nx := fun _ => Q (.fz .non), rt := Q, ex := fun c _ => E c } (startE is N.length)) (hC : c ≤ C := by decide +kernel) : FnOk P w K mg base (L2.CX P w) (k + 1) f fd ps (Lf K mg sp C) := by
  refine F.ok S (fun vs H Q E h => ?_) (fun cdv A outer s H vs Q E hr h => ?_)
  · obtain ⟨B, Z, T, is, _, h1, _, _, _, h2⟩ := h
    rw [h1.length]
    exact len _ _ _ h2
  · obtain ⟨B, Z, T, is, hL, h1, hz, ht, tb, h2⟩ := h
    obtain ⟨t, pt, l⟩ := hb cdv A outer s H E hr
    refine ⟨t, pt, ?_⟩
    have hl := len _ _ _ h2
    have q := pure is _ _ h1.ok h2
    refine l.run B Z H (startE is N.length) (L2.start N vs) H { nx := fun _ => ∀ v H', Aft Z (T + C) H H' → RV K (fun a => B a ∨ inZ Z a) Z H H' v (.fz .non) → Q v H', rt := fun iv => ∀ v H', Aft Z (T + C) H H' → RV K (fun a => B a ∨ inZ Z a) Z H H' v iv → Q v H', ex := fun ec _ => ∀ Cx H', mg ec = some (.ref Cx) → Aft Z (T + C) H H' → E (.ref Cx) none H' } _ (RE.start h1 hz ht tb (by omega)) ⟨fun ε σ H' q r => ?_, fun ε σ H' q => q.elim, fun ε σ H' q => q.elim, fun iv v H' q a _ rv => q v H' a rv, fun ec Cx ε σ H' q m r => ?_⟩ q
    · exact q .non H' r.aft0 (show Rz _ _ _ _ _ by simp only [Rz])
    · exact q Cx H' m r.aft0
/-- THE RULE: a def keeps its promise over data -/
theorem fn_intro {P : Program} {w : World} {K : Frag} {mg : Str → Option Value} {base : Heap} {x : Str} {params : Arguments} {body : List Stmt} {scope : Scope} {dvs : List V} {f : Addr} {fd : FuncData} {N ps : List Str} {k : Nat} {sp : SpD} {m : MS} {dds : List D} {c C : Nat}
    (F : FunD K x x params body scope dvs [] f fd) (gm : mg x = some (.ref f)) (S : FnScope N ps scope) (mono : SpMono sp) (len : ∀ is Q E, sp is Q E → is.length = ps.length) (hN : ps.length ≤ N.length)
    (b : Binds K fd ps []) (bd : dds ≠ [] → ∃ dvs ds, RVs K (fun _ => False) (none, []) (fun _ => none) (dds.map .fz) dvs ∧ (∀ A Z H, RVs K A Z H (dds.map .fz) dvs) ∧ Vals dvs ds ∧ Binds K fd ps ds)
    (hb : ∀ (cdv : Value) (A : Around) (outer : List PySem.Env) (s : Shared) (H : Hp) (E : XK), Room k (A.deeper (envOfC x scope s.heap.objs.size f cdv)) → DSs (cxOf (L2.CX P w) P w K mg base N x scope f cdv A outer s H E) (fun cls d _ H => E cls d H) body m c)
    (pure : ∀ is Q E, ivsOk is → sp is Q E → m { nx := fun _ => Q (.fz .non), rt := Q, ex := fun c _ => E c } (startE is N.length)) (hC : c ≤ C := by decide +kernel) : FnD P w K mg base (k + 1) x ps dds sp C :=
  ⟨mono, f, fd, gm, F.kp, fn_okD F gm S mono len hN hb pure hC, b, bd⟩
end
end G

namespace G
open PySem PySem.Spec PyProof.Rows L2
/-! ### the draws: what every law begins with -/
def spDraw : SpD := fun is Q _ => ∃ room : Int, is = [.st, .fz (.int room)] ∧ (0 < room ∧ room.natAbs.log2 < 9000) ∧ ∀ n, 0 ≤ n → n < room → Q (.fz (.int n))
def spMixed : SpD := fun is Q _ => is = [.st] ∧ ∀ n, Q (.fz (.int n))
theorem spDraw_mono : SpMono spDraw := fun is Q Q' Ex Ex' hq hx ⟨room, e, b, q⟩ => ⟨room, e, b, fun n h1 h2 => hq _ (q n h1 h2)⟩
theorem spMixed_mono : SpMono spMixed := fun is Q Q' Ex Ex' hq hx ⟨e, q⟩ => ⟨e, fun n => hq _ (q n)⟩
/-- the state's dict -/
def stD (q c : Addr) (r t : Int) : List (Key × V) := [(sGreat, .ref q), (sCells, .ref c), (sRest, .int r), (sTurn, .int t)]
theorem key_ne : sGreat ≠ sRest ∧ sGreat ≠ sTurn ∧ sCells ≠ sRest ∧ sCells ≠ sTurn ∧ sRest ≠ sTurn ∧ sGreat ≠ sCells := by decide +kernel
theorem stD_great {q c : Addr} {r t : Int} : valV (stD q c r t) sGreat = some (.ref q) := valV_pos rfl
theorem stD_cells {q c : Addr} {r t : Int} : valV (stD q c r t) sCells = some (.ref c) := (valV_neg (p := (sGreat, _)) key_ne.2.2.2.2.2).trans (valV_pos rfl)
theorem stD_rest {q c : Addr} {r t : Int} : valV (stD q c r t) sRest = some (.int r) := (valV_neg (p := (sGreat, _)) key_ne.1).trans ((valV_neg (p := (sCells, _)) key_ne.2.2.1).trans (valV_pos rfl))
theorem stD_turn {q c : Addr} {r t : Int} : valV (stD q c r t) sTurn = some (.int t) :=
  (valV_neg (p := (sGreat, _)) key_ne.2.1).trans ((valV_neg (p := (sCells, _)) key_ne.2.2.2.1).trans ((valV_neg (p := (sRest, _)) key_ne.2.2.2.2.1).trans (valV_pos rfl)))
theorem stD_putRest {q c : Addr} {r t r' : Int} : putK (stD q c r t) sRest (.int r') = stD q c r' t := by
  have h1 := key_ne.1
  have h2 := key_ne.2.2.1
  have h3 := key_ne.2.2.2.2.1
  unfold putK stD
  simp [h1, h2, Ne.symm h3]
theorem stD_putTurn {q c : Addr} {r t r' : Int} : putK (stD q c r t) sTurn (.int r') = stD q c r r' := by
  have h1 := key_ne.2.1
  have h2 := key_ne.2.2.2.1
  have h3 := key_ne.2.2.2.2.1
  unfold putK stD
  simp [h1, h2, h3]
theorem rz_i {K : Frag} {A : Av} {Z : Zt} {H H' : Hp} {n : Int} : RV K A Z H H' (.int n) (.fz (.int n)) := by simp only [RV, Rz]
abbrev kR : TE := tC (.str "rest")
abbrev kT : TE := tC (.str "turn")
abbrev kG : TE := tC (.str "great")
abbrev kC : TE := tC (.str "cells")
def t_draw (K : Frag) (mg : Str → Option Value) (W : WX) : TS :=
  tSeq (tIfS (tTest (tOp rEq (tDGet (tVar 0) kR) (tC (.int 0))))
    (sDPut (tVar 0) kR (tIf (tTest (tOp (rNeD K) (tDGet (tVar 0) kG) (tLst tNil))) (tBM K "list" rPopAt (tDGet (tVar 0) kG) (tCons (tC (.int 0)) tNil)) (tCallSD (Lf K mg spMixed 1) [] (WE W) (tCons (tVar 0) tNil)))) tNext)
  (tSeq (tAsg (tOp (rI (fun _ j => j ≠ 0) fun i j => V.int (i.fmod j)) (tCB rInt (tCons (tDGet (tVar 0) kR) tNil)) (tVar 1)) (gName 2))
  (tSeq (sDPut (tVar 0) kR (tOp (rI CDivW fun i j => V.int (i / j)) (tDGet (tVar 0) kR) (tVar 1)))
  (tRet (tVar 2))))
theorem st_get {H : Hp} {p q c : Addr} {r t : Int} (h : H p = some (.dK (stD q c r t))) {k : Key} {v : V} (e : valV (stD q c r t) k = some v) : DGet H p (kV k) (some v) := .inl ⟨_, k, .inl h, rfl, e.symm⟩
theorem st_put {H : Hp} {p q c : Addr} {r t r' : Int} (h : H p = some (.dK (stD q c r t))) : DPut H p (.str "rest") (.int r') (upd H p (.dK (stD q c r' t))) :=
  .inl ⟨_, sRest, h, rfl, by show 4 < sizeLine; decide, by rw [stD_putRest]⟩
theorem st_putT {H : Hp} {p q c : Addr} {r t r' : Int} (h : H p = some (.dK (stD q c r t))) : DPut H p (.str "turn") (.int r') (upd H p (.dK (stD q c r r'))) :=
  .inl ⟨_, sTurn, h, rfl, by show 4 < sizeLine; decide, by rw [stD_putTurn]⟩
theorem tab_at {H H' : Hp} {P : Addr} {n : Str} (t : LamX.TabS H P n) (k : ∀ a, (∃ ps, H a = some (.tbl ps)) ∨ (∃ φ, H a = some (.ext φ)) → H' a = H a) : LamX.TabS H' P n := by
  obtain ⟨ps, hP, ht, hc⟩ := t
  refine ⟨ps, by rw [k P (.inl ⟨_, hP⟩)]; exact hP, ht, fun pos cv e => ?_⟩
  obtain ⟨c, rfl, h⟩ := hc pos cv e
  exact ⟨c, rfl, by rw [k c (.inr ⟨_, h⟩)]; exact h⟩
/-- the state changed at its own objects -/
theorem St.aft {H : Hp} {p q c : Addr} {T T' : Nat} {Z2 : List (Addr × Str)} (z : ZOk (some (p, q, c), Z2) T H) {H' : Hp} (k : ∀ a, a ≠ p → a ≠ q → H' a = H a) {gs cs : List Int} {r t : Int} (h1 : H' p = some (.dK (stD q c r t))) (h2 : H' q = some (.lst (gs.map V.int))) (h3 : H' c = some (.lst (cs.map V.int))) (h4 : cs ≠ [] ∨ 0 ≤ t ∧ t ≤ T') : Aft (some (p, q, c), Z2) T' H H' := by
  obtain ⟨z, zt⟩ := z
  refine ⟨fun a o n e => ⟨by rw [k a (fun e => n (.inl e)) (fun e => n (.inr (.inl e)))]; exact e.1, e.2⟩, ⟨z.pq, z.pc, z.qc, gs, cs, r, t, h1, h2, h3, h4⟩, ?_⟩
  obtain ⟨_, _, _, _, _, _, _, k1, k2, _⟩ := z
  refine fun t ht => tab_at (zt t ht) fun a h => k a (fun e => ?_) (fun e => ?_)
  · subst e; rcases h with ⟨_, h⟩ | ⟨_, h⟩ <;> rw [k1] at h <;> cases h
  · subst e; rcases h with ⟨_, h⟩ | ⟨_, h⟩ <;> rw [k2] at h <;> cases h
theorem shapedInts : ∀ ns : List Int, SeqAt.shaped (.list (ns.map PyData.int)) = true := fun ns => by
  have h1 : PyData.canLayAll0 (ns.map PyData.int) = true := by
    induction ns with
    | nil => rfl
    | cons n ns ih => simp only [List.map_cons, PyData.canLayAll0, PyData.canLay0, ih, Bool.and_self]
  have h2 : PyData.depthAll (ns.map PyData.int) = 0 := by
    induction ns with
    | nil => rfl
    | cons n ns ih => simp only [List.map_cons, PyData.depthAll, PyData.depth, ih (by
        simp only [List.map_cons, PyData.canLayAll0, Bool.and_eq_true] at h1; exact h1.2)]; rfl
  unfold SeqAt.shaped
  simp only [PyData.canLay0, PyData.depth, h1, h2]
  decide
theorem dpInts {K : Frag} {H : Hp} {q : Addr} {gs : List Int} (h : H q = some (.lst (gs.map V.int))) : Dp K H (.ref q) (.list (gs.map PyData.int)) := by
  refine .lst (.of h) ?_
  clear h
  induction gs with
  | nil => exact .nil
  | cons g gs ih => exact .cons (.int g) ih
theorem eqv_nil {gs : List Int} : PyData.eqv (.list (gs.map PyData.int)) (.list []) = gs.isEmpty := by
  cases gs <;> simp [PyData.eqv, PyData.eqvAll]

/-! ints raised to a power -/
def CPowW (i j : Int) : Prop := 0 ≤ j ∧ (Builtin.Int.intBits i : Int) * j ≤ 2 ^ 27
theorem op_powW {X : Cx} : OpR X (binaryOp .Pow) (rI CPowW fun i j => V.int (i ^ j.toNat)) := opI fun _ _ _ _ _ _ _ hc q => pow_int hc.1 hc.2 q
theorem powW_of {b : Int} (h : b.natAbs < 2 ^ 4130) : CPowW b 5 := by
  refine ⟨by decide, ?_⟩
  unfold Builtin.Int.intBits
  split
  · decide +kernel
  · rename_i h0
    have h0 : b ≠ 0 := by simpa using h0
    have : b.natAbs.log2 < 4130 := (Nat.log2_lt (by omega)).mpr h
    have e : (2 : Int) ^ 27 = 134217728 := by decide +kernel
    rw [e]
    omega
def primes : List Int := [2147483629, 2147483587, 2147483579, 2147483563]
theorem primes_ok : ∀ (i : Nat) (v : V), (primes.map V.int)[i]? = some v → ∃ pr : Int, v = .int pr ∧ 0 < pr ∧ pr < 2147483648 := by
  intro i v h
  have m := List.mem_of_getElem? h
  simp only [primes, List.map_cons, List.map_nil, List.mem_cons, List.not_mem_nil, or_false] at m
  rcases m with rfl | rfl | rfl | rfl <;> exact ⟨_, rfl, by decide, by decide⟩
abbrev tI (i : Int) : TE := tC (.int i)
abbrev tAdd (a b : TE) : TE := tOp (rI0 fun i j => V.int (i + j)) a b
abbrev tMul (a b : TE) : TE := tOp (rI CMul fun i j => V.int (i * j)) a b
abbrev tMod (a b : TE) : TE := tOp (rI (fun _ j => j ≠ 0) fun i j => V.int (i.fmod j)) a b
abbrev tDiv (a b : TE) : TE := tOp (rI CDivW fun i j => V.int (i / j)) a b
abbrev tInt (a : TE) : TE := tCB rInt (tCons a tNil)
def t_mixed (K : Frag) : TS :=
  tSeq (tPar 1 2 (tCons (tAdd (tDGet (tVar 0) kT) (tI 1)) (tCons (tI 0) tNil)))
  (tSeq (sDPut (tVar 0) kT (tVar 1))
  (tSeq (tFor (iList K (tLst (tCons (tI 2147483629) (tCons (tI 2147483587) (tCons (tI 2147483579) (tCons (tI 2147483563) tNil)))))) (gName 3)
    (tSeq (tAsg (tAdd (tMul (tI 69621) (tVar 1)) (tDiv (tVar 3) (tI 41))) (gName 4))
    (tSeq (tFor (iList K (tDGet (tVar 0) kC)) (gName 5) (tAsg (tMod (tInt (tAdd (tAdd (tMul (tVar 4) (tI 48271)) (tVar 5)) (tVar 1))) (tVar 3)) (gName 4)))
    (tAsg (tAdd (tMul (tVar 2) (tI 2147483659)) (tMod (tInt (tOp (rI CPowW fun i j => V.int (i ^ j.toNat)) (tVar 4) (tI 5))) (tVar 3))) (gName 2)))))
  (tRet (tVar 2))))
theorem cmul_l {i j : Int} (h : -(2 ^ 64) < i) (h2 : i < 2 ^ 64) : CMul i j := .inl ⟨h, h2⟩
theorem cmul_r {i j : Int} (h : -(2 ^ 64) < j) (h2 : j < 2 ^ 64) : CMul i j := .inr ⟨h, h2⟩
theorem pure_mixed {K : Frag} {mg : Str → Option Value} (vs : List V) (H : Hp) (Q : VK) (E : XK) (h : Lf K mg spMixed 1 vs H Q E) :
    t_mixed K { nx := fun _ H' => Q .non H', rt := Q } (L2.start ["state", "turn", "found", "prime", "blend", "cell"] vs) H := by
  obtain ⟨B, ⟨Z1, Z2⟩, T, is, hL, h1, hz, ht, tb, rfl, q⟩ := h
  obtain ⟨v, r, rfl, ⟨p, g, c, rfl, rfl⟩, _, hr⟩ := h1
  simp only [RVs] at hr
  subst hr
  have z : ZOk (some (p, g, c), Z2) T H := hz
  obtain ⟨⟨n1, n2, n3, gs, cs, re, tu, k1, k2, k3, k4⟩, _⟩ := hz
  refine ⟨_, rfl, _, _, rfl, st_get k1 stD_turn, tu, 1, rfl, rfl, _, _, rfl, ?_⟩
  have a1 : Aft (some (p, g, c), Z2) (T + 1) H (upd H p (.dK (stD g c re (tu + 1)))) := St.aft z (fun a h1 _ => upd_ne h1) upd_same (by rw [upd_ne (Ne.symm n1)]; exact k2) (by rw [upd_ne (Ne.symm n2)]; exact k3) (k4.imp id fun x => ⟨by omega, by omega⟩)
  generalize hH1 : upd H p (.dK (stD g c re (tu + 1))) = H1 at a1
  refine ⟨_, rfl, _, rfl, p, _, rfl, st_putT k1, ?_⟩
  rw [hH1]
  refine ⟨by show 4 ≤ sizeLine; decide, fun l hl => ⟨l, rfl, ⟨_, .of upd_same⟩, ?_⟩⟩
  have a2 : Aft (some (p, g, c), Z2) (T + 1) H (upd H1 l (.lst (primes.map V.int))) := a1.trans (Aft.new a1.z hl)
  have pl : p ≠ l := fun e => by rw [← e, ← hH1, upd_same] at hl; cases hl
  have cl : c ≠ l := fun e => by rw [← e, ← hH1, upd_ne (Ne.symm n2), k3] at hl; cases hl
  have e1 : (upd H1 l (.lst (primes.map V.int))) p = some (.dK (stD g c re (tu + 1))) := by rw [upd_ne pl, ← hH1, upd_same]
  have e3 : (upd H1 l (.lst (primes.map V.int))) c = some (.lst (cs.map V.int)) := by rw [upd_ne cl, ← hH1, upd_ne (Ne.symm n2)]; exact k3
  have e0 : (upd H1 l (.lst (primes.map V.int))) l = some (.lst (primes.map V.int)) := upd_same
  show ∃ W : Nat → Nat → St → Hp → Prop, (∃ m, W 0 m _ (upd H1 l (.lst (primes.map V.int)))) ∧ _
  generalize hH2 : upd H1 l (.lst (primes.map V.int)) = H2 at a2 e1 e3 e0
  refine for_it (walk_list (K := K) (a := l) (xs := primes.map V.int)) (Pv := fun i σ H' => H' = H2 ∧ ∃ (f : Int) (o3 o4 o5 : Option V), σ = [some (.ref p), some (.int (tu + 1)), some (.int f), o3, o4, o5]) ?_ ?_ ?_ ?_
  · exact ⟨rfl, 0, none, none, none, rfl⟩
  · rintro i σ H' _ ⟨rfl, _⟩
    exact .of e0
  · rintro i x σ H' H3 hi ⟨rfl, f, o3, o4, o5, rfl⟩ ⟨rfl, hx⟩
    obtain ⟨pr, rfl, p0, p1⟩ := primes_ok i x hx
    -- blend = 69621 * turn + prime // 41
    refine ⟨_, rfl, _, _, rfl, rfl, cmul_l (by decide) (by decide), _, rfl, _, _, rfl, rfl, ⟨by decide, by decide +kernel⟩, _, _, rfl, rfl, ?_⟩
    have b0k : 0 ≤ pr / 41 ∧ pr / 41 < 2147483648 := ⟨by omega, by omega⟩
    obtain ⟨b0, hb0⟩ : ∃ b0 : Int, b0 = 69621 * (tu + 1) + pr / 41 := ⟨_, rfl⟩
    refine ⟨_, rfl, _, _, rfl, st_get e1 stD_cells, c, rfl, ⟨_, .of e3⟩, ?_⟩
    refine for_it (walk_list (K := K) (a := c) (xs := cs.map V.int)) (Pv := fun j σ H' => H' = H3 ∧ ∃ (b : Int) (o5 : Option V), σ = [some (.ref p), some (.int (tu + 1)), some (.int f), some (.int pr), some (.int b), o5] ∧ (j = 0 ∧ b = b0 ∨ 0 ≤ b ∧ b < pr)) ?_ ?_ ?_ ?_
    · exact ⟨rfl, _, o5, rfl, .inl ⟨rfl, hb0.symm⟩⟩
    · rintro j σ H' _ ⟨rfl, _⟩
      exact .of e3
    · rintro j x σ H' H4 hj ⟨rfl, b, o5, rfl, hb⟩ ⟨rfl, hx2⟩
      rw [List.getElem?_map] at hx2
      obtain ⟨ce, _, rfl⟩ := Option.map_eq_some_iff.mp hx2
      refine ⟨_, rfl, _, _, rfl, rfl, cmul_r (by decide) (by decide), _, rfl, _, _, rfl, rfl, _, rfl, _, _, rfl, rfl, ?_⟩
      refine .inl (.inl ⟨_, rfl, _, rfl, _, _, rfl, rfl, by omega, rfl, _, _, rfl, .inr ⟨Int.fmod_nonneg_of_pos _ p0, Int.fmod_lt_of_pos _ p0⟩⟩)
    · rintro σ H' ⟨rfl, b, o5, rfl, hb⟩
      have hbs : b.natAbs < 2 ^ 4130 := by
        rcases hb with ⟨h0, rfl⟩ | ⟨h1, h2⟩
        · have hc : cs = [] := by
            rw [List.length_map] at h0
            exact List.eq_nil_of_length_eq_zero h0
          obtain ⟨t1, t2⟩ := k4.resolve_left (fun n => n hc)
          have hl : 69621 * LIM + 2147483648 + 69621 < 2 ^ 4130 := by unfold LIM; decide +kernel
          generalize (2 : Nat) ^ 4130 = M at hl ⊢
          omega
        · have hl : 2147483648 < 2 ^ 4130 := by decide +kernel
          generalize (2 : Nat) ^ 4130 = M at hl ⊢
          omega
      refine ⟨_, rfl, _, _, rfl, rfl, cmul_r (by decide) (by decide), _, rfl, _, _, rfl, rfl, powW_of hbs, .inl (.inl ⟨_, rfl, _, rfl, _, _, rfl, rfl, by omega, _, _, rfl, rfl, rfl, _, _, _, _, rfl⟩)⟩
  · rintro σ H' ⟨rfl, f, o3, o4, o5, rfl⟩
    exact ⟨_, rfl, q f (.int f) _ a2 rz_i⟩
theorem pure_draw {K : Frag} {mg : Str → Option Value} {W : WX} (vs : List V) (H : Hp) (Q : VK) (E : XK) (h : Lf K mg spDraw 1 vs H Q E) :
    t_draw K mg W { nx := fun _ H' => Q .non H', rt := Q } (L2.start ["state", "room", "found"] vs) H := by
  obtain ⟨B, ⟨Z1, Z2⟩, T, is, hL, h1, hz, ht, tb, room, rfl, ⟨r1, r2⟩, q⟩ := h
  obtain ⟨v, r, rfl, ⟨p, g, c, rfl, rfl⟩, _, hr⟩ := h1
  obtain ⟨w, r', rfl, hw, _, hr'⟩ := hr
  simp only [RVs] at hr'
  subst hr'
  simp only [RV, Rz] at hw
  subst hw
  have z : ZOk (some (p, g, c), Z2) T H := hz
  obtain ⟨⟨n1, n2, n3, gs, cs, re, tu, k1, k2, k3, k4⟩, _⟩ := hz
  -- the second part: from a state with its rest
  have part2 : ∀ (H2 : Hp) (gs' cs' : List Int) (re' tu' : Int), Aft (some (p, g, c), Z2) (T + 1) H H2 → (cs' ≠ [] ∨ 0 ≤ tu' ∧ tu' ≤ (T + 1 : Nat)) → H2 p = some (.dK (stD g c re' tu')) → H2 g = some (.lst (gs'.map V.int)) → H2 c = some (.lst (cs'.map V.int)) →
      tSeq (tAsg (tOp (rI (fun _ j => j ≠ 0) fun i j => V.int (i.fmod j)) (tCB rInt (tCons (tDGet (tVar 0) kR) tNil)) (tVar 1)) (gName 2))
        (tSeq (sDPut (tVar 0) kR (tOp (rI CDivW fun i j => V.int (i / j)) (tDGet (tVar 0) kR) (tVar 1))) (tRet (tVar 2))) { nx := fun _ H' => Q .non H', rt := Q } [some (.ref p), some (.int room), none] H2 := by
    intro H2 gs' cs' re' tu' a2 e4 e1 e2 e3
    refine ⟨_, rfl, _, _, rfl, st_get e1 stD_rest, .inl (.inl ⟨re', rfl, _, rfl, _, _, rfl, rfl, by omega, ?_⟩)⟩
    refine ⟨_, rfl, _, _, rfl, st_get e1 stD_rest, _, rfl, _, _, rfl, rfl, ⟨r1, r2⟩, ?_⟩
    refine ⟨_, rfl, p, _, rfl, st_put e1, _, rfl, ?_⟩
    refine q (re'.fmod room) (Int.fmod_nonneg_of_pos _ r1) (Int.fmod_lt_of_pos _ r1) (.int _) _ (a2.trans ?_) (by simp only [RV, Rz])
    exact St.aft a2.z (fun a h1 _ => upd_ne h1) upd_same (by rw [upd_ne (Ne.symm n1)]; exact e2) (by rw [upd_ne (Ne.symm n2)]; exact e3) e4
  have k4' : cs ≠ [] ∨ 0 ≤ tu ∧ tu ≤ (T + 1 : Nat) := k4.imp id fun x => ⟨x.1, by omega⟩
  refine ⟨_, rfl, _, _, rfl, st_get k1 stD_rest, rfl, _, rfl, ?_⟩
  by_cases h0 : re = 0
  · subst h0
    rw [if_pos (by simp)]
    refine ⟨_, rfl, _, _, rfl, st_get k1 stD_great, by show 0 ≤ sizeLine; exact Nat.zero_le _, fun l hl => ?_⟩
    have ng : g ≠ l := fun e => by rw [← e, k2] at hl; cases hl
    have np : p ≠ l := fun e => by rw [← e, k1] at hl; cases hl
    have nc : c ≠ l := fun e => by rw [← e, k3] at hl; cases hl
    have g1 : upd H l (.lst []) g = some (.lst (gs.map V.int)) := by rw [upd_ne ng]; exact k2
    have p1 : upd H l (.lst []) p = some (.dK (stD g c 0 tu)) := by rw [upd_ne np]; exact k1
    have c1 : upd H l (.lst []) c = some (.lst (cs.map V.int)) := by rw [upd_ne nc]; exact k3
    have a1 : Aft (some (p, g, c), Z2) T H (upd H l (.lst [])) := Aft.new z hl
    refine ⟨_, _, dpInts g1, .lst (.of upd_same) .nil, shapedInts gs, by decide +kernel, ?_⟩
    rw [eqv_nil]
    refine ⟨_, rfl, ?_⟩
    cases gs with
    | nil =>
      show tCallSD (Lf K mg spMixed 1) [] (WE W) (tCons (tVar 0) tNil) _ _ _
      refine ⟨_, rfl, B, (some (p, g, c), Z2), T, [.st], hL, ⟨_, [], rfl, ⟨p, g, c, rfl, rfl⟩, (fun _ e => nomatch e), rfl⟩, a1.z, fun a ha => let ⟨o, e⟩ := ht a ha; ⟨o, e.new hl⟩, tb, rfl, fun n v H2 a2 rv => ?_⟩
      simp only [RV, Rz] at rv
      subst rv
      obtain ⟨⟨_, _, _, gs2, cs2, re2, tu2, b1, b2, b3, b4⟩, _⟩ := a2.z
      have b3' : H2 c = some (.lst (cs2.map V.int)) := b3
      refine ⟨_, rfl, p, _, rfl, st_put b1, ?_⟩
      exact part2 _ gs2 cs2 n tu2 ((a1.trans a2).trans (St.aft a2.z (fun a h1 _ => upd_ne h1) upd_same (by rw [upd_ne (Ne.symm n1)]; exact b2) (by rw [upd_ne (Ne.symm n2)]; exact b3) b4)) b4 upd_same (by rw [upd_ne (Ne.symm n1)]; exact b2) (by rw [upd_ne (Ne.symm n2)]; exact b3)
    | cons g0 gs =>
      show tBM K "list" rPopAt (tDGet (tVar 0) kG) (tCons (tC (.int 0)) tNil) _ _ _
      refine ⟨_, rfl, _, _, rfl, st_get p1 stD_great, .inl ⟨rfl, _, .of g1⟩, _, _, 0, 0, .int g0, rfl, rfl, g1, by decide, by decide, ?_, rfl, ?_⟩
      · simp [seqIndex?]
      · have p2 : upd (upd H l (.lst [])) g (.lst (((g0 :: gs).map V.int).eraseIdx 0)) p = some (.dK (stD g c 0 tu)) := by rw [upd_ne n1]; exact p1
        refine ⟨_, rfl, p, _, rfl, st_put p2, ?_⟩
        refine part2 _ gs cs g0 tu (a1.trans (St.aft a1.z (fun a h1 h2 => by rw [upd_ne h1, upd_ne h2]) upd_same (gs := gs) (cs := cs) ?_ ?_ k4')) k4' upd_same ?_ ?_
        · rw [upd_ne (Ne.symm n1)]; exact upd_same
        · rw [upd_ne (Ne.symm n2), upd_ne (Ne.symm n3)]; exact c1
        · rw [upd_ne (Ne.symm n1)]; exact upd_same
        · rw [upd_ne (Ne.symm n2), upd_ne (Ne.symm n3)]; exact c1
  · dsimp only
    rw [if_neg (by simp [h0])]
    exact part2 H gs cs re tu ⟨ExA.refl, z.up (by omega)⟩ k4' k1 k2 k3
end G

namespace G
open PySem PySem.Spec PyProof.Rows L2
/-! ### _law_begun -/
theorem sql_new {K : Frag} {H : Hp} {a D : Addr} {xs : List V} {o : HO} (h : SqL K H a xs) (hD : H D = none) : SqL K (upd H D o) a xs := by
  rcases h with (h | ⟨u, h⟩) | h
  · exact .inl (.inl (by rw [upd_ne (ne_of_none h hD)]; exact h))
  · exact .inl (.inr ⟨u, by rw [upd_ne (ne_of_none h hD)]; exact h⟩)
  · exact .inr h
theorem upd_upd {H : Hp} {a : Addr} {o o' : HO} : upd (upd H a o) a o' = upd H a o' := by
  funext b
  by_cases h : b = a
  · subst h; rw [upd_same, upd_same]
  · rw [upd_ne h, upd_ne h, upd_ne h]
def pickI (p : Int → Bool) (f : Int → Int) (ns : List Int) : List Int := (ns.filter p).map f
theorem pickI_snoc {p : Int → Bool} {f : Int → Int} {ns : List Int} {n : Int} : pickI p f (ns ++ [n]) = pickI p f ns ++ (if p n = true then [f n] else []) := by
  unfold pickI
  rw [List.filter_append, List.map_append]
  cases h : p n <;> simp [h]
theorem pickI_len {p : Int → Bool} {f : Int → Int} (ns : List Int) : (pickI p f ns).length ≤ ns.length := by
  unfold pickI
  rw [List.length_map]
  exact List.length_filter_le ..
theorem lc_ints {K : Frag} {a : Addr} {ns : List Int} {j : Nat} {tt : TT} {te : TE} {σ : St} {H : Hp} {Q : VK} (p : Int → Bool) (f : Int → Int) (hs : SqL K H a (ns.map V.int)) (hl : ns.length ≤ sizeLine) (h0 : σ[0]? = some (some (.ref a))) (hj : j < σ.length)
    (ht : ∀ (σ2 : St) (H2 : Hp) (R : Bool → Hp → Prop) (n : Int), σ2[j]? = some (some (.int n)) → R (p n) H2 → tt σ2 H2 R)
    (he : ∀ (σ2 : St) (H2 : Hp) (R : VK) (n : Int), σ2[j]? = some (some (.int n)) → R (.int (f n)) H2 → te σ2 H2 R)
    (q : ∀ D, H D = none → Q (.ref D) (upd H D (.lst ((pickI p f ns).map V.int)))) : tLc (iList K (tVar 0)) (gName j) tt te [j] σ H Q := by
  refine ⟨_, h0, a, rfl, ⟨_, hs⟩, fun D hD => ?_⟩
  have hlen : (ns.map V.int).length = ns.length := List.length_map ..
  refine lc_it (walk_list (K := K) (a := a) (xs := ns.map V.int)) (Pv := fun i H' => H' = upd H D (.lst ((pickI p f (ns.take i)).map V.int))) ?_ ?_ ?_ ?_
  · rw [List.take_zero]; rfl
  · rintro i H' _ rfl
    exact sql_new hs hD
  · rintro i x H' H3 hi rfl ⟨rfl, hx⟩
    rw [List.getElem?_map] at hx
    obtain ⟨n, hn, rfl⟩ := Option.map_eq_some_iff.mp hx
    have e : ns.take (i + 1) = ns.take i ++ [n] := by
      rw [List.take_succ, hn]; rfl
    have hw : (wipe σ [j]).length = σ.length := wipe_length σ [j]
    have hg : ((wipe σ [j]).set j (some (V.int n)))[j]? = some (some (.int n)) := by rw [List.getElem?_set_self (by rw [hw]; exact hj)]
    refine ⟨by simp [wipe], ht _ _ _ n hg ?_⟩
    rw [e, pickI_snoc]
    cases hp : p n with
    | false => simp
    | true =>
      simp only [if_true]
      refine he _ _ _ n hg ⟨(pickI p f (ns.take i)).map V.int, upd_same, ?_, ?_⟩
      · have := pickI_len (p := p) (f := f) (ns.take i)
        rw [List.length_take] at this
        rw [List.length_map]
        rw [hlen] at hi
        omega
      · rw [upd_upd, List.map_append]; rfl
  · rintro H' rfl
    rw [hlen, List.take_length]
    exact q D hD
def absI (i : Int) : Int := if i < 0 then -i else i
abbrev tAbs (a : TE) : TE := tCB (fun xs H Q => ∃ i, xs = [V.int i] ∧ Q (.int (if i < 0 then -i else i)) H) (tCons a tNil)
abbrev tTen : TE := tOp (rI CPow fun i j => V.int (i ^ j.toNat)) (tI 10) (tI 18)
def t_begun (K : Frag) : TS :=
  tSeq (tAsg (tLc (iList K (tVar 0)) (gName 2) (tTest (tOp (rI0 fun i j => V.bl (decide (j ≤ i))) (tAbs (tVar 2)) tTen)) (tOp (rI0 fun i j => V.int (i - j)) (tAbs (tVar 2)) tTen) [2]) (gName 1))
  (tRet (tDisp [(kG, tVar 1), (kC, tLc (iList K (tVar 0)) (gName 2) (fun _ H Q => Q true H) (tAbs (tVar 2)) [2]), (kR, tI 0), (kT, tI 0)]))
def spBegun (K : Frag) : Sp := fun vs H Q _ => ∃ (a : Addr) (ns : List Int), vs = [.ref a] ∧ SqL K H a (ns.map V.int) ∧ ns.length ≤ sizeLine ∧
  ∀ (p q c : Addr) (H' : Hp), H p = none → H q = none → H c = none → (∀ b o, H b = some o → H' b = some o) → StOk H' p q c 0 → Q (.ref p) H'
theorem tail_map {ns : List Int} {f : Int → Int} : pickI (fun _ => true) f ns = ns.map f := by
  unfold pickI
  rw [List.filter_eq_self.mpr (fun _ _ => rfl)]
theorem pure_begun {K : Frag} (vs : List V) (H : Hp) (Q : VK) (E : XK) (h : spBegun K vs H Q E) :
    t_begun K { nx := fun _ H' => Q .non H', rt := Q } (L2.start ["script", "great", "cell"] vs) H := by
  obtain ⟨a, ns, rfl, hs, hl, k⟩ := h
  unfold t_begun tSeq tAsg
  dsimp only
  refine lc_ints (a := a) (ns := ns) (fun n => decide ((10 : Int) ^ 18 ≤ absI n)) (fun n => absI n - 10 ^ 18) hs hl rfl (by show 2 < 3; decide) ?_ ?_ fun g hg => ?_
  · intro σ2 H2 R n e q
    exact ⟨_, e, n, rfl, _, _, rfl, rfl, ⟨by decide, by decide, by decide +kernel⟩, _, _, rfl, rfl, _, rfl, q⟩
  · intro σ2 H2 R n e q
    exact ⟨_, e, n, rfl, _, _, rfl, rfl, ⟨by decide, by decide, by decide +kernel⟩, _, _, rfl, rfl, q⟩
  generalize hgs : pickI (fun n => decide ((10 : Int) ^ 18 ≤ absI n)) (fun n => absI n - 10 ^ 18) ns = gs
  intro p hp
  have gp : g ≠ p := fun e => by rw [← e, upd_same] at hp; cases hp
  have hp0 : H p = none := by rw [upd_ne (Ne.symm gp)] at hp; exact hp
  refine ⟨_, rfl, ?_⟩
  have hs2 : SqL K (upd (upd H g (.lst (gs.map V.int))) p (.dK [])) a (ns.map V.int) := sql_new (sql_new hs hg) hp
  simp only [tPairs, kC, kR, kT, tI, tC]
  refine lc_ints (a := a) (ns := ns) (fun _ => true) absI hs2 hl ?_ ?_ (fun _ _ _ _ _ q => q) ?_ fun c hc => ?_
  · rfl
  · show 2 < 3; decide
  · intro σ2 H2 R n e q
    exact ⟨_, e, n, rfl, q⟩
  rw [tail_map]
  have pc : p ≠ c := fun e => by rw [← e, upd_same] at hc; cases hc
  have hc1 : (upd H g (.lst (gs.map V.int))) c = none := by rw [upd_ne (Ne.symm pc)] at hc; exact hc
  have gc : g ≠ c := fun e => by rw [← e, upd_same] at hc1; cases hc1
  have hc0 : H c = none := by rw [upd_ne (Ne.symm gc)] at hc1; exact hc1
  refine ⟨by rw [upd_ne pc, upd_same], [(sGreat, .ref g), (sCells, .ref c), (sRest, .int 0), (sTurn, .int 0)], rfl, by show 4 ≤ 15; decide, ?_⟩
  have em : mergeK [] [(sGreat, V.ref g), (sCells, .ref c), (sRest, .int 0), (sTurn, .int 0)] = [(sGreat, .ref g), (sCells, .ref c), (sRest, .int 0), (sTurn, .int 0)] := by
    obtain ⟨k1, k2, k3, k4, k5, k6⟩ := key_ne
    simp [mergeK, putK, k1, k2, k3, k4, k5, k6, Ne.symm k6, Ne.symm k1, Ne.symm k2, Ne.symm k3, Ne.symm k4, Ne.symm k5]
  rw [em]
  refine k p g c _ hp0 hg hc0 (fun b o e => ?_) ⟨Ne.symm gp, pc, gc, gs, ns.map absI, 0, 0, upd_same, ?_, ?_, .inr ⟨Int.le_refl _, Int.le_refl _⟩⟩
  · have n1 := ne_of_none e hp0
    have n2 := ne_of_none e hg
    have n3 := ne_of_none e hc0
    rw [upd_ne n1, upd_ne n3, upd_ne n1, upd_ne n2]
    exact e
  · rw [upd_ne gp, upd_ne gc, upd_ne gp, upd_same]
  · rw [upd_ne (Ne.symm pc), upd_same]
/-! ### the law itself -/
def spLaw (K : Frag) : Sp := fun vs H Q _ => ∃ (a : Addr) (ns : List Int), vs = [.ref a] ∧ ns.length ≤ 63 ∧ LamX.Tabs (lamTabs K) H ∧ SqL K H a (ns.map V.int) ∧ ∀ H', Q (.bl true) H'
def lawE (ns : List Int) (n : Nat) : Env := .sc ns :: .st :: List.replicate (n - 2) .un
theorem lawE_get {ns : List Int} {n i : Nat} {x : SV} (h : (lawE ns n)[i]? = some x) : i = 0 ∧ x = .sc ns ∨ i = 1 ∧ x = .st ∨ x = .un := by
  unfold lawE at h
  match i, h with
  | 0, h => exact .inl ⟨rfl, by simpa using h.symm⟩
  | 1, h => exact .inr (.inl ⟨rfl, by simpa using h.symm⟩)
  | i + 2, h =>
    simp only [List.getElem?_cons_succ, List.getElem?_replicate] at h
    split at h
    · cases h; exact .inr (.inr rfl)
    · cases h
/-- the state as the law has it behind its first line -/
theorem RE.law {K : Frag} {H H' : Hp} {a p q c : Addr} {ns : List Int} {n : Nat} {σ : St} (hs : SqL K H a (ns.map V.int)) (k : ∀ b o, H b = some o → H' b = some o) (hp : H p = none) (hq : H q = none) (hc : H c = none) (z : ZOk (some (p, q, c), lamTabs K) 0 H')
    (hn : 2 ≤ n) (h0 : σ[0]? = some (some (.ref a))) (h1 : σ[1]? = some (some (.ref p))) (hl : σ.length = n) : RE K (fun _ => False) (some (p, q, c), lamTabs K) 0 H' (lawE ns n) σ H' := by
  refine ⟨fun i x e => ?_, fun i j d d' b e _ _ _ => ?_, fun _ h => h.elim, z, ExA.refl, by unfold lawE; simp [hl]; omega, rfl⟩
  · rcases lawE_get e with ⟨rfl, rfl⟩ | ⟨rfl, rfl⟩ | rfl
    · refine ⟨a, h0, ?_⟩
      rcases hs with hs | hs
      · refine .inl ⟨?_, ?_⟩
        · have ha : H a ≠ none := rd_some hs
          rintro (h | (h | h | h) | ⟨j, d, e1, _⟩)
          · exact h
          · exact ha (by rw [h]; exact hp)
          · exact ha (by rw [h]; exact hq)
          · exact ha (by rw [h]; exact hc)
          · rcases lawE_get e1 with ⟨_, e⟩ | ⟨_, e⟩ | e <;> cases e
        · rcases hs with h | ⟨u, h⟩
          · exact .inl (k _ _ h)
          · exact .inr ⟨u, k _ _ h⟩
      · exact .inr hs
    · exact ⟨p, q, c, rfl, h1⟩
    · trivial
  · rcases lawE_get e with ⟨_, e⟩ | ⟨_, e⟩ | e <;> cases e
theorem law_intro {P : Program} {w : World} {K : Frag} {mg : Str → Option Value} {base : Heap} {params : Arguments} {st : Stmt} {rest : List Stmt} {scope : Scope} {f : Addr} {fd : FuncData} {N : List Str} {k : Nat} {m : MS} {c : Nat}
    (F : FunD K "law" "law" params (st :: rest) scope [] [] f fd) (S : FnScope N ["script"] scope) (hN : 2 ≤ N.length)
    (hb : ∀ (cdv : Value) (A : Around) (outer : List PySem.Env) (s : Shared) (H : Hp) (E : XK), fd.code = cdv → Room k (A.deeper (envOfC "law" scope s.heap.objs.size f cdv)) →
      PS (cxOf (L2.CX P w) P w K mg base N "law" scope f cdv A outer s H E) st (tAsg (tCallSD (spBegun K) [] (WE fun cls d _ H => E cls d H) (tCons (tVar 0) tNil)) (gName 1)) ∧
      DSs (cxOf (L2.CX P w) P w K mg base N "law" scope f cdv A outer s H E) (fun cls d _ H => E cls d H) rest m c)
    (pure : ∀ ns : List Int, ns.length ≤ 63 → m { nx := fun _ => False, rt := fun iv => iv = .fz (.bl true) } (lawE ns N.length)) (hC : c ≤ LIM := by decide +kernel) : FnOk P w K mg base (L2.CX P w) (k + 1) f fd ["script"] (spLaw K) := by
  obtain ⟨oc, od, dV, kV, doc, pm, an, cdv, ct, osl, rfl, lk, hcd, _, _⟩ := F.ex
  refine fn_of lk hcd S (fun vs H Q E h => ?_) (fun A outer s H vs Q E hr h => ?_)
  · obtain ⟨a, ns, rfl, _⟩ := h
    rfl
  · obtain ⟨a, ns, rfl, hl, hT, hs, hQ⟩ := h
    obtain ⟨p1, t, p2, l⟩ := hb cdv A outer s H E rfl hr
    refine ⟨_, pss_cons p1 p2, ?_⟩
    have h0 : (L2.start N [V.ref a])[0]? = some (some (.ref a)) := start_get rfl
    have hlen : (L2.start N [V.ref a]).length = N.length := by
      unfold L2.start
      simp
      omega
    refine ⟨_, h0, a, ns, rfl, hs, by rw [sizeLine_eq]; omega, fun p q c' H' hp hq hc k z => ?_⟩
    have re : RE K (fun _ => False) (some (p, q, c'), lamTabs K) 0 H' (lawE ns N.length) ((L2.start N [V.ref a]).set 1 (some (.ref p))) H' :=
      RE.law hs k hp hq hc ⟨z, hT.ext k⟩ hN (by rw [List.getElem?_set_ne (by decide)]; exact h0) (by rw [List.getElem?_set_self (by rw [hlen]; omega)]) (by rw [List.length_set, hlen])
    refine l.run (fun _ => False) (some (p, q, c'), lamTabs K) H' (lawE ns N.length) _ H' { nx := fun _ => False, rt := fun iv => iv = .fz (.bl true) } _ (T' := LIM) re ⟨fun _ _ _ h => h.elim, fun _ _ _ h => h.elim, fun _ _ _ h => h.elim, fun iv v H2 h _ _ rv => ?_, fun _ _ _ _ _ h => h.elim⟩ (pure ns hl)
    subst h
    simp only [RV, Rz] at rv
    subst rv
    exact hQ H2
/-- nothing gets out -/
theorem fn_toCX0 {P : Program} {w : World} {K : Frag} {mg : Str → Option Value} {base : Heap} {k : Nat} {f : Addr} {fd : FuncData} {ps : List Str} {sp : Sp} (F : FnOk P w K mg base (L2.CX P w) k f fd ps sp) (h : ∀ vs H Q E, sp vs H Q E → sp vs H Q fun _ _ _ => False) : FnOk P w K mg base L2.CX0 k f fd ps sp := by
  refine ⟨F.len, fun A outer s H args us vs Q E hr he hb hv hs => codeAny_mono (F.run A outer s H args us vs Q (fun _ _ _ => False) hr he hb hv (h _ _ _ _ hs)) fun r s' hq => ?_⟩
  cases r with
  | error e =>
    obtain ⟨_, _, _, _, _, _, _, _, _, _, _, _, z⟩ := hq
    exact z.elim
  | ok fl => cases fl <;> exact hq
end G

namespace G
open PySem PySem.Spec PyProof.Rows L2
/-! ### tuple * int, few times -/
theorem tuple_mulS (l : Addr) (items : Array Value) (n : Nat) (dd : Option Addr) (sl : Array (Option Value)) (x : Int) (u : Tok) (c0 : (decide (x < -(2 ^ 63)) || decide (x ≥ 2 ^ 63)) = false) (c1 : (items.isEmpty || x == 1) = true) :
    Meets (Builtin.«tuple.__mul__» ⟨[.ref l, .int x u], []⟩) (fun _ R s => s.heap.get? l = some { cls := .type "tuple", dict := dd, data := .seq items n, slots := sl } ∧ R (.ok (.ret (Value.ref l))) s) :=
  .of_wp fun prog w A R s h => by
    obtain ⟨hp, g, d, tk, os⟩ := s
    obtain ⟨hl, h⟩ := h
    have f1 := AutoSeq1.idx_int
    wp_walk using AutoSeq1.wpAny_loadPart' hl
    repeat (first
      | (refine wpAny_ite_false (decide_eq_false (by rw [c0]; exact Bool.false_ne_true)) ?_; wp_walk using AutoSeq1.wpAny_loadPart' hl)
      | (refine wpAny_ite_true (decide_eq_true c1) ?_; wp_walk using AutoSeq1.wpAny_loadPart' hl))
    exact ⟨_, rfl, h⟩
theorem tuple_mul0 (l : Addr) (items : Array Value) (n : Nat) (dd : Option Addr) (sl : Array (Option Value)) (x : Int) (u : Tok) (c0 : (decide (x < -(2 ^ 63)) || decide (x ≥ 2 ^ 63)) = false) (c1 : (items.isEmpty || x == 1) = false) (c2 : (decide (x ≤ 0) || items.isEmpty) = true) :
    Meets (Builtin.«tuple.__mul__» ⟨[.ref l, .int x u], []⟩) (fun _ R s => s.heap.get? l = some { cls := .type "tuple", dict := dd, data := .seq items n, slots := sl } ∧
      R (.ok (.ret (Value.ref s.heap.objs.size))) { s with heap := s.heap.push { cls := Value.type "tuple", data := Data.seq #[] }, toks := s.toks }) :=
  .of_wp fun prog w A R s h => by
    obtain ⟨hp, g, d, tk, os⟩ := s
    obtain ⟨hl, h⟩ := h
    have f1 := AutoSeq1.idx_int
    wp_walk using AutoSeq1.wpAny_loadPart' hl
    repeat (first
      | (refine wpAny_ite_false (decide_eq_false (by rw [c0]; exact Bool.false_ne_true)) ?_; wp_walk using AutoSeq1.wpAny_loadPart' hl)
      | (refine wpAny_ite_false (decide_eq_false (by rw [c1]; exact Bool.false_ne_true)) ?_; wp_walk using AutoSeq1.wpAny_loadPart' hl)
      | (refine wpAny_ite_true (decide_eq_true c2) ?_; wp_walk using AutoSeq1.wpAny_loadPart' hl))
    exact ⟨_, rfl, h⟩
def rRepS (K : Frag) : R2 := fun x y H Q => ∃ l k xs, x = .ref l ∧ y = .int k ∧ SqT K H l xs ∧ (-(2 ^ 62) ≤ k ∧ k ≤ 2 ^ 62) ∧ ((xs = [] ∨ k = 1) ∧ Q (.ref l) H ∨ (xs ≠ [] ∧ k ≤ 0) ∧ NewT H [] Q)
section
variable {X : Cx}
theorem op_repS : OpR X (binaryOp .Mult) (rRepS X.K) := by
  intro pins s σ H x y v u Q I rx ry h
  obtain ⟨l, k, xs, rfl, rfl, hT, ⟨h1, h2⟩, h⟩ := h
  cases rx
  obtain ⟨t, rfl⟩ := ry
  obtain ⟨its, r, ⟨⟨cls, dd, data, sl⟩, ho, hc, n, hd⟩, hs⟩ := I.tuple hT
  simp only at hc hd
  subst hc hd
  have hle : its.length = xs.length := r.length.symm
  have c0 : (decide (k < -(2 ^ 63)) || decide (k ≥ 2 ^ 63)) = false := by
    rw [decide_eq_false (by omega), decide_eq_false (by omega)] <;> rfl
  rcases h with ⟨hc, q⟩ | ⟨⟨hn, hk⟩, q⟩
  · have c1 : (its.toArray.isEmpty || k == 1) = true := by
      rcases hc with rfl | rfl
      · have : its = [] := List.eq_nil_of_length_eq_zero hle
        subst this
        rfl
      · simp
    exact wpAny_binaryOp_repeat_ref (T := "tuple") (U := "int") (by decide) ⟨_, ho, rfl⟩ (fun s' => typeIs_int s' k t) noFill_tuple_mul F.fills_int_mul F.slot_int_rmul repeat_tuple F.slot_int_index.lookup
      (call_meets F.slot_int_rmul (typeIs_int s k t) F.entry_int_rmul (F.args_int_rmul_2 _ _) (int_rmul_tuple k t l its.toArray n dd sl)
        ⟨ho, rfl, ⟨_, ho, rfl⟩, call_meets F.slot_tuple_mul ⟨_, ho, rfl⟩ F.entry_tuple_mul (F.args_tuple_mul_2 _ _) (tuple_mulS l its.toArray n dd sl k t c0 c1) ⟨ho, .ref l, H, I, rfl, q⟩⟩)
  · have hi : its.toArray.isEmpty = false := by
      cases its with
      | nil => exact absurd (List.eq_nil_of_length_eq_zero hle.symm) hn
      | cons a b => rfl
    have c1 : (its.toArray.isEmpty || k == 1) = false := by
      rw [hi, Bool.false_or]
      exact beq_eq_false_iff_ne.mpr (by omega)
    have c2 : (decide (k ≤ 0) || its.toArray.isEmpty) = true := by
      rw [decide_eq_true hk]; rfl
    refine wpAny_binaryOp_repeat_ref (T := "tuple") (U := "int") (by decide) ⟨_, ho, rfl⟩ (fun s' => typeIs_int s' k t) noFill_tuple_mul F.fills_int_mul F.slot_int_rmul repeat_tuple F.slot_int_index.lookup
      (call_meets F.slot_int_rmul (typeIs_int s k t) F.entry_int_rmul (F.args_int_rmul_2 _ _) (int_rmul_tuple k t l its.toArray n dd sl)
        ⟨ho, rfl, ⟨_, ho, rfl⟩, call_meets F.slot_tuple_mul ⟨_, ho, rfl⟩ F.entry_tuple_mul (F.args_tuple_mul_2 _ _) (tuple_mul0 l its.toArray n dd sl k t c0 c1 c2) ⟨ho, ?_⟩⟩)
    exact newT_fin I (.nil) (Nat.zero_le _) s.toks q
def rRepA (K : Frag) : R2 := fun x y H Q => rRepF K x y H Q ∨ rRepS K x y H Q
/-- a tuple, some times -/
def fMulT : D → D → (IV → Prop) → Prop
  | .tup ds, .int k, Q => (-(2 ^ 62) ≤ k ∧ k ≤ 1000 ∧ ds.length ≤ 1000) ∧ Q (.fz (.tup (List.replicate k.toNat ds).flatten))
  | _, _, _ => False
theorem Rzs.rep {K : Frag} {A : Av} {H : Hp} {ds : List D} {vs : List V} (h : Rzs K A H ds vs) : ∀ n : Nat, Rzs K A H (List.replicate n ds).flatten (List.replicate n vs).flatten
  | 0 => .nil
  | n + 1 => by
    rw [List.replicate_succ, List.replicate_succ, List.flatten_cons, List.flatten_cons]
    exact h.append (h.rep n)
theorem opD_mulT : OpD X (rRepA X.K) fMulT := by
  refine ⟨fun x y Q Q' h q => ?_, fun B Z T H0 ε σ H x y dx dy Q r rx ry q => ?_⟩
  · unfold fMulT at q ⊢
    split at q
    · exact ⟨q.1, h _ q.2⟩
    · exact q
  · unfold fMulT at q
    split at q
    · rename_i ds k
      obtain ⟨⟨h1, h2, h3⟩, q⟩ := q
      obtain ⟨a, vs, rfl, ht, hl, hz⟩ := rx.tup
      have hk := ry.int
      subst hk
      have hlen := hz.length
      by_cases e : vs = [] ∨ k = 1
      · refine .inr ⟨a, k, vs, rfl, rfl, ht.sq, ⟨h1, by omega⟩, .inl ⟨e, q _ H r.aftRefl (RV.mk ?_)⟩⟩
        have ed : (List.replicate k.toNat ds).flatten = ds := by
          rcases e with e | e
          · rw [e] at hlen
            have : ds = [] := List.eq_nil_of_length_eq_zero hlen.symm
            subst this
            simp
          · subst e
            simp
        rw [ed]
        exact rx.tupRz
      · have e1 : vs ≠ [] := fun z => e (.inl z)
        have e2 : k ≠ 1 := fun z => e (.inr z)
        by_cases k0 : k ≤ 0
        · refine .inr ⟨a, k, vs, rfl, rfl, ht.sq, ⟨h1, by omega⟩, .inr ⟨⟨e1, k0⟩, fun p o hp po => ?_⟩⟩
          have ek : k.toNat = 0 := by omega
          rw [ek] at q
          exact q _ _ (Aft.new r.z hp) (RV.mk (r.newTup hp po .nil (Nat.zero_le _)))
        · refine .inl ⟨a, k, vs, rfl, rfl, ht.sq, e1, ⟨by omega, h2⟩, by omega, fun p o hp po => q _ _ (Aft.new r.z hp) (RV.mk (r.newTup hp po (hz.rep _) ?_))⟩
          rw [PyProof.Rows.lm_len_rep_flat, sizeLine_eq]
          have a1 : k.toNat * ds.length ≤ 1000 * 1000 := Nat.mul_le_mul (by omega) h3
          omega
    · exact q.elim
theorem de_mulT {W : WX} {a b : Expr} {ma mb : MI} {pos : Pos} (ha : DI X W a ma cha) (hb : DI X W b mb chb) : DE X W (.BinOp a .Mult b pos) (mOp fMulT ma mb) (cha + chb) := de_op (OpR.or op_repF op_repS) opD_mulT ha hb
end
end G

namespace G
open PySem PySem.Spec PyProof.Rows L2
/-! ### a def whose reading is of the lower layer -/
theorem fn_hs {P : Program} {w : World} {K : Frag} {mg : Str → Option Value} {base : Heap} {x : Str} {params : Arguments} {body : List Stmt} {scope : Scope} {dvs : List V} {f : Addr} {fd : FuncData} {N ps : List Str} {k : Nat} {sp : SpD} {t : Cx → TS} {C : Nat}
    (F : FunD K x x params body scope dvs [] f fd) (gm : mg x = some (.ref f)) (S : FnScope N ps scope) (mono : SpMono sp) (len : ∀ is Q E, sp is Q E → is.length = ps.length) (b : Binds K fd ps [])
    (hb : ∀ (cdv : Value) (A : Around) (outer : List PySem.Env) (s : Shared) (H : Hp) (E : XK), Room k (A.deeper (envOfC x scope s.heap.objs.size f cdv)) → PSs (cxOf (L2.CX P w) P w K mg base N x scope f cdv A outer s H E) body (t (cxOf (L2.CX P w) P w K mg base N x scope f cdv A outer s H E)))
    (pure : ∀ X : Cx, X.K = K → X.mg = mg → ∀ vs H Q E, Lf K mg sp C vs H Q E → t X { nx := fun _ H' => Q .non H', rt := Q } (L2.start N vs) H) : FnD P w K mg base (k + 1) x ps [] sp C := by
  refine ⟨mono, f, fd, gm, F.kp, ?_, b, fun h => absurd rfl h⟩
  refine F.ok S (fun vs H Q E h => ?_) (fun cdv A outer s H vs Q E hr h => ⟨_, hb cdv A outer s H E hr, pure _ rfl rfl vs H Q E h⟩)
  obtain ⟨B, Z, T, is, _, h1, _, _, _, h2⟩ := h
  rw [h1.length]
  exact len _ _ _ h2
/-! ### what is never reached -/
section
variable {X : Cx} {W : WX}
def mDeadE : ME := fun _ _ _ => False
def mDeadT : MT := fun _ _ _ => False
def mDeadI : MI := fun _ _ _ => False
def mDeadS : MS := fun _ _ => False
theorem de_dead {e : Expr} : DE X W e mDeadE 0 := ⟨fun _ _ _ => False, ⟨fun _ _ _ _ _ _ h => h.elim⟩, fun _ _ _ _ _ _ _ h => h, fun _ _ _ _ _ _ _ _ _ _ _ _ h => h⟩
theorem di_dead {e : Expr} : DI X W e mDeadI 0 := ⟨fun _ _ _ => False, ⟨fun _ _ _ _ _ _ h => h.elim⟩, fun _ _ _ _ _ _ _ h => h, fun _ _ _ _ _ _ _ _ _ _ _ _ h => h⟩
theorem dt_dead {e : Expr} : DT X W e mDeadT 0 := ⟨fun _ _ _ => False, ⟨fun _ _ _ _ _ _ h => h.elim⟩, fun _ _ _ _ _ _ _ h => h, fun _ _ _ _ _ _ _ _ _ _ _ _ h => h⟩
theorem ds_dead {e : Stmt} : DS X W e mDeadS 0 := ⟨fun _ _ _ => False, ⟨fun _ _ _ _ _ _ h => h.elim⟩, fun _ _ _ _ h => h, fun _ _ _ _ _ _ _ _ _ _ _ _ h => h⟩
theorem dss_dead {e : List Stmt} : DSs X W e mDeadS 0 := ⟨fun _ _ _ => False, ⟨fun _ _ _ _ _ _ h => h.elim⟩, fun _ _ _ _ h => h, fun _ _ _ _ _ _ _ _ _ _ _ _ h => h⟩
/-! ### an argument: a datum, the state, or an own object lent -/
def mArg (i : Nat) : ME := fun ε Q _ => match ε[i]? with
  | some (.fz d) => Q (.fz d)
  | some .st => Q .st
  | some (.ow d) => Q (.bo d)
  | some (.bo d) => Q (.bo d)
  | _ => False
theorem lift_arg {i : Nat} : LiftE X W (tVar i) (mArg i) 0 := by
  refine ⟨fun ε Q Q' Ex Ex' hq hx q => ?_, fun B Z T H0 ε σ H Q Ex hL r hx q => ?_⟩
  · unfold mArg at q ⊢
    split at q <;> first | exact hq _ q | exact q
  · unfold mArg at q
    split at q
    · rename_i d e
      obtain ⟨v, h1, h2⟩ := r.slot i _ e
      exact ⟨v, h1, q v H r.aftRefl h2⟩
    · rename_i e
      obtain ⟨p, a, c, h1, h2⟩ := r.slot i _ e
      exact ⟨_, h2, q _ H r.aftRefl ⟨p, a, c, h1, rfl⟩⟩
    · rename_i d e
      obtain ⟨a, h1, h2, h3, h4, h5⟩ := r.slot i _ e
      exact ⟨_, h1, q _ H r.aftRefl ⟨a, rfl, .inr (.inr ⟨i, d, e, h1⟩), h3, h5⟩⟩
    · rename_i d e
      obtain ⟨a, h1, h2, h3, h5⟩ := r.slot i _ e
      exact ⟨_, h1, q _ H r.aftRefl ⟨a, rfl, .inl h2, h3, h5⟩⟩
    · exact q.elim
theorem de_arg (i : Nat) {x : Str} {pos : Pos} (hN : X.N[i]? = some x := by rfl) (hv : Vis X.env.scope x := by first | exact Or.inl rfl | exact Or.inr (Or.inl rfl) | exact Or.inr (Or.inr rfl)) (hd : (x == ("__debug__" : Str)) = false := by decide)
    (hcd : (x == ("__classdict__" : Str)) = false := by decide) : DE X W (.Name x pos) (mArg i) 0 := ⟨_, pe_var hN hv hd hcd, lift_arg⟩
/-! ### a new object is given away at once -/
theorem RV.give {B : Av} {Z : Zt} {T : Nat} {H0 H H1 H' : Hp} {ε : Env} {σ : St} (r : RE X.K B Z T H0 ε σ H) {v : V} {iv : IV} (h : RV X.K (AvE B Z ε σ) Z H H' v iv) : RV X.K (AvE B Z ε σ) Z H1 H' v iv.fz' := RV.fz' r h
def mFz (m : ME) : ME := fun ε Q Ex => m ε (fun iv => Q iv.fz') Ex
theorem lift_fz {t : TE} {m : ME} (l : LiftE X W t m cl) : LiftE X W t (mFz m) cl := by
  refine ⟨fun ε Q Q' Ex Ex' hq hx q => l.mono _ _ _ _ _ (fun iv q => hq _ q) hx q, fun B Z T H0 ε σ H Q Ex hL r hx q => ?_⟩
  exact l.run B Z H0 ε σ H Q Ex r hx (l.mono _ _ _ _ _ (fun iv q v H' a rv => q v H' a (RV.fz' r rv)) (fun _ x => x) q)
theorem de_fz {e : Expr} {m : ME} (h : DE X W e m ch) : DE X W e (mFz m) ch := let ⟨t, p, l⟩ := h; ⟨t, p, lift_fz l⟩
/-- x = [..], given away -/
theorem ds_setLcF {wk : Bool} (i : Nat) (own : List (Str × Nat)) {x : Str} {elt tg iter : Expr} {ifs : List Expr} {scope : Scope} {p pos spos : Pos} {mw : MW} {mg : MG} {mt : MT} {me : ME} {js : List Nat} {cw ct ce : Nat} (hc : X.calm = true) (hN : X.N.Nodup) (hi : DWk X W false wk tg iter mw cw)
    (hg : ∀ (s : Shared) (H : Hp) (C : Addr) (cl : List (Str × Addr)) (fp : List Addr), DG (X.blk s H scope (compEnvC scope cl C X.env) fp) wk js tg mg)
    (ht : ∀ (s : Shared) (H : Hp) (C : Addr) (cl : List (Str × Addr)) (fp : List Addr), DTs (X.blk s H scope (compEnvC scope cl C X.env) fp) W0 ifs mt ct)
    (he : ∀ (s : Shared) (H : Hp) (C : Addr) (cl : List (Str × Addr)) (fp : List Addr), DE (X.blk s H scope (compEnvC scope cl C X.env) fp) W0 elt me ce)
    (hy : X.N[i]? = some x := by rfl) (hyl : X.env.scope.names.lookup x = some .local := by rfl)
    (hsw : swapsWith (.ListComp elt [⟨tg, iter, ifs, 0⟩] scope pos) (some (.Name x p)) spos.line X.env = pure true := by exact sw_true rfl rfl rfl (by decide +kernel))
    (ok : blkC X.N X.env.scope scope own = true := by decide +kernel) (hjs : ∀ j ∈ js, j ∈ own.map (·.2) := by decide) (hs : ∀ x, foldedSetIterable iter X.env x = pure x := by intro _; rfl) :
    DS X W (.Assign [.Name x p] (.ListComp elt [⟨tg, iter, ifs, 0⟩] scope pos) spos) (mSet i (mFz (mLC (own.map (·.2)) mw mg mt me))) (cw + sizeLine * (ct + ce)) := by
  obtain ⟨wi, pi, lw⟩ := hi
  refine ⟨_, ps_setLc (g := tOfG wk X.K js mg) (tt := tOfT X.K X.mg W0 mt ct) (te := tOfE X.K X.mg W0 me ce) hc hN hy hyl hsw pi (blkOk_by ok) (fun s H C cl fp => (hg s H C cl fp).can) (fun s H C cl fp => (ht s H C cl fp).can) (fun s H C cl fp => (he s H C cl fp).can) hs, ?_⟩
  exact lift_set (lift_fz (lift_lc lw hjs (hg X.s_0 (fun _ => none) 0 [] []).mono (ht X.s_0 (fun _ => none) 0 [] []).mono (he X.s_0 (fun _ => none) 0 [] []).mono))
end
/-! ### promises -/
/-- for the arguments ps x, where pre x: a result of res x, or a refusal of exc x -/
def SpOf {α : Type} (ps : α → List IV) (pre : α → Prop) (res : α → IV → Prop) (exc : α → XC → Prop := fun _ _ => False) : SpD := fun is Q E => ∃ x, is = ps x ∧ pre x ∧ (∀ r, res x r → Q r) ∧ ∀ c, exc x c → E c
theorem SpOf.mono {α : Type} {ps : α → List IV} {pre : α → Prop} {res : α → IV → Prop} {exc : α → XC → Prop} : SpMono (SpOf ps pre res exc) := fun _ _ _ _ _ hq hx ⟨x, e, p, q, k⟩ => ⟨x, e, p, fun r h => hq _ (q r h), fun c h => hx _ (k c h)⟩
theorem SpOf.len {α : Type} {ps : α → List IV} {pre : α → Prop} {res : α → IV → Prop} {exc : α → XC → Prop} {n : Nat} (h : ∀ x, (ps x).length = n) : ∀ is Q E, SpOf ps pre res exc is Q E → is.length = n := fun is Q E ⟨x, e, _⟩ => by rw [e]; exact h x
/-- a plain value -/
abbrev val {α : Type} (f : α → D) : α → IV → Prop := fun x r => r = .fz (f x)
end G

namespace G
open PySem PySem.Spec PyProof.Rows L2
/-! ### plain data: what == and a law's own sameness serve -/
def D.pl : Nat → D → Prop
  | _, .non => True
  | _, .bl _ => True
  | _, .int _ => True
  | _, .str x => PyData.canLay0 (.str x) = true
  | n + 1, .tup ds => ∀ d ∈ ds, D.pl n d
  | n + 1, .lst ds => ∀ d ∈ ds, D.pl n d
  | 0, .tup _ => False
  | 0, .lst _ => False
  | _, .dic _ _ => False
  | _, .exc _ => False
theorem toPs_map : ∀ ds : List D, D.toPs ds = ds.map D.toP
  | [] => rfl
  | d :: ds => by simp only [D.toPs, List.map_cons, toPs_map ds]
theorem noDics_all : ∀ {ds : List D}, (∀ d ∈ ds, d.noDic = true) → D.noDics ds = true
  | [], _ => rfl
  | d :: ds, h => by
    unfold D.noDics
    rw [h d (List.mem_cons_self ..), noDics_all fun x hx => h x (List.mem_cons_of_mem _ hx)]
    rfl
theorem canLayAll0_all : ∀ {ds : List D}, (∀ d ∈ ds, d.toP.canLay0 = true) → PyData.canLayAll0 (D.toPs ds) = true
  | [], _ => rfl
  | d :: ds, h => by
    unfold D.toPs PyData.canLayAll0
    rw [h d (List.mem_cons_self ..), canLayAll0_all fun x hx => h x (List.mem_cons_of_mem _ hx)]
    rfl
theorem depthAll_le {n : Nat} : ∀ {ds : List D}, (∀ d ∈ ds, d.toP.depth ≤ n) → PyData.depthAll (D.toPs ds) ≤ n
  | [], _ => by unfold D.toPs PyData.depthAll; omega
  | d :: ds, h => by
    unfold D.toPs PyData.depthAll
    have h1 := h d (List.mem_cons_self ..)
    have h2 := depthAll_le fun x hx => h x (List.mem_cons_of_mem _ hx)
    omega
theorem pl_facts : ∀ (n : Nat) (d : D), D.pl n d → d.noDic = true ∧ d.toP.canLay0 = true ∧ d.toP.depth ≤ n
  | _, .non, _ => by simp [D.noDic, D.toP, PyData.canLay0, PyData.depth]
  | _, .bl _, _ => by simp [D.noDic, D.toP, PyData.canLay0, PyData.depth]
  | _, .int _, _ => by simp [D.noDic, D.toP, PyData.canLay0, PyData.depth]
  | _, .str x, h => by
    unfold D.pl at h
    refine ⟨by simp [D.noDic], by simpa [D.toP] using h, by simp [D.toP, PyData.depth]⟩
  | n + 1, .tup ds, h => by
    unfold D.pl at h
    refine ⟨by unfold D.noDic; exact noDics_all fun d hd => (pl_facts n d (h d hd)).1, by unfold D.toP PyData.canLay0; exact canLayAll0_all fun d hd => (pl_facts n d (h d hd)).2.1, ?_⟩
    unfold D.toP PyData.depth
    have := depthAll_le (ds := ds) fun d hd => (pl_facts n d (h d hd)).2.2
    omega
  | n + 1, .lst ds, h => by
    unfold D.pl at h
    refine ⟨by unfold D.noDic; exact noDics_all fun d hd => (pl_facts n d (h d hd)).1, by unfold D.toP PyData.canLay0; exact canLayAll0_all fun d hd => (pl_facts n d (h d hd)).2.1, ?_⟩
    unfold D.toP PyData.depth
    have := depthAll_le (ds := ds) fun d hd => (pl_facts n d (h d hd)).2.2
    omega
  | 0, .tup _, h => by unfold D.pl at h; exact h.elim
  | 0, .lst _, h => by unfold D.pl at h; exact h.elim
  | 0, .dic _ _, h => by unfold D.pl at h; exact h.elim
  | n + 1, .dic _ _, h => by unfold D.pl at h; exact h.elim
  | 0, .exc _, h => by unfold D.pl at h; exact h.elim
  | n + 1, .exc _, h => by unfold D.pl at h; exact h.elim
theorem D.pl.ok {n : Nat} {d : D} (h : D.pl n d) (hn : n ≤ 64) : d.eqOk := by
  obtain ⟨h1, h2, h3⟩ := pl_facts n d h
  refine ⟨h1, ?_⟩
  unfold SeqAt.shaped
  rw [h2, decide_eq_true (Nat.le_trans h3 hn)]
  rfl
theorem D.pl.mono : ∀ {n m : Nat} {d : D}, D.pl n d → n ≤ m → D.pl m d
  | _, _, .non, _, _ => by unfold D.pl; trivial
  | _, _, .bl _, _, _ => by unfold D.pl; trivial
  | _, _, .int _, _, _ => by unfold D.pl; trivial
  | _, _, .str _, h, _ => by unfold D.pl at h ⊢; exact h
  | n + 1, m + 1, .tup ds, h, hm => by unfold D.pl at h ⊢; exact fun d hd => (h d hd).mono (by omega)
  | n + 1, m + 1, .lst ds, h, hm => by unfold D.pl at h ⊢; exact fun d hd => (h d hd).mono (by omega)
  | 0, _, .tup _, h, _ => by unfold D.pl at h; exact h.elim
  | 0, _, .lst _, h, _ => by unfold D.pl at h; exact h.elim
  | 0, _, .dic _ _, h, _ => by unfold D.pl at h; exact h.elim
  | n + 1, _, .dic _ _, h, _ => by unfold D.pl at h; exact h.elim
  | 0, _, .exc _, h, _ => by unfold D.pl at h; exact h.elim
  | n + 1, _, .exc _, h, _ => by unfold D.pl at h; exact h.elim
  | n + 1, 0, .tup _, h, hm => by omega
  | n + 1, 0, .lst _, h, hm => by omega
@[simp] theorem pl_int {n : Nat} {i : Int} : D.pl n (.int i) := by unfold D.pl; trivial
@[simp] theorem pl_bl {n : Nat} {i : Bool} : D.pl n (.bl i) := by unfold D.pl; trivial
@[simp] theorem pl_non {n : Nat} : D.pl n .non := by unfold D.pl; trivial
theorem pl_tup {n : Nat} {ds : List D} (h : ∀ d ∈ ds, D.pl n d) : D.pl (n + 1) (.tup ds) := by unfold D.pl; exact h
theorem pl_lst {n : Nat} {ds : List D} (h : ∀ d ∈ ds, D.pl n d) : D.pl (n + 1) (.lst ds) := by unfold D.pl; exact h
mutual
theorem pyEq_refl : ∀ d : D, d.noDic = true → pyEq d d = true
  | .non, _ => by simp [pyEq]
  | .bl _, _ => by simp [pyEq]
  | .int _, _ => by simp [pyEq]
  | .str _, _ => by simp [pyEq]
  | .tup ds, h => by unfold pyEq; exact pyEqs_refl ds (by simpa [D.noDic] using h)
  | .lst ds, h => by unfold pyEq; exact pyEqs_refl ds (by simpa [D.noDic] using h)
  | .dic _ _, h => by simp [D.noDic] at h
  | .exc _, h => by simp [D.noDic] at h
theorem pyEqs_refl : ∀ ds : List D, D.noDics ds = true → pyEqs ds ds = true
  | [], _ => by simp [pyEqs]
  | d :: ds, h => by
    simp only [D.noDics, Bool.and_eq_true] at h
    simp only [pyEqs, pyEq_refl d h.1, pyEqs_refl ds h.2, Bool.and_self]
end
/-! ### whole numbers -/
theorem gcd_fmod {x y : Int} : Int.gcd y (x.fmod y) = Int.gcd x y := by
  have e : x.fmod y = x + y * (-(x.fdiv y)) := by
    rw [Int.fmod_def, Int.mul_neg]; omega
  rw [e, Int.gcd_add_mul_left_right, Int.gcd_comm]
/-- of less than n bits -/
def Bd (n : Nat) (i : Int) : Prop := i.natAbs < 2 ^ n
theorem Bd.mono {n m : Nat} {i : Int} (h : Bd n i) (hm : n ≤ m) : Bd m i := Nat.lt_of_lt_of_le h (Nat.pow_le_pow_right (by decide) hm)
theorem Bd.mul {a b : Nat} {i j : Int} (h : Bd a i) (g : Bd b j) : Bd (a + b) (i * j) := wide_lt h g
theorem Bd.add {n : Nat} {i j : Int} (h : Bd n i) (g : Bd n j) : Bd (n + 1) (i + j) := by
  unfold Bd at *
  rw [Nat.pow_succ]
  generalize 2 ^ n = M at *
  omega
theorem Bd.neg {n : Nat} {i : Int} (h : Bd n i) : Bd n (-i) := by unfold Bd at *; rw [Int.natAbs_neg]; exact h
theorem Bd.sub {n : Nat} {i j : Int} (h : Bd n i) (g : Bd n j) : Bd (n + 1) (i - j) := by rw [Int.sub_eq_add_neg]; exact h.add g.neg
theorem Bd.le {n : Nat} {i j : Int} (h : Bd n i) (g : j.natAbs ≤ i.natAbs) : Bd n j := Nat.lt_of_le_of_lt g h
theorem Bd.log {n : Nat} {i : Int} (h : Bd n i) : i.natAbs.log2 ≤ n := by
  by_cases h0 : i.natAbs = 0
  · rw [h0]; simp
  · exact Nat.le_of_lt ((Nat.log2_lt h0).mpr h)
theorem Bd.cmul {a b : Nat} {i j : Int} (h : Bd a i) (g : Bd b j) (hab : a + b < 1000000 := by decide) : CMulD i j := by
  have h1 := h.log
  have h2 := g.log
  exact .inr (by unfold CMulW; omega)
theorem Bd.cdiv {n : Nat} {i j : Int} (h : Bd n j) (h0 : j ≠ 0) (hn : n < 9000 := by decide) : CDivD i j := ⟨h0, by have := h.log; omega⟩
/-- a fraction made least -/
def sg (b : Int) : Int := if b < 0 then -1 else 1
def rn (a b : Int) : Int := sg b * (a / (Int.gcd a b : Nat))
def rd (a b : Int) : Int := sg b * (b / (Int.gcd a b : Nat))
def qD (p : Int × Int) : D := .tup [.int p.1, .int p.2]
def red (a b : Int) : Int × Int := (rn a b, rd a b)
theorem gcd_pos {a b : Int} (h : b ≠ 0) : 0 < Int.gcd a b := by
  rcases Nat.eq_zero_or_pos (Int.gcd a b) with e | e
  · exact absurd (Int.gcd_eq_zero_iff.mp e).2 h
  · exact e
theorem dvd_ex {a b : Int} : ∃ k, a = (Int.gcd a b : Nat) * k := Int.gcd_dvd_left ..
theorem dvd_ex2 {a b : Int} : ∃ k, b = (Int.gcd a b : Nat) * k := Int.gcd_dvd_right ..
/-- a fraction that is least, under above 0 -/
structure Rat' (n : Nat) (p : Int × Int) : Prop where
  pos : 0 < p.2
  co : Int.gcd p.1 p.2 = 1
  b1 : Bd n p.1
  b2 : Bd n p.2
theorem Rat'.mono {n m : Nat} {p : Int × Int} (h : Rat' n p) (hm : n ≤ m) : Rat' m p := ⟨h.pos, h.co, h.b1.mono hm, h.b2.mono hm⟩
theorem red_rat {n : Nat} {a b : Int} (h : b ≠ 0) (ha : Bd n a) (hb : Bd n b) : Rat' n (red a b) := by
  have g := gcd_pos (a := a) h
  obtain ⟨x, hx⟩ := dvd_ex (a := a) (b := b)
  obtain ⟨y, hy⟩ := dvd_ex2 (a := a) (b := b)
  have gz : ((Int.gcd a b : Nat) : Int) ≠ 0 := by omega
  have ex : a / (Int.gcd a b : Nat) = x := Int.ediv_eq_of_eq_mul_right gz hx
  have ey : b / (Int.gcd a b : Nat) = y := Int.ediv_eq_of_eq_mul_right gz hy
  have co : Int.gcd x y = 1 := by
    have := Int.gcd_ediv_gcd_ediv_gcd (i := a) (j := b) g
    rw [ex, ey] at this
    exact this
  have lx : x.natAbs ≤ a.natAbs := by
    rw [hx, Int.natAbs_mul]
    exact Nat.le_mul_of_pos_left _ (by simpa using g)
  have ly : y.natAbs ≤ b.natAbs := by
    rw [hy, Int.natAbs_mul]
    exact Nat.le_mul_of_pos_left _ (by simpa using g)
  have yz : y ≠ 0 := fun e => h (by rw [hy, e, Int.mul_zero])
  have ys : 0 < y ↔ 0 < b := by
    conv => rhs; rw [hy]
    constructor
    · intro q; exact Int.mul_pos (by omega) q
    · intro q
      rcases Int.lt_or_le 0 y with z | z
      · exact z
      · have := Int.mul_nonpos_of_nonneg_of_nonpos (a := ((Int.gcd a b : Nat) : Int)) (by omega) z
        rw [← hy] at q this
        omega
  unfold red rn rd sg
  rw [ex, ey]
  split
  · rename_i hb0
    refine ⟨?_, ?_, ?_, ?_⟩
    · show 0 < -1 * y
      have : ¬ 0 < y := fun z => by have := ys.mp z; omega
      omega
    · show Int.gcd (-1 * x) (-1 * y) = 1
      rw [show (-1 : Int) * x = -x by omega, show (-1 : Int) * y = -y by omega, Int.neg_gcd, Int.gcd_neg]; exact co
    · show Bd n (-1 * x)
      rw [show (-1 : Int) * x = -x by omega]; exact (ha.le lx).neg
    · show Bd n (-1 * y)
      rw [show (-1 : Int) * y = -y by omega]; exact (hb.le ly).neg
  · rename_i hb0
    refine ⟨?_, ?_, ?_, ?_⟩
    · show 0 < 1 * y
      have := ys.mpr (by omega)
      omega
    · show Int.gcd (1 * x) (1 * y) = 1
      rw [Int.one_mul, Int.one_mul]; exact co
    · show Bd n (1 * x)
      rw [Int.one_mul]; exact ha.le lx
    · show Bd n (1 * y)
      rw [Int.one_mul]; exact hb.le ly
theorem pl_qD {p : Int × Int} {n : Nat} : D.pl (n + 1) (qD p) := pl_tup fun d hd => by
  simp only [List.mem_cons, List.not_mem_nil, or_false] at hd
  rcases hd with rfl | rfl <;> exact pl_int
theorem qD_inj {p q : Int × Int} (h : qD p = qD q) : p = q := by
  unfold qD at h
  injection h with h
  injection h with h1 h2
  injection h2 with h2 _
  injection h1 with h1
  injection h2 with h2
  exact Prod.ext h1 h2
theorem rvs_int {K : Frag} {A : Av} {Z : Zt} {H : Hp} {i : Int} : RVs K A Z H [.fz (.int i)] [.int i] := ⟨.int i, [], rfl, (rz_int : Rz K A H (.int i) (.int i)), (fun _ e => nomatch e), rfl⟩
theorem rvs_non {K : Frag} {A : Av} {Z : Zt} {H : Hp} : RVs K A Z H [.fz .non] [.non] := ⟨.non, [], rfl, (rz_non : Rz K A H .non .non), (fun _ e => nomatch e), rfl⟩
/-! a def that is never called -/
theorem fn_void {P : Program} {w : World} {K : Frag} {mg : Str → Option Value} {base : Heap} {x : Str} {params : Arguments} {body : List Stmt} {scope : Scope} {dvs : List V} {f : Addr} {fd : FuncData} {N ps : List Str} {k : Nat} {sp : SpD} {C : Nat}
    (F : FunD K x x params body scope dvs [] f fd) (gm : mg x = some (.ref f)) (S : FnScope N ps scope) (b : Binds K fd ps []) (h : ∀ is Q E, ¬ sp is Q E) : FnD P w K mg base (k + 1) x ps [] sp C := by
  refine ⟨fun is Q Q' E E' _ _ q => (h _ _ _ q).elim, f, fd, gm, F.kp, ?_, b, fun z => absurd rfl z⟩
  refine F.ok S (fun vs H Q E q => ?_) (fun cdv A outer s H vs Q E hr q => ?_)
  · obtain ⟨_, _, _, _, _, _, _, _, _, q⟩ := q
    exact (h _ _ _ q).elim
  · obtain ⟨_, _, _, _, _, _, _, _, _, q⟩ := q
    exact (h _ _ _ q).elim
end G

namespace G
open PySem PySem.Spec PyProof.Rows L2
theorem room65 {A : Around} {k : Nat} (hr : Room k A) : A.units + 65 < cLine := by
  have := hr.un
  omega
theorem cT {c : Bool} {a b : Prop} (h : c = true) (x : a) : if c = true then a else b := by rw [if_pos h]; exact x
theorem cF {c : Bool} {a b : Prop} (h : c = false) (x : b) : if c = true then a else b := by rw [if_neg (by simp [h])]; exact x
/-! ### comprehensions and loops, seen plainly -/
section
variable {mg : MG} {mt : MT} {me : ME} {ε : Env} {Q : List D → Prop}
theorem compD_yes (f : D → D) : ∀ (ds acc : List D), (∀ d ∈ ds, ∀ K : D → Prop, K (f d) → mg d ε fun ε1 => me ε1 (onD K) fun _ => False) → Q (acc ++ ds.map f) → compD mg mYes me ε Q ds acc
  | [], acc, _, q => by simpa [compD] using q
  | d :: r, acc, h, q => by
    unfold compD
    exact h d (List.mem_cons_self ..) _ (compD_yes f r _ (fun x hx => h x (List.mem_cons_of_mem _ hx)) (by simpa using q))
/-- where it is not told which result comes -/
theorem compD_rel (R : D → D → Prop) : ∀ (ds acc : List D), (∀ d ∈ ds, ∀ K : D → Prop, (∀ y, R d y → K y) → mg d ε fun ε1 => me ε1 (onD K) fun _ => False) → (∀ ys : List D, ys.length = ds.length → (∀ y ∈ ys, ∃ d ∈ ds, R d y) → Q (acc ++ ys)) → compD mg mYes me ε Q ds acc
  | [], acc, _, q => by
    have := q [] rfl (by simp)
    simpa [compD] using this
  | d :: r, acc, h, q => by
    unfold compD
    refine h d (List.mem_cons_self ..) _ fun y hy => compD_rel R r _ (fun x hx => h x (List.mem_cons_of_mem _ hx)) fun ys hl hys => ?_
    have := q (y :: ys) (by simp [hl]) (fun z hz => by
      rcases List.mem_cons.mp hz with rfl | hz
      · exact ⟨d, List.mem_cons_self .., hy⟩
      · obtain ⟨d', hd', k⟩ := hys z hz
        exact ⟨d', List.mem_cons_of_mem _ hd', k⟩)
    simpa using this
/-- with a test -/
theorem compD_sel (p : D → Bool) (f : D → D) : ∀ (ds acc : List D), (∀ d ∈ ds, ∀ (K : D → Prop) (L : Prop), (p d = true → K (f d)) → (p d = false → L) → mg d ε fun ε1 => mt ε1 (fun b => if b = true then me ε1 (onD K) (fun _ => False) else L) fun _ => False) →
    Q (acc ++ (ds.filter p).map f) → compD mg mt me ε Q ds acc
  | [], acc, _, q => by simpa [compD] using q
  | d :: r, acc, h, q => by
    unfold compD
    refine h d (List.mem_cons_self ..) _ _ (fun e => compD_sel p f r _ (fun x hx => h x (List.mem_cons_of_mem _ hx)) ?_) fun e => compD_sel p f r _ (fun x hx => h x (List.mem_cons_of_mem _ hx)) ?_
    · rw [List.filter_cons_of_pos (by exact e), List.map_cons] at q
      simpa using q
    · rw [List.filter_cons_of_neg (by simp [e])] at q
      exact q
end
/-- a for: I by the turn -/
theorem forD_inv {mg : MG} {mb : MS} {De : EndsD} (I : Nat → Env → Prop) : ∀ (ds : List D) (k : Nat) (ε : Env), I k ε →
    (∀ i d ε (F : Env → Prop), ds[i]? = some d → I (k + i) ε → (∀ ε', I (k + i + 1) ε' → F ε') → mg d ε fun ε1 => mb { De with nx := F, ct := F, bk := De.nx } ε1) → (∀ ε, I (k + ds.length) ε → De.nx ε) → forD mg mb De ds ε
  | [], k, ε, h0, _, hd => hd ε h0
  | d :: r, k, ε, h0, hs, hd => by
    unfold forD
    refine hs 0 d ε _ rfl h0 fun ε' h => forD_inv I r (k + 1) ε' h (fun i d ε F e hi hF => ?_) fun ε h => hd ε ?_
    · exact hs (i + 1) d ε F (by simpa using e) (by rw [show k + (i + 1) = k + 1 + i by omega]; exact hi) (by rw [show k + (i + 1) + 1 = k + 1 + i + 1 by omega]; exact hF)
    · rw [List.length_cons, show k + (r.length + 1) = k + 1 + r.length by omega]; exact h
/-! ### rows of numbers -/
abbrev Q2 := Int × Int
def rowD (ps : List Q2) : D := .tup (ps.map qD)
theorem zip_map {α β : Type} (f : α → D) (g : β → D) : ∀ (xs : List α) (ys : List β), zipD (xs.map f) (ys.map g) = (xs.zip ys).map fun p => .tup [f p.1, g p.2]
  | [], _ => by simp [zipD]
  | _ :: _, [] => by simp [zipD]
  | x :: xs, y :: ys => by
    have := zip_map f g xs ys
    unfold zipD at this ⊢
    simp only [List.map_cons, List.zip_cons_cons, this]
def plusQ (p q : Q2) : Q2 := red (p.1 * q.2 + q.1 * p.2) (p.2 * q.2)
def timesQ (p q : Q2) : Q2 := red (p.1 * q.1) (p.2 * q.2)
def sgnI (g : Int) : Int := if 0 < g then 1 else if g < 0 then -1 else 0
def gapQ (p q : Q2) : Int := p.1 * q.2 - q.1 * p.2
def cmpQ (p q : Q2) : Int := sgnI (gapQ p q)
/-- a fraction, under not 0, of less than n bits -/
def Fr (n : Nat) (p : Q2) : Prop := p.2 ≠ 0 ∧ Bd n p.1 ∧ Bd n p.2
theorem Fr.mono {n m : Nat} {p : Q2} (h : Fr n p) (hm : n ≤ m) : Fr m p := ⟨h.1, h.2.1.mono hm, h.2.2.mono hm⟩
theorem Rat'.fr {n : Nat} {p : Q2} (h : Rat' n p) : Fr n p := ⟨by have := h.pos; omega, h.b1, h.b2⟩
theorem Fr.mul0 {n m : Nat} {p q : Q2} (h : Fr n p) (g : Fr m q) : p.2 * q.2 ≠ 0 := Int.mul_ne_zero h.1 g.1
theorem plusQ_rat {n : Nat} {p q : Q2} (h : Fr n p) (g : Fr n q) : Rat' (n + n + 1) (plusQ p q) :=
  red_rat (h.mul0 g) ((h.2.1.mul g.2.2).add (g.2.1.mul h.2.2)) ((h.2.2.mul g.2.2).mono (by omega))
theorem timesQ_rat {n : Nat} {p q : Q2} (h : Fr n p) (g : Fr n q) : Rat' (n + n) (timesQ p q) := red_rat (h.mul0 g) (h.2.1.mul g.2.1) (h.2.2.mul g.2.2)
def cmpRow : List Q2 → List Q2 → Int
  | p :: ps, q :: qs => if cmpQ p q ≠ 0 then cmpQ p q else cmpRow ps qs
  | _, _ => 0
end G

namespace G
open PySem PySem.Spec PyProof.Rows L2
theorem compD_on {α : Type} {mg : MG} {me : ME} {ε : Env} {Q : List D → Prop} (g f : α → D) (xs : List α) (h : ∀ x ∈ xs, ∀ K : D → Prop, K (f x) → mg (g x) ε fun ε1 => me ε1 (onD K) fun _ => False) (q : Q (xs.map f)) : compD mg mYes me ε Q (xs.map g) [] := by
  have aux : ∀ (xs : List α) (acc : List D), (∀ x ∈ xs, ∀ K : D → Prop, K (f x) → mg (g x) ε fun ε1 => me ε1 (onD K) fun _ => False) → Q (acc ++ xs.map f) → compD mg mYes me ε Q (xs.map g) acc := by
    intro xs
    induction xs with
    | nil => intro acc _ q; simpa [compD] using q
    | cons x xs ih =>
      intro acc h q
      rw [List.map_cons]
      unfold compD
      exact h x (List.mem_cons_self ..) _ (ih _ (fun y hy => h y (List.mem_cons_of_mem _ hy)) (by simpa using q))
  exact aux xs [] h (by simpa using q)
theorem rowD_map {α : Type} (f : α → Q2) (xs : List α) : rowD (xs.map f) = .tup (xs.map fun x => qD (f x)) := by
  unfold rowD
  rw [List.map_map]
  rfl
theorem cutL_map {α β : Type} (f : α → β) (xs : List α) (lo hi : Option Int) : cutL (xs.map f) lo hi = (cutL xs lo hi).map f := by
  unfold cutL
  rw [List.length_map, List.map_take, List.map_drop]
theorem cutL_mem {α : Type} {xs : List α} {lo hi : Option Int} {x : α} (h : x ∈ cutL xs lo hi) : x ∈ xs := by
  unfold cutL at h
  exact List.mem_of_mem_drop (List.mem_of_mem_take h)
theorem rats_of {n : Nat} : ∀ {ys : List D}, (∀ y ∈ ys, ∃ p, Rat' n p ∧ y = qD p) → ∃ ps : List Q2, ys = ps.map qD ∧ ∀ p ∈ ps, Rat' n p
  | [], _ => ⟨[], rfl, by simp⟩
  | y :: ys, h => by
    obtain ⟨p, hp, rfl⟩ := h y (List.mem_cons_self ..)
    obtain ⟨ps, rfl, hps⟩ := rats_of fun z hz => h z (List.mem_cons_of_mem _ hz)
    refine ⟨p :: ps, rfl, fun q hq => ?_⟩
    rcases List.mem_cons.mp hq with rfl | hq
    · exact hp
    · exact hps q hq
theorem pyEq_qD (p q : Q2) : pyEq (qD p) (qD q) = decide (p = q) := by
  obtain ⟨a, b⟩ := p
  obtain ⟨c, d⟩ := q
  unfold qD
  simp only [pyEq, pyEqs, Bool.and_true, Prod.mk.injEq]
  by_cases h1 : a = c <;> by_cases h2 : b = d <;> simp [h1, h2]
theorem gap_zero {n m : Nat} {p q : Q2} (h : Rat' n p) (g : Rat' m q) (e : gapQ p q = 0) : p = q := by
  obtain ⟨a, b⟩ := p
  obtain ⟨c, d⟩ := q
  have hb : 0 < b := h.pos
  have hd : 0 < d := g.pos
  have e : a * d = c * b := by
    have : a * d - c * b = 0 := e
    omega
  have e2 : a.natAbs * d.natAbs = c.natAbs * b.natAbs := by rw [← Int.natAbs_mul, ← Int.natAbs_mul, e]
  have c1 : Nat.Coprime a.natAbs b.natAbs := h.co
  have c2 : Nat.Coprime c.natAbs d.natAbs := g.co
  have d1 : b.natAbs ∣ d.natAbs := c1.symm.dvd_of_dvd_mul_left ⟨c.natAbs, by rw [e2, Nat.mul_comm]⟩
  have d2 : d.natAbs ∣ b.natAbs := c2.symm.dvd_of_dvd_mul_left ⟨a.natAbs, by rw [← e2, Nat.mul_comm]⟩
  have e3 : b.natAbs = d.natAbs := Nat.dvd_antisymm d1 d2
  have e4 : b = d := by omega
  subst e4
  have e5 : a = c := Int.eq_of_mul_eq_mul_right (by omega) e
  rw [e5]
theorem cmpQ_self (p : Q2) : cmpQ p p = 0 := by
  unfold cmpQ gapQ sgnI
  rw [Int.sub_self]
  rfl
theorem sgnI_zero {g : Int} (h : sgnI g = 0) : g = 0 := by
  unfold sgnI at h
  split at h
  · cases h
  · split at h
    · cases h
    · omega
theorem sgnI_neg (g : Int) : sgnI (-g) = - sgnI g := by
  unfold sgnI
  by_cases h1 : 0 < g
  · rw [if_neg (by omega), if_pos (by omega), if_pos h1]
  · by_cases h2 : g < 0
    · rw [if_pos (by omega), if_neg h1, if_pos h2]; rfl
    · rw [if_neg (by omega), if_neg (by omega), if_neg h1, if_neg h2]; rfl
theorem cmpQ_zero {n m : Nat} {p q : Q2} (h : Rat' n p) (g : Rat' m q) : cmpQ p q = 0 ↔ p = q :=
  ⟨fun e => gap_zero h g (sgnI_zero e), fun e => by rw [e]; exact cmpQ_self q⟩
theorem cmpQ_neg (p q : Q2) : cmpQ q p = - cmpQ p q := by
  unfold cmpQ
  rw [← sgnI_neg]
  unfold gapQ
  congr 1
  omega
theorem cmpRow_self : ∀ ps : List Q2, cmpRow ps ps = 0
  | [] => rfl
  | p :: ps => by
    unfold cmpRow
    rw [if_neg (by simp [cmpQ_self]), cmpRow_self ps]
theorem cmpRow_neg : ∀ ps qs : List Q2, cmpRow qs ps = - cmpRow ps qs
  | [], [] => rfl
  | [], _ :: _ => rfl
  | _ :: _, [] => rfl
  | p :: ps, q :: qs => by
    unfold cmpRow
    rw [cmpQ_neg p q]
    by_cases h : cmpQ p q = 0
    · rw [if_neg (by simp [h]), if_neg (by simp [h]), cmpRow_neg ps qs]
    · rw [if_pos (by omega), if_pos h]
theorem red_rat_id {n : Nat} {p : Q2} (h : Rat' n p) : red p.1 p.2 = p := by
  obtain ⟨a, b⟩ := p
  have hb : 0 < b := h.pos
  have hc : Int.gcd a b = 1 := h.co
  unfold red rn rd sg
  rw [hc, if_neg (by omega)]
  simp
theorem red_zero {b : Int} (h : b ≠ 0) : red 0 b = (0, 1) := by
  unfold red rn rd
  rw [Int.gcd_zero_left]
  have hs : sg b * (b / (b.natAbs : Int)) = 1 := by
    unfold sg
    split
    · have e : (b.natAbs : Int) = -b := by omega
      rw [e]
      have : b / -b = -1 := by rw [Int.ediv_neg, Int.ediv_self h]
      rw [this]; rfl
    · have e : (b.natAbs : Int) = b := by omega
      rw [e, Int.ediv_self h]; rfl
  rw [hs]
  simp
theorem timesQ_neg {n : Nat} {p : Q2} (h : Rat' n p) : timesQ (-1, 1) p = (-p.1, p.2) := by
  unfold timesQ
  have := red_rat_id (p := (-p.1, p.2)) (n := n) ⟨h.pos, by show Int.gcd (-p.1) p.2 = 1; rw [Int.neg_gcd]; exact h.co, h.b1.neg, h.b2⟩
  simp only at this ⊢
  rw [show (-1 : Int) * p.1 = -p.1 by omega, Int.one_mul]
  exact this
theorem plusQ_neg {n : Nat} {p : Q2} (h : Rat' n p) : plusQ p (timesQ (-1, 1) p) = (0, 1) := by
  rw [timesQ_neg h]
  unfold plusQ
  simp only
  rw [Int.neg_mul, ← Int.sub_eq_add_neg, Int.sub_self]
  have := h.pos
  exact red_zero (Int.mul_ne_zero (by omega) (by omega))
theorem zip_self_map {α β : Type} (f : α → α) (g : α → α → β) : ∀ ps : List α, (ps.zip (ps.map f)).map (fun p => g p.1 p.2) = ps.map fun p => g p (f p)
  | [] => rfl
  | p :: ps => by simp only [List.map_cons, List.zip_cons_cons, zip_self_map f g ps]
theorem map_const_rep {α β : Type} {f : α → β} {c : β} : ∀ {ps : List α}, (∀ p ∈ ps, f p = c) → ps.map f = List.replicate ps.length c
  | [], _ => rfl
  | p :: ps, h => by
    rw [List.map_cons, h p (List.mem_cons_self ..), map_const_rep fun q hq => h q (List.mem_cons_of_mem _ hq)]
    rfl
theorem flat_rep {α : Type} (x : α) : ∀ n : Nat, (List.replicate n [x]).flatten = List.replicate n x
  | 0 => rfl
  | n + 1 => by rw [List.replicate_succ, List.flatten_cons, flat_rep x n]; rfl
end G

namespace G
open PySem PySem.Spec PyProof.Rows L2
/-! ### dicts of one's own -/
def hasK (ks : List Key) (k : Key) : Bool := ks.any fun x => decide (x = k)
def putKs (ks : List Key) (k : Key) : List Key := if hasK ks k = true then ks else ks ++ [k]
def putVs {α : Type} (ks : List Key) (vs : List α) (k : Key) (v : α) : List α := if hasK ks k = true then (ks.zip vs).map (fun p => if p.1 = k then v else p.2) else vs ++ [v]
theorem zip_mapSnd {α : Type} (f : Key × α → α) : ∀ (ks : List Key) (vs : List α), ks.length = vs.length → (ks.zip vs).map (fun p => (p.1, f p)) = ks.zip ((ks.zip vs).map f)
  | [], _, _ => by simp
  | k :: ks, [], h => by simp at h
  | k :: ks, v :: vs, h => by
    simp only [List.zip_cons_cons, List.map_cons]
    rw [zip_mapSnd f ks vs (by simpa using h)]
theorem any_zip {α : Type} {k : Key} : ∀ (ks : List Key) (vs : List α), ks.length = vs.length → ((ks.zip vs).any fun kv => decide (kv.1 = k)) = hasK ks k
  | [], _, _ => rfl
  | x :: ks, [], h => by simp at h
  | x :: ks, v :: vs, h => by
    rw [List.zip_cons_cons, List.any_cons, any_zip ks vs (by simpa using h)]
    rfl
theorem putK_zip {k : Key} {v : V} {ks : List Key} {vs : List V} (h : ks.length = vs.length) : putK (ks.zip vs) k v = (putKs ks k).zip (putVs ks vs k v) := by
  unfold putK putKs putVs
  rw [any_zip ks vs h]
  by_cases e : hasK ks k = true
  · rw [if_pos e, if_pos e, if_pos e, ← zip_mapSnd _ ks vs h]
    refine List.map_congr_left fun p _ => ?_
    by_cases q : p.1 = k
    · simp [q]
    · simp [q]
  · rw [if_neg e, if_neg e, if_neg e, List.zip_append h]
    rfl
theorem putVs_length {α : Type} {k : Key} {v : α} {ks : List Key} {vs : List α} (h : ks.length = vs.length) : (putKs ks k).length = (putVs ks vs k v).length := by
  unfold putKs putVs
  split
  · simp [h]
  · simp [h]
theorem Rzs.putMap {K : Frag} {A : Av} {H : Hp} {k : Key} {d : D} {v : V} (q : Rz K A H d v) : ∀ {ks : List Key} {ds : List D} {vs : List V}, Rzs K A H ds vs → Rzs K A H ((ks.zip ds).map fun p => if p.1 = k then d else p.2) ((ks.zip vs).map fun p => if p.1 = k then v else p.2)
  | [], _, _, _ => by simp only [List.zip_nil_left, List.map_nil]; exact .nil
  | x :: ks, [], vs, h => by
    simp only [Rzs] at h
    subst h
    simp only [List.zip_nil_right, List.map_nil]
    exact .nil
  | x :: ks, e :: ds, vs, h => by
    simp only [Rzs] at h
    obtain ⟨w, r, rfl, h1, h2⟩ := h
    simp only [List.zip_cons_cons, List.map_cons]
    refine .cons ?_ (Rzs.putMap q h2)
    by_cases z : x = k
    · rw [if_pos z, if_pos z]; exact q
    · rw [if_neg z, if_neg z]; exact h1
theorem Rzs.putVs {K : Frag} {A : Av} {H : Hp} {k : Key} {d : D} {v : V} (q : Rz K A H d v) {ks : List Key} {ds : List D} {vs : List V} (h : Rzs K A H ds vs) : Rzs K A H (putVs ks ds k d) (putVs ks vs k v) := by
  unfold G.putVs
  split
  · exact Rzs.putMap q h
  · exact h.append (.one q)
section
variable {X : Cx} {W : WX}
/-- {} -/
def mDNew : ME := fun _ Q _ => Q (.fr (.dic [] []))
theorem de_dnew {pos : Pos} : DE X W (.Dict [] [] pos) mDNew 0 := by
  refine ⟨_, pe_dnewK, fun _ _ _ _ _ hq _ q => hq _ q, fun B Z T H0 ε σ H Q Ex hL r hx q p hp => ?_⟩
  exact q _ _ (Aft.new r.z hp) ⟨p, rfl, .of hp, [], upd_same, ⟨rfl, Nat.zero_le _⟩, .nil⟩
/-- the dict that slot i has for itself -/
def onOwD (P : List Key → List D → Prop) : Option SV → Prop
  | some (.ow (.dic ks ds)) => P ks ds
  | _ => False
@[simp] theorem onOwD_ow {P : List Key → List D → Prop} {ks : List Key} {ds : List D} : onOwD P (some (.ow (.dic ks ds))) = P ks ds := rfl
theorem onOwD_mono {P P' : List Key → List D → Prop} (h : ∀ ks ds, P ks ds → P' ks ds) : ∀ x, onOwD P x → onOwD P' x := fun x q => by
  unfold onOwD at q ⊢
  split at q <;> first | exact h _ _ q | exact q
theorem onOwD_ex {P : List Key → List D → Prop} {x : Option SV} (q : onOwD P x) : ∃ ks ds, x = some (.ow (.dic ks ds)) ∧ P ks ds := by
  unfold onOwD at q
  split at q <;> first | exact ⟨_, _, rfl, q⟩ | exact q.elim
/-- x[k] = e -/
def mDPut (i : Nat) (mk : MI) (me : ME) : MS := fun De ε => onOwD (fun ks ds => me ε (onD fun d => mk ε (fun k => ∃ kk, k.key = some kk ∧ ds.length < sizeLine ∧ De.nx (ε.set i (.ow (.dic (putKs ks kk) (putVs ks ds kk d))))) fun c => De.ex c ε) fun c => De.ex c ε) ε[i]?
theorem lift_dput {i : Nat} {tk te : TE} {mk : MI} {me : ME} (lk : LiftI X W tk mk ck) (l : LiftE X W te me cl) : LiftS X W (sDPut (tVar i) tk te) (mDPut i mk me) (cl + ck) := by
  refine ⟨fun ε De De' h q => onOwD_mono (fun ks ds q => l.mono _ _ _ _ _ (onD_mono fun d q => lk.mono _ _ _ _ _ (fun k ⟨kk, e, q1, q2⟩ => ⟨kk, e, q1, h.nx _ q2⟩) (fun c x => h.ex c ε x) q) (fun c x => h.ex c ε x) q) _ q, fun B Z T H0 ε σ H De Dd hL r le q => ?_⟩
  obtain ⟨ks, ds, e, q⟩ := onOwD_ex q
  refine l.run B Z H0 ε σ H _ _ r ((le.xw r).at (T + cl)) (l.mono _ _ _ _ _ (fun iv q v H1 a1 rv => ?_) (fun _ x => x) q)
  have r1 := r.aft a1
  have fin : ∀ d : D, Rz X.K (AvE B Z ε σ) H1 d v → mk ε (fun k => ∃ kk, k.key = some kk ∧ ds.length < sizeLine ∧ De.nx (ε.set i (.ow (.dic (putKs ks kk) (putVs ks ds kk d))))) (fun c => De.ex c ε) →
      tVar i σ H1 fun x H2 => tk σ H2 fun y H3 => ∃ a H4, x = .ref a ∧ DPut H3 a y v H4 ∧ Dd.nx σ H4 := fun d rd q => by
    obtain ⟨a, h1, h2, h3, h4, h5⟩ := r1.slot i _ e
    refine ⟨_, h1, ?_⟩
    refine lk.run B Z H0 ε σ H1 _ _ r1 (le.xw r1) (lk.mono _ _ _ _ _ (fun k q y H2 a2 ry => ?_) (fun _ x => x) q)
    obtain ⟨kk, ek, ql, q⟩ := q
    have r2 := r1.aft a2
    obtain ⟨b, f1, _, _, _, vs, f5, ⟨fl, fl2⟩, f6⟩ := r2.slot i _ e
    rw [h1] at f1
    cases f1
    have hv := f6.length
    have rd2 : Rz X.K (AvE B Z ε σ) H2 d v := Rz.aft rd a2
    have hz : ks.length = vs.length := by omega
    refine ⟨a, _, rfl, .inl ⟨ks.zip vs, kk, f5, key_v ry ek, by rw [List.length_zip]; omega, rfl⟩, le.nx _ _ _ q (r2.chg e h1 ?_)⟩
    rw [putK_zip hz]
    have up : Kp (AvE B Z ε σ) (AvE B Z ε σ) H2 (upd H2 a (.dK ((putKs ks kk).zip (putVs ks vs kk v)))) := .of fun c o n x => ⟨n, x.but (fun z => n (by rw [z]; exact .inr (.inr ⟨i, _, e, h1⟩)))⟩
    refine ⟨_, upd_same, ⟨putVs_length fl, ?_⟩, (Rzs.putVs rd2 f6).map up⟩
    unfold G.putVs
    split
    · rw [List.length_map, List.length_zip]; omega
    · rw [List.length_append, List.length_singleton]; omega
  cases iv with
  | fz d => exact fin d rv q
  | fr d => exact fin d (RV.rz r rv) q
  | st => exact q.elim
  | bo d => exact q.elim
theorem ds_dput (i : Nat) {x : Str} {k e : Expr} {mk : MI} {me : ME} {xp pos pos' : Pos} (hr : Room n X.A) (h : DE X W e me ch) (hk : DI X W k mk chk) (hN : X.N[i]? = some x := by rfl) (hv : Vis X.env.scope x := by first | exact Or.inl rfl | exact Or.inr (Or.inl rfl) | exact Or.inr (Or.inr rfl)) (hd : (x == ("__debug__" : Str)) = false := by decide) (hcd : (x == ("__classdict__" : Str)) = false := by decide)
    (hs : swapsWith e (some (.Subscript (.Name x xp) k pos')) pos.line X.env = pure false := by rfl) : DS X W (.Assign [.Subscript (.Name x xp) k pos'] e pos) (mDPut i mk me) (ch + chk) := by
  obtain ⟨te, pe, l⟩ := h
  obtain ⟨tk, pk, lk⟩ := hk
  exact ⟨_, ps_dput (hu_of hr) (pe_var hN hv hd hcd) pk pe hs, lift_dput lk l⟩
def onDic (P : List Key → List D → Prop) : D → Prop
  | .dic ks ds => P ks ds
  | _ => False
@[simp] theorem onDic_dic {P : List Key → List D → Prop} {ks : List Key} {ds : List D} : onDic P (.dic ks ds) = P ks ds := rfl
theorem onDic_mono {P P' : List Key → List D → Prop} (h : ∀ ks ds, P ks ds → P' ks ds) : ∀ d, onDic P d → onDic P' d := fun d q => by
  cases d <;> first | exact h _ _ q | exact q
/-- d.get(k, x) -/
def mGet2 (a k : MI) (x : ME) : ME := fun ε Q Ex => a ε (onDic fun ks ds => k ε (fun y => x ε (onD fun z => ∃ kk, y.key = some kk ∧ Q (.fz ((lookD ks ds kk).getD z))) Ex) Ex) Ex
theorem lift_get2 {ta tk tx : TE} {a k : MI} {x : ME} (la : LiftI X W ta a ca) (lk : LiftI X W tk k ck) (lx : LiftE X W tx x cx) : LiftE X W (tDGet2 ta tk tx) (mGet2 a k x) (ca + ck + cx) := by
  refine ⟨fun ε Q Q' Ex Ex' hq hx q => la.mono _ _ _ _ _ (onDic_mono fun ks ds q => lk.mono _ _ _ _ _ (fun y q => lx.mono _ _ _ _ _ (onD_mono fun z ⟨kk, e2, q⟩ => ⟨kk, e2, hq _ q⟩) hx q) hx q) hx q, fun B Z T H0 ε σ H Q Ex hL r hx q => ?_⟩
  refine la.run B Z H0 ε σ H _ Ex r (hx.at (T + ca)) (la.mono _ _ _ _ _ (fun d q x H1 a1 r1 => ?_) (fun _ x => x) q)
  cases d with
  | dic ks ds =>
    obtain ⟨p, vs, rfl, h1, hl, h2⟩ := r1.dic
    refine ⟨p, rfl, .inl ⟨_, h1⟩, ?_⟩
    refine lk.run B Z H0 ε σ H1 _ Ex (r.aft a1) ((hx.at (T + (ca + ck))).aft a1) (lk.mono _ _ _ _ _ (fun y q yv H2 a2 r2 => ?_) (fun _ x => x) q)
    have a12 := a1.trans a2
    refine lx.run B Z H0 ε σ H2 _ Ex (r.aft a12) (hx.aft a12) (lx.mono _ _ _ _ _ (fun iv q v H3 a3 rv => ?_) (fun _ x => x) q)
    have a13 := a12.trans a3
    have rx := (r1.aft a2).aft a3
    obtain ⟨p', vs', e', h1', hl', h2'⟩ := rx.dic
    cases e'
    have fin : ∀ z : D, Rz X.K (AvE B Z ε σ) H3 z v → (∃ kk, y.key = some kk ∧ ∀ (v : V) (H' : Hp), Aft Z (T + (ca + ck + cx)) H H' → RV X.K (AvE B Z ε σ) Z H H' v (.fz ((lookD ks ds kk).getD z)) → Q v H') → ∃ o, DGet H3 p yv o ∧ Q (o.getD v) H3 := fun z rz ⟨kk, ek, q⟩ => by
      have hz := valV_zip (k := kk) h2' hl'.1
      refine ⟨_, .inl ⟨_, kk, h1', key_v (r2.aft a3) ek, rfl⟩, q _ H3 a13 (RV.mk ?_)⟩
      cases e : lookD ks ds kk with
      | none => rw [hz.2 e]; exact rz
      | some d =>
        obtain ⟨w, e1, rw'⟩ := hz.1 d e
        rw [e1]
        exact rw'
    cases iv with
    | fz z => exact fin z rv q
    | fr z => exact fin z (RV.rz (r.aft a12) rv) q
    | st => exact q.elim
    | bo z => exact q.elim
  | _ => exact q.elim
theorem de_get2 {o k x : Expr} {mo mk : MI} {mx : ME} {apos cpos : Pos} (hr : Room n X.A) (ho : DI X W o mo cho) (hk : DI X W k mk chk) (hx : DE X W x mx chx)
    (hb : attributeBase o "get" X.env (eval o X.env) = eval o X.env := by rfl) (hf : ((backTo cpos (starEach [k, x] X.env)).all (fun x => !x.1) && (backToKw cpos (keywordEach [] X.env)).all (fun x => x.1.isSome) && decide (([k, x] : List Expr).length + ([] : List Keyword).length + (if ([] : List Keyword).isEmpty then 0 else 1) < 30)) = true := by rfl)
    (hl : (apos.endLine == cpos.line) = true := by rfl) (ht : backTo cpos (starEach [k, x] X.env) = [(false, eval k X.env), (false, eval x X.env)] := by rfl) :
    DE X W (.Call (.Attribute o "get" apos) [k, x] [] cpos) (mGet2 mo mk mx) (cho + chk + chx) := by
  obtain ⟨_, po, lo⟩ := ho
  obtain ⟨_, pk, lk⟩ := hk
  obtain ⟨_, px, lx⟩ := hx
  exact ⟨_, pe_dget2 (hu_of hr) po pk px ⟨hb, hf, hl, ht⟩, lift_get2 lo lk lx⟩
/-! ### str(i), sorted(..) -/
def fStrC : List D → (IV → Prop) → Prop
  | [.int i], Q => i.natAbs.log2 < 1920 ∧ Q (.fz (.str (toString i)))
  | [.str z], Q => Q (.fz (.str z))
  | _, _ => False
theorem cbD_str : CbD X (fun xs H Q => (∃ i, xs = [V.int i] ∧ i.natAbs.log2 < 1920 ∧ Q (.str (toString i)) H) ∨ ∃ a, xs = [V.str a] ∧ Q (.str a) H) fStrC := by
  refine ⟨fun x Q Q' h q => ?_, fun B Z T H0 ε σ H xs ds Q r rs q => ?_⟩
  · unfold fStrC at q ⊢
    split at q
    · exact ⟨q.1, h _ q.2⟩
    · exact h _ q
    · exact q
  · unfold fStrC at q
    split at q
    · obtain ⟨v, rfl, h⟩ := rs.one
      exact .inl ⟨_, by rw [h.int], q.1, q.2 _ H r.aftRefl (RV.mk (rz_str (PySem.int_text_fits q.1)))⟩
    · obtain ⟨v, rfl, h⟩ := rs.one
      exact .inr ⟨_, by rw [h.str.1], q _ H r.aftRefl (RV.mk (rz_str h.str.2))⟩
    · exact q.elim
theorem de_strc {e : Expr} {a : MJ} {p pos : Pos} (hm : X.mg "str" = none) (ha : DJ X W [e] a cha) (hg : Gl X "str" := by rfl)
    (he : starEach (e :: []) X.env = (false, eval e X.env) :: starEach [] X.env := by rfl) (hpl : (backTo pos (starEach [] X.env)).any (·.1) = false := by rfl) : DE X W (.Call (.Name "str" p) [e] [] pos) (mCB fStrC a) cha :=
  de_ct (CallR.or call_str_int SkE.call_str_str) cbD_str hm (by decide +kernel) ha hg (by decide) (by decide) he hpl
theorem ok_strs {xs : List Str} (h : D.oks (xs.map .str)) : ∀ x ∈ xs, x.length ≤ sizeLine := by
  induction xs with
  | nil => intro x hx; cases hx
  | cons y xs ih =>
    simp only [List.map_cons, D.oks, D.ok] at h
    intro x hx
    rcases List.mem_cons.mp hx with rfl | hx
    · exact h.1
    · exact ih h.2 x hx
end
section
variable {X : Cx} {W : WX}
abbrev rSortedA (X : Cx) : List V → Hp → VK → Prop := fun xs H Q => rSortedS X.K xs H Q ∨ (∃ (a : Addr) (kvs : List (Key × V)) (ks : List Str), xs = [.ref a] ∧ Rd H a (.dK kvs) ∧ kvs.map (·.1) = ks.map Sum.inr ∧ ks.length < 64 ∧
    ∀ (ys : List Str) (p : Addr), ys.Perm ks → sortedS ys = true → H p = none → Q (.ref p) (upd H p (.lst (ys.map V.str)))) ∨ rSorted X.K xs H Q
theorem key_strs {K : Frag} {A : Av} {H : Hp} {xs : List Str} {es : List D} {vs : List V} (h : Rzs K A H es vs) (hl : (xs.map (Sum.inr : Str → Key)).length = es.length) : ((xs.map (Sum.inr : Str → Key)).zip vs).map (·.1) = xs.map Sum.inr := by
  rw [List.map_fst_zip]
  have := h.length
  omega
/-- the keys' sizes aren't told: asked of them -/
theorem cbD_sorted (hc : X.calm = true) : CbD X (rSortedA X) (fun ds Q => (∃ xs : List Str, (ds = [.lst (xs.map .str)] ∨ ∃ es, ds = [.dic (xs.map Sum.inr) es]) ∧ xs.length < 64 ∧ (∀ x ∈ xs, x.length ≤ sizeLine) ∧ ∀ ys : List Str, ys.Perm xs → sortedS ys = true → Q (.fr (.lst (ys.map .str)))) ∨
    ∃ xs : List Int, ds = [.lst (xs.map .int)] ∧ xs.length < 64 ∧ ∀ ys : List Int, ys.Perm xs → ys.Pairwise (· ≤ ·) → Q (.fr (.lst (ys.map .int)))) := by
  refine ⟨fun x Q Q' h q => q.imp (fun ⟨xs, e, l, o, q⟩ => ⟨xs, e, l, o, fun ys p s => h _ (q ys p s)⟩) fun ⟨xs, e, l, q⟩ => ⟨xs, e, l, fun ys p s => h _ (q ys p s)⟩, fun B Z T H0 ε σ H xs ds Q r rs q => ?_⟩
  have e24 := sizeLine_eq
  rcases q with ⟨zs, e, l, ok, q⟩ | ⟨zs, rfl, l, q⟩
  · have fin : ∀ (ys : List Str) (p : Addr), ys.Perm zs → sortedS ys = true → H p = none → Q (.ref p) (upd H p (.lst (ys.map V.str))) := fun ys p hp hs hn =>
      q ys hp hs _ _ (Aft.new r.z hn) (r.newLst hn (rzs_strs fun x hx => ok x (hp.mem_iff.mp hx)) (by rw [List.length_map, hp.length_eq]; omega))
    rcases e with rfl | ⟨es, rfl⟩
    · obtain ⟨v, rfl, h⟩ := rs.one
      obtain ⟨a, vs, rfl, h1, _, h2⟩ := h.lst
      rw [h2.strs] at h1
      exact .inl ⟨a, zs, rfl, .of h1, l, fin⟩
    · obtain ⟨v, rfl, h⟩ := rs.one
      obtain ⟨a, vs, rfl, h1, hl, h2⟩ := h.dic
      exact .inr (.inl ⟨a, _, zs, rfl, h1, key_strs h2 hl.1, l, fin⟩)
  · obtain ⟨v, rfl, h⟩ := rs.one
    obtain ⟨a, vs, rfl, h1, _, h2⟩ := h.lst
    rw [h2.ints] at h1
    exact .inr (.inr ⟨a, zs, rfl, .of h1, l, fun ys p hp hs hn => q ys hp hs _ _ (Aft.new r.z hn) (r.newLst hn rzs_ints (by rw [List.length_map, hp.length_eq]; omega))⟩)
def fSorted : List D → (IV → Prop) → Prop := fun ds Q => (∃ xs : List Str, (ds = [.lst (xs.map .str)] ∨ ∃ es, ds = [.dic (xs.map Sum.inr) es]) ∧ xs.length < 64 ∧ (∀ x ∈ xs, x.length ≤ sizeLine) ∧ ∀ ys : List Str, ys.Perm xs → sortedS ys = true → Q (.fr (.lst (ys.map .str)))) ∨
    ∃ xs : List Int, ds = [.lst (xs.map .int)] ∧ xs.length < 64 ∧ ∀ ys : List Int, ys.Perm xs → ys.Pairwise (· ≤ ·) → Q (.fr (.lst (ys.map .int)))
theorem de_sorted {e : Expr} {a : MJ} {p pos : Pos} (hc : X.calm = true) (hm : X.mg "sorted" = none) (ha : DJ X W [e] a cha) (hg : Gl X "sorted" := by rfl)
    (he : starEach (e :: []) X.env = (false, eval e X.env) :: starEach [] X.env := by rfl) (hpl : (backTo pos (starEach [] X.env)).any (·.1) = false := by rfl) : DE X W (.Call (.Name "sorted" p) [e] [] pos) (mCB fSorted a) cha :=
  de_cb (CallR.or cr_sortedS (CallR.or (call_sortedD hc) cr_sorted)) (cbD_sorted hc) hm (by decide +kernel) ha hg (by decide) (by decide) he hpl
/-! ### x += e -/
/-- of an own list: the items of another -/
def mExt (i : Nat) (m : MI) : MS := fun De ε => onOwL (fun ds => m ε (fun d => ∃ es, d = .lst es ∧ ds.length + es.length ≤ sizeLine ∧ De.nx (ε.set i (.ow (.lst (ds ++ es))))) (fun c => De.ex c ε)) ε[i]?
theorem St.set_same {σ : St} {i : Nat} {v : Option V} (h : σ[i]? = some v) : σ.set i v = σ := by
  obtain ⟨hl, e⟩ := List.getElem?_eq_some_iff.mp h
  rw [← e]
  exact List.set_getElem_self hl
theorem lift_ext {i : Nat} {t : TE} {m : MI} (l : LiftI X W t m cl) : LiftS X W (tAug i t rExt2) (mExt i m) cl := by
  refine ⟨fun ε De De' h q => onOwL_mono (fun ds q => l.mono _ _ _ _ _ (fun d ⟨es, e, q1, q2⟩ => ⟨es, e, q1, h.nx _ q2⟩) (fun c x => h.ex c ε x) q) _ q, fun B Z T H0 ε σ H De Dd hL r le q => ?_⟩
  obtain ⟨ds, e, q⟩ := onOwL_ex q
  obtain ⟨a, h1, h2, h3, h4, vs, h5, hl, h6⟩ := r.slot i _ e
  refine ⟨_, h1, ?_⟩
  refine l.run B Z H0 ε σ H _ _ r (le.xw r) (l.mono _ _ _ _ _ (fun d q v H1 a1 rv => ?_) (fun _ x => x) q)
  obtain ⟨es, rfl, q1, q2⟩ := q
  have r1 := r.aft a1
  obtain ⟨b, ws, rfl, g1, _, g2⟩ := rv.lst
  have e5 := (a1.ex a _ h3 (.mk h5)).1
  have h6' : Rzs X.K (AvE B Z ε σ) H1 ds vs := h6.map (.of fun c o n x => ⟨n, a1.ex c o (fun z => n (.inr (.inl z))) x⟩)
  refine ⟨a, b, vs, ws, rfl, rfl, e5, g1, by rw [h6.length, g2.length]; exact q1, ?_⟩
  show Dd.nx (σ.set i (some (V.ref a))) _
  rw [St.set_same h1]
  refine le.nx _ _ _ q2 (r1.chg e h1 ?_)
  have up : Kp (AvE B Z ε σ) (AvE B Z ε σ) H1 (upd H1 a (.lst (vs ++ ws))) := .of fun c o n x => ⟨n, x.but (fun z => n (by rw [z]; exact .inr (.inr ⟨i, _, e, h1⟩)))⟩
  exact ⟨_, upd_same, by rw [List.length_append]; exact q1, (h6'.append g2).map up⟩
theorem ds_ext (i : Nat) {x : Str} {e : Expr} {m : MI} {pos pos' : Pos} (hN : X.N.Nodup) (h : DI X W e m ch) (hi : X.N[i]? = some x := by rfl) (hx : Loc X.env.scope x := by first | exact Or.inl rfl | exact Or.inr rfl) (hf : X.fn x = true ∨ X.env.scope.names.lookup x = some .local := by first | exact .inl rfl | exact .inr rfl) :
    DS X W (.AugAssign (.Name x pos') .Add e pos) (mExt i m) ch := by
  obtain ⟨t, p, l⟩ := h
  exact ⟨_, ps_aug hN hi hx p iop_ext hf, lift_ext l⟩
/-- of a number -/
def mInc (i : Nat) (m : MI) : MS := fun De ε => match ε[i]? with
  | some (.fz (.int a)) => m ε (fun d => ∃ b, d = .int b ∧ De.nx (ε.set i (.fz (.int (a + b))))) (fun c => De.ex c ε)
  | _ => False
theorem ds_inc (i : Nat) {x : Str} {e : Expr} {m : MI} {pos pos' : Pos} (hN : X.N.Nodup) (h : DI X W e m ch) (hi : X.N[i]? = some x := by rfl) (hx : Loc X.env.scope x := by first | exact Or.inl rfl | exact Or.inr rfl) (hf : X.fn x = true ∨ X.env.scope.names.lookup x = some .local := by first | exact .inl rfl | exact .inr rfl) :
    DS X W (.AugAssign (.Name x pos') .Add e pos) (mInc i m) ch := by
  obtain ⟨t, p, l⟩ := h
  refine ⟨_, ps_aug hN hi hx p ip_add hf, fun ε De De' h q => ?_, fun B Z T H0 ε σ H De Dd hL r le q => ?_⟩
  · unfold mInc at q ⊢
    split at q
    · exact l.mono _ _ _ _ _ (fun d ⟨b, e, q⟩ => ⟨b, e, h.nx _ q⟩) (fun c x => h.ex c ε x) q
    · exact q
  · unfold mInc at q
    split at q
    · rename_i a e
      obtain ⟨v, h1, h2⟩ := r.slot i _ e
      refine ⟨v, h1, ?_⟩
      simp only [Rz] at h2
      subst h2
      refine l.run B Z H0 ε σ H _ _ r (le.xw r) (l.mono _ _ _ _ _ (fun d q w H1 a1 rv => ?_) (fun _ x => x) q)
      obtain ⟨b, rfl, q⟩ := q
      exact ⟨a, b, rfl, rv.int, le.nx _ _ _ q ((r.aft a1).setFz rz_int)⟩
    · exact q.elim
/-! ### f(k = e, ..), all by keywords in the parameters' order -/
def tCallK0 (sp : Sp) (gV : List V → List V → List V) (E : St → XK) (tk : TA) : TE := fun σ H Q => tk σ H fun zs H2 => sp (gV [] zs) H2 Q (E σ)
theorem pe_callK0 {CX : CXT} {k : Nat} {f : Addr} {fd : FuncData} {ps ks : List Str} {sp : Sp} {E : St → XK} {x : Str} {p pos : Pos} {kws : List Keyword} {tk : TA} {g : List Value → List Value → List Value} {gV : List V → List V → List V}
    (F : FnOk X.prog X.w X.K X.mg X.base CX k f fd ps sp) (hr : Room k X.A) (hg : Gl X x) (hm : X.mg x = some (.ref f)) (hk : PySem.W.keepIn X.K (.ref f) = true) (hb : KBinds X.K fd ps ks g gV) (hx : ∀ σ, PassesAt CX X σ (E σ))
    (hkw : PK X kws tk) (hall : (backToKw pos (keywordEach kws X.env)).all (·.1.isSome) = true := by rfl) (hks : (backToKw pos (keywordEach kws X.env)).filterMap (·.1) = ks := by rfl)
    (hdb : (x == ("__debug__" : Str)) = false := by decide)
    (hpl : ((backTo pos (starEach [] X.env)).any (·.1) || (backToKw pos (keywordEach kws X.env)).any (·.1.isNone)) = false := by rfl) :
    PE X (.Call (.Name x p) [] kws pos) (tCallK0 sp gV E tk) := by
  refine ⟨fun pins s σ H Q I h => ?_⟩
  refine wpAny_Call_Name_kw (ld_glob I hg hm ?_ hdb)
  refine PySem.W.callWith_KW0 (h₀ := X.base) I.ok.mod.kin hk hall ?_ hpl
  refine thn (hkw.run pos pins s σ H _ I h) fun ws s2 ⟨zs, H2, I2, rz, q2⟩ => ⟨I2.kIn, ?_⟩
  rw [hks]
  have r2 := hb.rel (vs := []) (us := []) .nil rz
  have hl : (g [] ws).length = ps.length := by rw [← r2.length]; exact F.len _ _ _ _ q2
  refine wpAny_call (codeAny_mono (F.run X.A X.stack s2 H2 ⟨[], ks.zip ws⟩ (g [] ws) (gV [] zs) Q (E σ) hr I2.env0 (hb.to s2 [] ws I2.kIn hl) r2 q2) fun r s' hq => ?_)
  cases r with
  | error e => exact hx σ pins H2 s2 e s' I2 hq
  | ok fl =>
    cases fl with
    | ret u => exact I2.after hq
    | next => exact False.elim hq
    | brk => exact False.elim hq
    | cont => exact False.elim hq
/-- the keywords' values in a row -/
def DK (X : Cx) (W : WX) (kws : List Keyword) (m : MA) (c : Nat) : Prop := ∃ t, PK X kws t ∧ LiftA X W t m c
theorem dk0_nil : DK X W [] mNil 0 := ⟨_, pk_nil, lift_nil⟩
theorem dk0_cons {nm : Option Str} {e : Expr} {kp : Pos} {kws : List Keyword} {a : ME} {b : MA} (ha : DE X W e a ca) (hb : DK X W kws b cb) : DK X W (⟨nm, e, kp⟩ :: kws) (mCons a b) (ca + cb) := by
  obtain ⟨ta, pa, la⟩ := ha
  obtain ⟨tb, pb, lb⟩ := hb
  exact ⟨_, pk_cons pa pb, lift_cons la lb⟩
end
/-- a def called by keywords ks alone; pm puts their values in the parameters' order -/
structure FnK (P : Program) (w : World) (K : Frag) (mg : Str → Option Value) (base : Heap) (k : Nat) (x : Str) (ps ks : List Str) (pm : List IV → List IV) (sp : SpD) (c : Nat) : Prop where
  mono : SpMono sp
  ex : ∃ f fd g gV, mg x = some (.ref f) ∧ PySem.W.keepIn K (.ref f) = true ∧ FnOk P w K mg base (L2.CX P w) k f fd ps (Lf K mg sp c) ∧ KBinds K fd ps ks g gV ∧ ∀ A Z H is vs, RVs K A Z H is vs → RVs K A Z H (pm is) (gV [] vs)
def mCallK (sp : SpD) (pm : List IV → List IV) (a : MA) : ME := fun ε Q Ex => a ε (fun is => sp (pm is) (fun r => r.ok → Q r) Ex) Ex
section
variable {X : Cx} {W : WX}
theorem lift_callK {sp : SpD} {t : TA} {a : MA} {pm : List IV → List IV} {gV : List V → List V → List V} (ms : SpMono sp) (l : LiftA X W t a cl) (hp : ∀ A Z H is vs, RVs X.K A Z H is vs → RVs X.K A Z H (pm is) (gV [] vs)) :
    LiftE X W (tCallK0 (Lf X.K X.mg sp c) gV (WE W) t) (mCallK sp pm a) (cl + c) := by
  refine ⟨fun ε Q Q' Ex Ex' hq hx q => l.mono ε _ _ _ _ (fun is q => ms _ _ _ _ _ (fun r q z => hq _ (q z)) hx q) hx q, fun B Z T H0 ε σ H Q Ex hL r hx q => ?_⟩
  refine l.run B Z H0 ε σ H _ Ex r (hx.at (T + cl)) (l.mono ε _ _ _ _ (fun is q vs H1 a1 r1 => ?_) (fun _ x => x) q)
  have r' := r.aft a1
  have f : Kp (AvE B Z ε σ) (fun a => (B a ∨ Own ε σ a) ∨ inZ Z a) H1 H1 := .of fun a o n x => ⟨fun z => n ((avE_B a).mpr z), x⟩
  refine ⟨fun a => B a ∨ Own ε σ a, Z, T + cl, pm is, by omega, (hp _ _ _ _ _ r1).mapA f fun a z => (avE_B a).mp z, a1.z, fun b hb => ?_, r.tb, ms _ _ _ _ _ (fun iv q v H2 a2 rv => ?_) (fun c q C H2 m a2 => ?_) q⟩
  · exact r'.trkA ((avE_B b).mpr (.inl hb))
  · exact q rv.ok v H2 (a1.trans a2).up ((rv.mapAv (fun a z => (avE_B a).mp z) fun a z => (avE_B a).mpr z).back a1)
  · exact hx _ C H2 q m (a1.trans a2.up)
theorem de_callK {k j : Nat} {x : Str} {ps ks : List Str} {pm : List IV → List IV} {sp : SpD} {kws : List Keyword} {a : MA} {p pos : Pos} (F : FnK X.prog X.w X.K X.mg X.base j x ps ks pm sp c) (tk : Takes X W) (hr : Room k X.A)
    (ha : DK X W kws a cha) (hj : j ≤ k := by decide) (hg : Gl X x := by rfl) (hall : (backToKw pos (keywordEach kws X.env)).all (·.1.isSome) = true := by rfl) (hks : (backToKw pos (keywordEach kws X.env)).filterMap (·.1) = ks := by rfl)
    (hdb : (x == ("__debug__" : Str)) = false := by decide)
    (hpl : ((backTo pos (starEach [] X.env)).any (·.1) || (backToKw pos (keywordEach kws X.env)).any (·.1.isNone)) = false := by rfl) : DE X W (.Call (.Name x p) [] kws pos) (mCallK sp pm a) (cha + c) := by
  obtain ⟨t, pa, la⟩ := ha
  obtain ⟨f, fd, g, gV, h1, h2, h3, h4, h5⟩ := F.ex
  exact ⟨_, pe_callK0 h3 (hr.mono hj) hg h1 h2 h4 (fun σ => passAt tk σ) pa hall hks hdb hpl, lift_callK F.mono la h5⟩
end
end G

namespace G
open PySem PySem.Spec PyProof.Rows L2
/-! ### the module's constants -/
mutual
def conB (K : Frag) : D → Value → Bool
  | .non, .none => true
  | .bl b, .bool c => decide (b = c)
  | .int i, .int j _ => decide (i = j)
  | .str x, .str y _ => decide (x = y) && decide (x.length ≤ sizeLine)
  | .tup ds, .ref a => (match K.lookup a with
    | some ⟨.type c, none, .seq its _, _⟩ => decide (c = "tuple") && (decide (its.size ≤ sizeLine) && conBs K ds its.toList)
    | _ => false)
  | _, _ => false
def conBs (K : Frag) : List D → List Value → Bool
  | [], [] => true
  | d :: ds, v :: vs => conB K d v && conBs K ds vs
  | _, _ => false
end
theorem bAnd {a b : Bool} (h : (a && b) = true) : a = true ∧ b = true := Bool.and_eq_true_iff.mp h
mutual
theorem conB_ok {K : Frag} : ∀ {d : D} {u : Value}, conB K d u = true → ∃ v, RelV v u ∧ Evr K v d
  | .non, u, h => by
    cases u <;> simp [conB] at h
    exact ⟨.non, rfl, evr_non⟩
  | .bl b, u, h => by
    cases u <;> simp [conB] at h
    subst h
    exact ⟨.bl b, rfl, evr_bl⟩
  | .int i, u, h => by
    cases u <;> simp [conB] at h
    subst h
    exact ⟨.int i, ⟨_, rfl⟩, evr_int⟩
  | .str x, u, h => by
    cases u <;> simp [conB] at h
    obtain ⟨rfl, h⟩ := h
    exact ⟨.str x, ⟨_, rfl⟩, evr_str h⟩
  | .tup ds, u, h => by
    cases u with
    | ref a =>
      unfold conB at h
      split at h
      · rename_i c its n sl q
        obtain ⟨h1, h2⟩ := bAnd h
        obtain ⟨h2, h3⟩ := bAnd h2
        obtain ⟨vs, h4, h5⟩ := conBs_ok h3
        refine ⟨.ref a, rfl, fun A H => ?_⟩
        simp only [Rz]
        have hl : ds.length = vs.length := (h5 A H).length.symm
        have hl2 : vs.length = its.toList.length := h4.length
        refine ⟨a, vs, rfl, .inr ⟨_, its, n, q, ⟨congrArg Value.type (of_decide_eq_true h1), rfl⟩, rfl, of_decide_eq_true h2, h4⟩, ?_, h5 A H⟩
        have := of_decide_eq_true h2
        rw [hl, hl2, Array.length_toList]
        exact this
      · cases h
    | _ => simp [conB] at h
  | .lst _, u, h => by cases u <;> simp [conB] at h
  | .dic _ _, u, h => by cases u <;> simp [conB] at h
theorem conBs_ok {K : Frag} : ∀ {ds : List D} {us : List Value}, conBs K ds us = true → ∃ vs, Vals vs us ∧ ∀ A H, Rzs K A H ds vs
  | [], [], _ => ⟨[], .nil, fun _ _ => .nil⟩
  | [], _ :: _, h => by simp [conBs] at h
  | _ :: _, [], h => by simp [conBs] at h
  | d :: ds, u :: us, h => by
    unfold conBs at h
    obtain ⟨h1, h2⟩ := bAnd h
    obtain ⟨v, r, e⟩ := conB_ok h1
    obtain ⟨vs, r2, e2⟩ := conBs_ok h2
    exact ⟨v :: vs, .cons r r2, fun A H => .cons (e A H) (e2 A H)⟩
end
def gconB (K : Frag) (x : Str) (d : D) : Bool := match PySem.W.nsIn K mainGlobals x with
  | some (some u) => conB K d u
  | _ => false
theorem gconB_ok {K : Frag} {h : Heap} {mg : Str → Option Value} (X : K.In h) (G : h.Ns mainGlobals mg) {x : Str} {d : D} (c : gconB K x d = true) : GCon K mg x d := by
  unfold gconB at c
  split at c
  · rename_i u e
    obtain ⟨v, r, q⟩ := conB_ok c
    exact ⟨v, u, PySem.W.mg_of X G e, r, q⟩
  · cases c
def consB (cs : List (Str × D)) (K : Frag) : Bool := cs.all fun c => gconB K c.1 c.2
/-! ### the Hook with them -/
abbrev AlE : Type := He.AlD × Bool
def obsE (n : Nat) (fa : List He.Fa) (fn : List He.DefD) (cs : List (Str × D)) (g : Addr → Option Obj) : AlE := (He.obsDG n fa fn g, consB cs (He.frG g (He.asD g n)))
def hookE (n : Nat) (fa : List He.Fa) (fn : List He.DefD) (cs : List (Str × D)) : PySem.W.Hook where
  α := AlE
  obs := fun s => obsE n fa fn cs s.heap.get?
  val := fun _ => (He.valD fn, true)
  says := fun _ h => ∃ K : Frag, K.In h ∧ He.SaysD fa fn K ∧ consB cs K = true
  of := fun _ _ e => ⟨_, He.frG_in, congrArg (fun z : AlE => z.1) e, congrArg (fun z : AlE => z.2) e⟩
  keeps := fun _ _ _ ⟨K, hK, c⟩ k => ⟨K, PySem.W.Frag.In.keeps hK k, c⟩
theorem obsE_eq {n : Nat} {fa : List He.Fa} {fn : List He.DefD} {cs : List (Str × D)} {g : Addr → Option Obj} {s : Shared} (h : ∀ a, g a = s.heap.get? a) : obsE n fa fn cs g = (hookE n fa fn cs).obs s := by
  have e : g = s.heap.get? := funext h
  rw [e]
  rfl
theorem con_of {K : Frag} {h : Heap} {mg : Str → Option Value} {cs : List (Str × D)} (X : K.In h) (G : h.Ns mainGlobals mg) (c : consB cs K = true) (i : Nat) {x : Str} {d : D} (e : cs[i]? = some (x, d)) : GCon K mg x d :=
  gconB_ok X G (List.all_eq_true.mp c (x, d) (List.mem_of_getElem? e))
def gAll {α : Type} : List α → List α → List α
  | [], ws => ws
  | _ :: _, _ => []
theorem kbinds_all {K : Frag} {x qual : Str} {params : Arguments} {body : List Stmt} {scope : Scope} {f : Addr} {fd : FuncData} {ps : List Str} (F : FunD K x qual params body scope [] [] f fd) (hne : ps ≠ [])
    (h : ∀ (kV doc pm : Value) (an : Option Addr) (cdv ct : Value) (ws : List Value), ws.length = ps.length → bindArgs (PySem.W.fnOf x qual params body scope .none kV doc pm an cdv ct) ⟨[], ps.zip ws⟩ = pure (ps.zip ws)) : KBinds K fd ps ps gAll gAll := by
  obtain ⟨oc, od, dV, kV, doc, pm, an, cdv, ct, osl, rfl, lk, hcd, hD, hK⟩ := F.ex
  rcases hD with ⟨_, rfl⟩ | ⟨e, _⟩
  · refine ⟨fun s us ws X hl => ?_, fun {vs us zs ws} r1 r2 => ?_⟩
    · cases us with
      | nil => exact .of_eq (h kV doc pm an cdv ct ws hl)
      | cons u us =>
        have : ps.length = 0 := hl.symm
        exact absurd (List.eq_nil_of_length_eq_zero this) hne
    · cases r1 with
      | nil => exact r2
      | cons _ _ => exact .nil
  · exact absurd rfl e
theorem fnk_all {P : Program} {w : World} {K : Frag} {mg : Str → Option Value} {base : Heap} {k : Nat} {x : Str} {ps : List Str} {sp : SpD} {c : Nat} {f : Addr} {fd : FuncData} (mono : SpMono sp) (gm : mg x = some (.ref f)) (kp : PySem.W.keepIn K (.ref f) = true) (F : FnOk P w K mg base (L2.CX P w) k f fd ps (Lf K mg sp c)) (kb : KBinds K fd ps ps gAll gAll) : FnK P w K mg base k x ps ps id sp c :=
  ⟨mono, f, fd, gAll, gAll, gm, kp, F, kb, fun _ _ _ _ _ h => h⟩
end G

namespace G
open PySem PySem.Spec PyProof.Rows L2
/-! ### what is judged, plainly -/
def isRow (n : Nat) : D → Bool
  | .tup ds => decide (ds.length = n)
  | _ => false
def dWhole : D → Bool
  | .int _ => true
  | _ => false
def dNum : D → Bool
  | .tup [a, b] => (match a, b with
    | .int a, .int b => decide (0 < b) && decide (Int.gcd a b = 1)
    | _, _ => false)
  | _ => false
def letters : Str := "abcdefghijklmnopqrstuvwxyz"
def keptW : List D := [.str "best", .str "by", .str "core", .str "drag", .str "drop", .str "end", .str "follow", .str "gone", .str "groups", .str "let", .str "might", .str "missed", .str "must", .str "no", .str "none", .str "path", .str "range", .str "redo", .str "should", .str "show", .str "thing", .str "to", .str "undo", .str "wish", .str "yes"]
def inLet : D → Bool
  | .str s => inStr s letters
  | _ => false
def dName : D → Bool
  | .str x => (decide (1 ≤ (x.length : Int)) && decide ((x.length : Int) ≤ 6)) && ((!keptW.any fun z => pyEq z (.str x)) && (signs x).all inLet)
  | _ => false
def dPart : D → Bool
  | .tup [a, b] => dName a && (dNum b && !pyEq b (.tup [.int 0, .int 1]))
  | _ => false
/-- the names of a form's parts -/
def partName : D → Option Str
  | .tup [.str x, _] => some x
  | _ => none
def partD (d : D) : D := match partName d with
  | some x => .str x
  | none => .non
def rising : List Str → Bool
  | a :: b :: r => strLt a b && rising (b :: r)
  | _ => true
def dForm : D → Bool
  | .tup [x, c] => (match x with
    | .tup ps => dNum c && (ps.all dPart && rising (ps.filterMap partName))
    | _ => false)
  | _ => false
def dOneOf (ws : List D) : D → Bool
  | .str s => ws.any fun z => pyEq z (.str s)
  | _ => false
def dLine : D → Bool
  | .tup [f, s] => dForm f && dOneOf [.str "<=", .str "="] s
  | _ => false
def dWeight : D → Bool
  | .tup [a, b] => (match a with
    | .int i => dNum (.tup [.int i, b]) && decide (0 < i)
    | _ => false)
  | _ => false
def dRungOne : D → Bool
  | .tup [w, l] => dWeight w && dLine l
  | _ => false
def dRung : D → Bool
  | .tup ds => decide ((ds.length : Int) ≤ 16) && ds.all dRungOne
  | _ => false
def strengths : List D := [.str "must", .str "should", .str "might"]
def dWish : D → Bool
  | .tup [s, w, l] => dOneOf strengths s && (dWeight w && (dLine l && (!pyEq s (.str "must") || pyEq w (.tup [.int 1, .int 1]))))
  | _ => false
/-! all([..]) over a comprehension of judgements -/
theorem dBls_of (f : D → Bool) : ∀ ds : List D, dBls (ds.map fun d => .bl (f d)) = some (ds.map f)
  | [] => rfl
  | d :: ds => by simp only [List.map_cons, dBls, dBls_of f ds]; rfl
theorem all_id (f : D → Bool) (ds : List D) : (ds.map f).all id = ds.all f := by
  induction ds with
  | nil => rfl
  | cons d ds ih => simp [ih]
/-- all([f(x) for x in ds]) -/
theorem all_comp {mg : MG} {me : ME} {ε : Env} {Q : IV → Prop} (f : D → Bool) (ds : List D) (h : ∀ d ∈ ds, ∀ K : D → Prop, K (.bl (f d)) → mg d ε fun ε1 => me ε1 (onD K) fun _ => False) (q : Q (.fz (.bl (ds.all f)))) :
    compD mg mYes me ε (fun out => fAll [.lst out] Q) ds [] := by
  refine compD_yes (fun d => .bl (f d)) ds [] h ?_
  refine ⟨ds.map f, by rw [List.nil_append]; exact dBls_of f ds, ?_⟩
  rw [all_id]
  exact q
/-- [1 for x in ds if not f(x)] == [] -/
theorem none_comp {mg : MG} {mt : MT} {me : ME} {ε : Env} {Q : List D → Prop} (f : D → Bool) (ds : List D) (h : ∀ d ∈ ds, ∀ (K : D → Prop) (L : Prop), (f d = false → K (.int 1)) → (f d = true → L) → mg d ε fun ε1 => mt ε1 (fun b => if b = true then me ε1 (onD K) (fun _ => False) else L) fun _ => False)
    (q : Q ((ds.filter fun d => !f d).map fun _ => .int 1)) : compD mg mt me ε Q ds [] := by
  refine compD_sel (fun d => !f d) (fun _ => .int 1) ds [] (fun d hd K L h1 h2 => h d hd K L (fun e => h1 (by simp [e])) (fun e => h2 (by simp [e]))) ?_
  rw [List.nil_append]
  exact q
theorem ones_nil (f : D → Bool) (ds : List D) : pyEq (.lst ((ds.filter fun d => !f d).map fun _ => .int 1)) (.lst []) = ds.all f := by
  induction ds with
  | nil => rfl
  | cons d ds ih =>
    cases e : f d with
    | true => rw [List.filter_cons_of_neg (by simp [e])]; simp only [List.all_cons, e, Bool.true_and]; exact ih
    | false => rw [List.filter_cons_of_pos (by simp [e])]; simp [pyEq, pyEqs, e]
theorem ones_ok (f : D → Bool) (ds : List D) : D.eqOk (.lst ((ds.filter fun d => !f d).map fun _ => .int 1)) := (pl_lst (n := 0) fun d hd => by
  obtain ⟨_, _, rfl⟩ := List.mem_map.mp hd
  exact pl_int).ok (by decide)
theorem nil_ok : D.eqOk (.lst []) := (pl_lst (n := 0) (by simp)).ok (by decide)
theorem two_of {α : Type} {l : List α} (h : l.length = 2) : ∃ a b, l = [a, b] := by
  match l, h with
  | [a, b], _ => exact ⟨a, b, rfl⟩
theorem three_of {α : Type} {l : List α} (h : l.length = 3) : ∃ a b c, l = [a, b, c] := by
  match l, h with
  | [a, b, c], _ => exact ⟨a, b, c, rfl⟩
theorem not_two {ds : List D} (h : ds.length ≠ 2) : dNum (.tup ds) = false ∧ dPart (.tup ds) = false ∧ dForm (.tup ds) = false ∧ dLine (.tup ds) = false ∧ dRungOne (.tup ds) = false := by
  rcases ds with _ | ⟨a, _ | ⟨b, _ | ⟨c, r⟩⟩⟩
  · exact ⟨rfl, rfl, rfl, rfl, rfl⟩
  · exact ⟨rfl, rfl, rfl, rfl, rfl⟩
  · exact absurd rfl h
  · exact ⟨rfl, rfl, rfl, rfl, rfl⟩
theorem not_three {ds : List D} (h : ds.length ≠ 3) : dWish (.tup ds) = false := by
  rcases ds with _ | ⟨a, _ | ⟨b, _ | ⟨c, _ | ⟨e, r⟩⟩⟩⟩
  · rfl
  · rfl
  · rfl
  · exact absurd rfl h
  · rfl
theorem num_ints {d : D} (h : dNum d = true) : ∃ a b : Int, d = .tup [.int a, .int b] ∧ 0 < b ∧ Int.gcd a b = 1 := by
  unfold dNum at h
  split at h
  · split at h
    · simp only [Bool.and_eq_true, decide_eq_true_eq] at h
      exact ⟨_, _, rfl, h.1, h.2⟩
    · cases h
  · cases h
theorem gcd_abs (a b : Int) : Int.gcd (if a < 0 then -a else a) b = Int.gcd a b := by
  split
  · exact Int.neg_gcd
  · rfl
theorem atI_here {α : Type} {l : List α} {i : Nat} (h : i < l.length) : L2.atI l (i : Int) = some l[i] := by
  unfold L2.atI L2.ixN
  rw [if_pos (by omega), if_pos (by omega)]
  simp [h]
theorem signs_mem {z : Str} {d : D} (h : d ∈ signs z) : ∃ s, d = .str s := by
  obtain ⟨c, _, rfl⟩ := List.mem_map.mp h
  exact ⟨_, rfl⟩
theorem rising_iff : ∀ xs : List Str, rising xs = true ↔ ∀ (i : Nat) (h : i + 1 < xs.length), strLt xs[i] xs[i + 1] = true
  | [] => by simp [rising]
  | [a] => by simp [rising]
  | a :: b :: r => by
    unfold rising
    rw [Bool.and_eq_true, rising_iff (b :: r)]
    constructor
    · rintro ⟨h1, h2⟩ i hi
      cases i with
      | zero => exact h1
      | succ i => exact h2 i (by simpa using hi)
    · intro h
      exact ⟨h 0 (by simp), fun i hi => h (i + 1) (by simpa using hi)⟩
def ltAt (xs : List Str) : D → Bool
  | .int i => strLt (xs.getD i.toNat "") (xs.getD (i.toNat + 1) "")
  | _ => false
theorem ltAt_int {xs : List Str} {i : Nat} (h : i + 1 < xs.length) : ltAt xs (.int (0 + (i : Int))) = strLt xs[i] xs[i + 1] := by
  show strLt (xs.getD (0 + (i : Int)).toNat "") (xs.getD ((0 + (i : Int)).toNat + 1) "") = _
  have h0 : i < xs.length := by omega
  rw [show (0 + (i : Int)).toNat = i by omega]
  simp [List.getD, h, h0]
theorem rangeD_mem {lo : Int} {n : Nat} {d : D} (h : d ∈ rangeD lo n) : ∃ i : Nat, i < n ∧ d = .int (lo + i) := by
  unfold rangeD at h
  obtain ⟨i, hi, rfl⟩ := List.mem_map.mp h
  exact ⟨i, List.mem_range.mp hi, rfl⟩
theorem rangeD_rising (xs : List Str) : (rangeD 0 ((xs.length : Int) - 1).toNat).all (ltAt xs) = rising xs := by
  rw [Bool.eq_iff_iff, List.all_eq_true, rising_iff]
  constructor
  · intro h i hi
    have := h (.int (0 + (i : Int))) (by
      unfold rangeD
      exact List.mem_map.mpr ⟨i, List.mem_range.mpr (by omega), rfl⟩)
    rw [ltAt_int hi] at this
    exact this
  · intro h d hd
    obtain ⟨i, hi, rfl⟩ := rangeD_mem hd
    rw [ltAt_int (by omega)]
    exact h i (by omega)
theorem fm_names {ps : List D} (h : ps.all dPart = true) : ∃ xs : List Str, ps.filterMap partName = xs ∧ ps.map partD = xs.map .str := by
  induction ps with
  | nil => exact ⟨[], rfl, rfl⟩
  | cons p ps ih =>
    rw [List.all_cons, Bool.and_eq_true] at h
    obtain ⟨xs, e1, e2⟩ := ih h.2
    have : ∃ x y, p = .tup [.str x, y] := by
      have hp := h.1
      unfold dPart at hp
      split at hp
      · rename_i a b
        rw [Bool.and_eq_true] at hp
        cases a <;> simp [dName] at hp
        exact ⟨_, _, rfl⟩
      · cases hp
    obtain ⟨x, y, rfl⟩ := this
    refine ⟨x :: xs, ?_, ?_⟩
    · rw [List.filterMap_cons]
      simp only [partName, e1]
    · rw [List.map_cons, e2]
      rfl
theorem cut_tail {α : Type} (xs : List α) : cutL xs (some 1) none = xs.drop 1 := by
  have e : HT.sIx xs.length 0 (some 1) = min 1 xs.length := HT.sIx_nat xs.length 0 1
  unfold cutL
  rw [e]
  show (xs.drop (min 1 xs.length)).take (xs.length - min 1 xs.length) = _
  cases xs with
  | nil => rfl
  | cons x xs =>
    have e2 : min 1 (x :: xs).length = 1 := by simp
    rw [e2, List.take_of_length_le (by simp)]
def ltPair : D → Bool
  | .tup [p, q] => (match partName p, partName q with
    | some x, some y => strLt x y
    | _, _ => false)
  | _ => false
theorem part_str {p : D} (h : dPart p = true) : ∃ x b, p = .tup [.str x, b] := by
  unfold dPart at h
  split at h
  · rename_i a b
    cases a <;> simp [dName] at h
    exact ⟨_, _, rfl⟩
  · cases h
theorem pairs_rising : ∀ ps : List D, ps.all dPart = true → (zipD ps (ps.drop 1)).all ltPair = rising (ps.filterMap partName)
  | [], _ => rfl
  | [p], h => by
    simp only [List.all_cons, List.all_nil, Bool.and_true] at h
    obtain ⟨x, b, rfl⟩ := part_str h
    rfl
  | p :: q :: r, h => by
    rw [List.all_cons, Bool.and_eq_true] at h
    have ih := pairs_rising (q :: r) h.2
    have h2 := h.2
    rw [List.all_cons, Bool.and_eq_true] at h2
    obtain ⟨x, b, rfl⟩ := part_str h.1
    obtain ⟨y, c, rfl⟩ := part_str h2.1
    simp only [List.filterMap_cons, partName] at ih ⊢
    unfold rising
    rw [← ih]
    rfl
theorem nought_iff {b : D} (h : dNum b = true) : ∃ i j : Int, b = .tup [.int i, .int j] ∧ pyEq b (.tup [.int 0, .int 1]) = decide (i = 0) := by
  obtain ⟨i, j, rfl, hj, hg⟩ := num_ints h
  refine ⟨i, j, rfl, ?_⟩
  have e : pyEq (.tup [.int i, .int j]) (.tup [.int 0, .int 1]) = (decide (i = 0) && (decide (j = 1) && true)) := rfl
  rw [e]
  by_cases h0 : i = 0
  · subst h0
    rw [Int.gcd_zero_left] at hg
    have : j = 1 := by omega
    subst this
    rfl
  · rw [decide_eq_false h0]
    rfl
/-- a for that leaves by False at the first that is not right -/
theorem forD_all {mg : MG} {mb : MS} {De : EndsD} (f : D → Bool) (Sh : Env → Prop) (R : Prop) (hs : ∀ (d : D) (ε : Env) (F : Env → Prop), Sh ε → (f d = false → R) → (f d = true → ∀ ε', Sh ε' → F ε') → mg d ε fun ε1 => mb { De with nx := F, ct := F, bk := De.nx } ε1) :
    ∀ (ds : List D) (ε : Env), Sh ε → (ds.all f = false → R) → (ds.all f = true → ∀ ε', Sh ε' → De.nx ε') → forD mg mb De ds ε
  | [], ε, hl, _, h2 => h2 rfl ε hl
  | d :: r, ε, hl, h1, h2 => by
    unfold forD
    refine hs d ε _ hl (fun e => h1 (by simp [e])) fun e ε' hl' => forD_all f Sh R hs r ε' hl' (fun e2 => h1 (by simp [e, e2])) fun e2 => h2 (by simp [e, e2])
/-- clean data: no truths, no dicts, numbers and texts not large -/
def D.cl : Nat → D → Prop
  | _, .non => True
  | _, .bl _ => False
  | _, .int i => Bd 1900 i
  | _, .str x => PyData.canLay0 (.str x) = true
  | n + 1, .tup ds => ds.length < 1000 ∧ ∀ d ∈ ds, D.cl n d
  | n + 1, .lst ds => ds.length < 1000 ∧ ∀ d ∈ ds, D.cl n d
  | 0, .tup _ => False
  | 0, .lst _ => False
  | _, .dic _ _ => False
  | _, .exc _ => False
theorem D.cl.pl : ∀ {n : Nat} {d : D}, D.cl n d → D.pl n d
  | _, .non, _ => by unfold D.pl; trivial
  | _, .bl _, _ => by unfold D.pl; trivial
  | _, .int _, _ => by unfold D.pl; trivial
  | _, .str _, h => by unfold D.cl at h; unfold D.pl; exact h
  | n + 1, .tup ds, h => by unfold D.cl at h; unfold D.pl; exact fun d hd => (h.2 d hd).pl
  | n + 1, .lst ds, h => by unfold D.cl at h; unfold D.pl; exact fun d hd => (h.2 d hd).pl
  | 0, .tup _, h => by unfold D.cl at h; exact h.elim
  | 0, .lst _, h => by unfold D.cl at h; exact h.elim
  | 0, .dic _ _, h => by unfold D.cl at h; exact h.elim
  | n + 1, .dic _ _, h => by unfold D.cl at h; exact h.elim
  | 0, .exc _, h => by unfold D.cl at h; exact h.elim
  | n + 1, .exc _, h => by unfold D.cl at h; exact h.elim
end G

namespace G
open PySem PySem.Spec PyProof.Rows L2
/-! ### slices, plainly -/
theorem sIx_pos {n d : Nat} {i : Int} (h : 0 ≤ i) : HT.sIx n d (some i) = min i.toNat n := by
  unfold HT.sIx
  exact if_neg (by omega)
theorem sIx_neg {n d : Nat} {i : Int} (h : i < 0) : HT.sIx n d (some i) = (i + (n : Int)).toNat := by
  unfold HT.sIx
  exact if_pos h
theorem cut_to {α : Type} (xs : List α) {i : Int} (h : 0 ≤ i) : cutL xs none (some i) = xs.take i.toNat := by
  unfold cutL
  rw [sIx_pos h, HT.sIx_none, List.drop_zero, Nat.sub_zero]
  rcases Nat.le_total i.toNat xs.length with h | h
  · rw [Nat.min_eq_left h]
  · rw [Nat.min_eq_right h, List.take_of_length_le h, List.take_of_length_le (Nat.le_refl _)]
theorem cut_from {α : Type} (xs : List α) {i : Int} (h : 0 ≤ i) : cutL xs (some i) none = xs.drop i.toNat := by
  unfold cutL
  rw [sIx_pos h, HT.sIx_none, List.take_of_length_le (by simp)]
  rcases Nat.le_total i.toNat xs.length with h | h
  · rw [Nat.min_eq_left h]
  · rw [Nat.min_eq_right h, List.drop_of_length_le h, List.drop_of_length_le (Nat.le_refl _)]
theorem cut_last {α : Type} (xs : List α) : cutL xs (some (-1)) none = xs.drop (xs.length - 1) := by
  unfold cutL
  rw [sIx_neg (by decide), HT.sIx_none, List.take_of_length_le (by simp), show (-1 + (xs.length : Int)).toNat = xs.length - 1 by omega]
theorem cut_butlast {α : Type} (xs : List α) : cutL xs none (some (-1)) = xs.take (xs.length - 1) := by
  unfold cutL
  rw [sIx_neg (by decide), HT.sIx_none, List.drop_zero, Nat.sub_zero, show (-1 + (xs.length : Int)).toNat = xs.length - 1 by omega]
theorem atI_pos {α : Type} {l : List α} {i : Int} (h : 0 ≤ i) (g : i < l.length) : L2.atI l i = some (l[i.toNat]'(by omega)) := by
  unfold L2.atI L2.ixN
  rw [if_pos h, if_pos g]
  simp [show i.toNat < l.length by omega]
theorem sz (n : Nat) (h : n ≤ 1000 := by decide) : n ≤ sizeLine := Nat.le_trans h (by rw [sizeLine_eq]; decide)
/-! ### idioms -/
/- a call by its promise: no way out but the answer -/
/- a draw -/
theorem log_lt {i : Int} (h : i.natAbs < 2 ^ 62) : i.natAbs.log2 < 9000 := by
  by_cases h0 : i.natAbs = 0
  · rw [h0]; decide
  · have := (Nat.log2_lt (n := i.natAbs) (k := 62) h0).mpr h
    omega
end G

namespace G
open PySem PySem.Spec PyProof.Rows L2
/-! ### numbers as they are: Lean's own rationals -/
def qR (r : Rat) : D := .tup [.int r.num, .int (r.den : Nat)]
/-- over and under of less than n bits -/
def BR (n : Nat) (r : Rat) : Prop := Bd n r.num ∧ Bd n ((r.den : Nat) : Int)
theorem BR.mono {n m : Nat} {r : Rat} (h : BR n r) (hm : n ≤ m) : BR m r := ⟨h.1.mono hm, h.2.mono hm⟩
theorem qR_inj {a b : Rat} (h : qR a = qR b) : a = b := by
  unfold qR at h
  simp only [D.tup.injEq, List.cons.injEq, D.int.injEq, and_true] at h
  exact Rat.ext h.1 (by omega)
theorem pyEq_qR (a b : Rat) : pyEq (qR a) (qR b) = decide (a = b) := by
  have e : pyEq (qR a) (qR b) = (decide (a.num = b.num) && (decide (((a.den : Nat) : Int) = (b.den : Nat)) && true)) := rfl
  rw [e, Bool.and_true]
  by_cases h : a = b
  · subst h; simp
  · rw [decide_eq_false h, Bool.and_eq_false_iff, decide_eq_false_iff_not, decide_eq_false_iff_not]
    by_cases h1 : a.num = b.num
    · right; intro h2; exact h (Rat.ext h1 (by omega))
    · left; exact h1
theorem pl_qR {r : Rat} {n : Nat} : D.pl (n + 1) (qR r) := pl_tup fun d hd => by
  simp only [List.mem_cons, List.not_mem_nil, or_false] at hd
  rcases hd with rfl | rfl <;> exact pl_int
theorem qR_ok {r : Rat} : (qR r).eqOk := (pl_qR (n := 0)).ok (by decide)
theorem sg_sign {b : Int} (h : b ≠ 0) : sg b = b.sign := by
  unfold sg
  split
  · exact (Int.sign_eq_neg_one_of_neg (by assumption)).symm
  · exact (Int.sign_eq_one_of_pos (by omega)).symm
theorem qD_red {a b : Int} (h : b ≠ 0) : qD (red a b) = qR (Rat.divInt a b) := by
  unfold qD qR red
  simp only
  have e1 : rn a b = (Rat.divInt a b).num := by
    unfold rn
    rw [Rat.num_divInt, sg_sign h, Int.gcd_comm b a, Int.mul_ediv_assoc _ (Int.gcd_dvd_left ..)]
  have e2 : rd a b = ((Rat.divInt a b).den : Nat) := by
    unfold rd
    rw [Rat.den_divInt, if_neg h, sg_sign h, Int.gcd_comm b a, ← Int.mul_ediv_assoc _ (Int.gcd_dvd_right ..), Int.sign_mul_self]
    rfl
  rw [e1, e2]
theorem BR.red {n : Nat} {a b : Int} (h : b ≠ 0) (ha : Bd n a) (hb : Bd n b) : BR n (Rat.divInt a b) := by
  have r := red_rat h ha hb
  have e := qD_red (a := a) h
  unfold qD qR at e
  simp only [D.tup.injEq, List.cons.injEq, D.int.injEq, and_true] at e
  exact ⟨by rw [← e.1]; exact r.b1, by rw [← e.2]; exact r.b2⟩
theorem den_ne (r : Rat) : ((r.den : Nat) : Int) ≠ 0 := by have := r.den_nz; omega
theorem den_pos' (r : Rat) : 0 < ((r.den : Nat) : Int) := by have := r.den_nz; omega
theorem dens_ne (a b : Rat) : ((a.den : Nat) : Int) * (b.den : Nat) ≠ 0 := Int.mul_ne_zero (den_ne a) (den_ne b)
theorem add_di (a b : Rat) : Rat.divInt (a.num * b.den + b.num * a.den) (a.den * b.den) = a + b := by
  conv => rhs; rw [← Rat.num_divInt_den a, ← Rat.num_divInt_den b, Rat.divInt_add_divInt _ _ (den_ne a) (den_ne b)]
theorem sub_di (a b : Rat) : Rat.divInt (a.num * b.den - b.num * a.den) (a.den * b.den) = a - b := by
  conv => rhs; rw [← Rat.num_divInt_den a, ← Rat.num_divInt_den b, Rat.divInt_sub_divInt _ _ (den_ne a) (den_ne b)]
theorem mul_di (a b : Rat) : Rat.divInt (a.num * b.num) (a.den * b.den) = a * b := by
  conv => rhs; rw [← Rat.num_divInt_den a, ← Rat.num_divInt_den b, Rat.divInt_mul_divInt]
theorem div_di (a b : Rat) : Rat.divInt (a.num * b.den) (a.den * b.num) = a / b := by
  rw [Rat.div_def]
  conv => rhs; rw [← Rat.num_divInt_den a, ← Rat.num_divInt_den b, Rat.inv_divInt, Rat.divInt_mul_divInt]
theorem BR.add {n m : Nat} {a b : Rat} (h : BR n a) (g : BR m b) : BR (n + m + 1) (a + b) := by
  rw [← add_di]
  exact BR.red (dens_ne a b) ((h.1.mul g.2).add ((g.1.mul h.2).mono (by omega))) ((h.2.mul g.2).mono (by omega))
theorem BR.mul {n m : Nat} {a b : Rat} (h : BR n a) (g : BR m b) : BR (n + m) (a * b) := by
  rw [← mul_di]
  exact BR.red (dens_ne a b) (h.1.mul g.1) (h.2.mul g.2)
theorem BR.neg {n : Nat} {a : Rat} (h : BR n a) : BR n (-a) := ⟨h.1.neg, h.2⟩
theorem BR.sub {n m : Nat} {a b : Rat} (h : BR n a) (g : BR m b) : BR (n + m + 1) (a - b) := by
  rw [Rat.sub_eq_add_neg]
  exact h.add g.neg
theorem num_ne {a : Rat} (h : a ≠ 0) : a.num ≠ 0 := fun e => h (Rat.num_eq_zero.mp e)
theorem BR.div {n m : Nat} {a b : Rat} (h : BR n a) (g : BR m b) (h0 : b ≠ 0) : BR (n + m) (a / b) := by
  rw [← div_di]
  exact BR.red (Int.mul_ne_zero (den_ne a) (num_ne h0)) (h.1.mul g.2) (h.2.mul g.1)
theorem BR.zero {n : Nat} (h : 1 ≤ n := by decide) : BR n 0 := (show BR 1 0 from ⟨by unfold Bd; decide, by unfold Bd; decide⟩).mono h
theorem BR.one {n : Nat} (h : 1 ≤ n := by decide) : BR n 1 := (show BR 1 1 from ⟨by unfold Bd; decide, by unfold Bd; decide⟩).mono h
theorem BR.mone {n : Nat} (h : 1 ≤ n := by decide) : BR n (-1) := (BR.one (n := n) h).neg
theorem BR.int {n : Nat} {i : Int} (h : Bd n i) (hn : 1 ≤ n := by decide) : BR n (i : Rat) := ⟨h, (show Bd 1 1 by unfold Bd; decide).mono hn⟩
theorem qR_neg (a : Rat) : qR (-a) = .tup [.int (-a.num), .int (a.den : Nat)] := rfl
theorem qR_zero : qR 0 = .tup [.int 0, .int 1] := rfl
theorem qR_one : qR 1 = .tup [.int 1, .int 1] := rfl
theorem qR_mone : qR (-1) = .tup [.int (-1), .int 1] := rfl
theorem qR_int (i : Int) : qR (i : Rat) = .tup [.int i, .int 1] := rfl
theorem divInt_one (i : Int) : Rat.divInt i 1 = (i : Rat) := by
  have := Rat.num_divInt_den (i : Rat)
  simpa using this
def absR (a : Rat) : Rat := if a < 0 then -a else a
theorem num_neg_iff {a : Rat} : a.num < 0 ↔ a < 0 := by
  rw [← Int.not_le, Rat.num_nonneg, Rat.not_le]
theorem num_pos_iff {a : Rat} : 0 < a.num ↔ 0 < a := by
  constructor
  · intro h
    have h1 : 0 ≤ a := Rat.num_nonneg.mp (by omega)
    exact Rat.lt_of_le_of_ne h1 fun e => by rw [← e] at h; exact absurd h (by decide)
  · intro h
    have h1 : 0 ≤ a.num := Rat.num_nonneg.mpr (Rat.le_of_lt h)
    have h2 : a.num ≠ 0 := fun e => by rw [Rat.num_eq_zero.mp e] at h; exact Rat.lt_irrefl h
    omega
theorem num_zero_iff {a : Rat} : a.num = 0 ↔ a = 0 := Rat.num_eq_zero
theorem qR_abs (a : Rat) : qR (absR a) = .tup [.int (if a.num < 0 then -a.num else a.num), .int (a.den : Nat)] := by
  unfold absR
  by_cases h : a < 0
  · rw [if_pos h, if_pos (num_neg_iff.mpr h)]; rfl
  · rw [if_neg h, if_neg (fun x => h (num_neg_iff.mp x))]; rfl
theorem BR.abs {n : Nat} {a : Rat} (h : BR n a) : BR n (absR a) := by
  unfold absR
  split
  · exact h.neg
  · exact h
def cmpR (a b : Rat) : Int := if a < b then -1 else if b < a then 1 else 0
theorem gapR (a b : Rat) : sgnI (a.num * b.den - b.num * a.den) = cmpR a b := by
  unfold cmpR sgnI
  have h1 := Rat.lt_iff a b
  have h2 := Rat.lt_iff b a
  by_cases h : a < b
  · rw [if_pos h, if_neg (by have := h1.mp h; omega), if_pos (by have := h1.mp h; omega)]
  · rw [if_neg h]
    by_cases g : b < a
    · rw [if_pos g, if_pos (by have := h2.mp g; omega)]
    · rw [if_neg g]
      have n1 : ¬ a.num * b.den < b.num * a.den := fun x => h (h1.mpr x)
      have n2 : ¬ b.num * a.den < a.num * b.den := fun x => g (h2.mpr x)
      rw [if_neg (by omega), if_neg (by omega)]
theorem cmpR_zero {a b : Rat} : cmpR a b = 0 ↔ a = b := by
  unfold cmpR
  constructor
  · intro h
    split at h
    · cases h
    · split at h
      · cases h
      · grind
  · rintro rfl
    rw [if_neg Rat.lt_irrefl, if_neg Rat.lt_irrefl]
theorem cmpR_neg {a b : Rat} : cmpR a b < 0 ↔ a < b := by
  unfold cmpR
  constructor
  · intro h
    split at h
    · assumption
    · split at h <;> omega
  · intro h; rw [if_pos h]; decide
def rowR (ps : List Rat) : D := .tup (ps.map qR)
theorem pl_rowR {n : Nat} {ps : List Rat} : D.pl (n + 2) (rowR ps) := pl_tup fun d hd => by
  obtain ⟨p, _, rfl⟩ := List.mem_map.mp hd
  exact pl_qR
theorem rowR_ok {ps : List Rat} : (rowR ps).eqOk := (pl_rowR (n := 0)).ok (by decide)
theorem pyEqs_map {α : Type} (f : α → D) (h : ∀ a b, pyEq (f a) (f b) = true ↔ a = b) : ∀ xs ys : List α, pyEqs (xs.map f) (ys.map f) = true ↔ xs = ys
  | [], [] => by simp [pyEqs]
  | [], _ :: _ => by simp [pyEqs]
  | _ :: _, [] => by simp [pyEqs]
  | x :: xs, y :: ys => by
    simp only [List.map_cons, pyEqs, Bool.and_eq_true, h, pyEqs_map f h xs ys, List.cons.injEq]
theorem pyEq_rowR {xs ys : List Rat} : pyEq (rowR xs) (rowR ys) = true ↔ xs = ys := pyEqs_map qR (fun a b => by rw [pyEq_qR, decide_eq_true_eq]) xs ys
/-- a number's judgement -/
theorem dNum_qR (r : Rat) : dNum (qR r) = true := by
  unfold dNum qR
  simp only [Bool.and_eq_true, decide_eq_true_eq]
  exact ⟨den_pos' r, by have := r.reduced; unfold Nat.Coprime at this; simpa [Int.gcd] using this⟩
theorem num_rat {d : D} (h : dNum d = true) : ∃ r : Rat, d = qR r := by
  obtain ⟨a, b, rfl, h1, h2⟩ := num_ints h
  refine ⟨⟨a, b.toNat, by omega, ?_⟩, ?_⟩
  · unfold Nat.Coprime
    have : b.natAbs = b.toNat := by omega
    rw [← this]
    exact h2
  · unfold qR
    simp only [D.tup.injEq, List.cons.injEq, D.int.injEq, and_true, true_and]
    omega
end G

namespace G
open PySem PySem.Spec PyProof.Rows L2
/-! ### names in order -/
theorem Str.ext' {a b : Str} (h : a.cps.toList = b.cps.toList) : a = b := by
  cases a; cases b
  simp only at h
  rw [Array.ext' h]
theorem strLt_irrefl (a : Str) : strLt a a = false := by unfold strLt; exact decide_eq_false (List.lt_irrefl _)
theorem strLt_trans {a b c : Str} (h : strLt a b = true) (g : strLt b c = true) : strLt a c = true := by
  unfold strLt at *
  exact decide_eq_true (List.lt_trans (of_decide_eq_true h) (of_decide_eq_true g))
theorem strLt_asymm {a b : Str} (h : strLt a b = true) : strLt b a = false := by
  cases e : strLt b a with
  | false => rfl
  | true => exact absurd (strLt_trans h e) (by rw [strLt_irrefl]; decide)
theorem strLt_tri {a b : Str} (h : strLt a b = false) (g : strLt b a = false) : a = b := by
  unfold strLt at *
  exact Str.ext' (List.le_antisymm (of_decide_eq_false g) (of_decide_eq_false h))
theorem strLt_ne {a b : Str} (h : strLt a b = true) : a ≠ b := fun e => by rw [e, strLt_irrefl] at h; cases h
/-- all behind are greater -/
def allGt (a : Str) (l : List Str) : Prop := ∀ b ∈ l, strLt a b = true
theorem rising_cons {a : Str} : ∀ {l : List Str}, rising (a :: l) = true ↔ allGt a l ∧ rising l = true
  | [] => by simp [rising, allGt]
  | b :: r => by
    have ih := rising_cons (a := b) (l := r)
    show (strLt a b && rising (b :: r)) = true ↔ _
    rw [Bool.and_eq_true, ih]
    constructor
    · rintro ⟨h1, h2, h3⟩
      refine ⟨fun c hc => ?_, h2, h3⟩
      rcases List.mem_cons.mp hc with rfl | hc
      · exact h1
      · exact strLt_trans h1 (h2 c hc)
    · rintro ⟨h1, h2, h3⟩
      exact ⟨h1 b (List.mem_cons_self ..), h2, h3⟩
theorem rising_nodup : ∀ {l : List Str}, rising l = true → l.Nodup
  | [], _ => List.nodup_nil
  | a :: r, h => by
    obtain ⟨h1, h2⟩ := rising_cons.mp h
    exact List.nodup_cons.mpr ⟨fun hm => Bool.noConfusion ((strLt_irrefl a).symm.trans (h1 a hm)), rising_nodup h2⟩
theorem rising_unique : ∀ {xs ys : List Str}, rising xs = true → rising ys = true → (∀ n, n ∈ xs ↔ n ∈ ys) → xs = ys
  | [], [], _, _, _ => rfl
  | [], y :: ys, _, _, h => absurd ((h y).mpr (List.mem_cons_self ..)) (by simp)
  | x :: xs, [], _, _, h => absurd ((h x).mp (List.mem_cons_self ..)) (by simp)
  | x :: xs, y :: ys, hx, hy, h => by
    obtain ⟨x1, x2⟩ := rising_cons.mp hx
    obtain ⟨y1, y2⟩ := rising_cons.mp hy
    have e : x = y := by
      rcases List.mem_cons.mp ((h x).mp (List.mem_cons_self ..)) with e | hm
      · exact e
      · rcases List.mem_cons.mp ((h y).mpr (List.mem_cons_self ..)) with e | hm2
        · exact e.symm
        · have := strLt_asymm (y1 x hm)
          rw [x1 y hm2] at this
          cases this
    subst e
    refine congrArg _ (rising_unique x2 y2 fun n => ?_)
    have := h n
    simp only [List.mem_cons] at this
    constructor
    · intro hn
      rcases this.mp (.inr hn) with e | hm
      · subst e; have := x1 n hn; rw [strLt_irrefl] at this; cases this
      · exact hm
    · intro hn
      rcases this.mpr (.inr hn) with e | hm
      · subst e; have := y1 n hn; rw [strLt_irrefl] at this; cases this
      · exact hm
theorem risingS_iff : ∀ {x : Str} {l : List Str}, risingS x l = true → l.Nodup → x ∉ l → rising (x :: l) = true
  | x, [], _, _, _ => rfl
  | x, y :: r, h, n, hx => by
    unfold risingS at h
    simp only [Bool.and_eq_true, Bool.not_eq_true', ltCps_eq] at h
    obtain ⟨n1, n2⟩ := List.nodup_cons.mp n
    have ih := risingS_iff h.2 n2 n1
    unfold rising
    rw [ih, Bool.and_true]
    cases e : strLt x y with
    | true => rfl
    | false => exact absurd (strLt_tri e h.1) (fun e => hx (by rw [e]; exact List.mem_cons_self ..))
theorem sortedS_rising {l : List Str} (h : sortedS l = true) (n : l.Nodup) : rising l = true := by
  cases l with
  | nil => rfl
  | cons x r => exact risingS_iff h (List.nodup_cons.mp n).2 (List.nodup_cons.mp n).1
/-- a name put into rising names -/
def insN (n : Str) : List Str → List Str
  | [] => [n]
  | a :: r => if strLt n a then n :: a :: r else if n = a then a :: r else a :: insN n r
theorem insN_mem {n x : Str} : ∀ {l : List Str}, x ∈ insN n l ↔ x = n ∨ x ∈ l
  | [] => by simp [insN]
  | a :: r => by
    unfold insN
    split
    · simp
    · split
      · rename_i h; subst h; simp
      · rw [List.mem_cons, insN_mem, List.mem_cons]
        constructor
        · rintro (h | h | h)
          · exact .inr (.inl h)
          · exact .inl h
          · exact .inr (.inr h)
        · rintro (h | h | h)
          · exact .inr (.inl h)
          · exact .inl h
          · exact .inr (.inr h)
theorem insN_rising {n : Str} : ∀ {l : List Str}, rising l = true → rising (insN n l) = true
  | [], _ => rfl
  | a :: r, h => by
    obtain ⟨h1, h2⟩ := rising_cons.mp h
    unfold insN
    split
    · rename_i e
      refine rising_cons.mpr ⟨fun b hb => ?_, h⟩
      rcases List.mem_cons.mp hb with rfl | hb
      · exact e
      · exact strLt_trans e (h1 b hb)
    · split
      · exact h
      · rename_i e1 e2
        refine rising_cons.mpr ⟨fun b hb => ?_, insN_rising h2⟩
        rcases insN_mem.mp hb with rfl | hb
        · cases e3 : strLt a b with
          | true => rfl
          | false => exact absurd (strLt_tri (by simpa using e1) e3) e2
        · exact h1 b hb
/-- the names, rising, each once -/
def sortN : List Str → List Str
  | [] => []
  | n :: r => insN n (sortN r)
theorem sortN_rising : ∀ l : List Str, rising (sortN l) = true
  | [] => rfl
  | _ :: r => insN_rising (sortN_rising r)
theorem sortN_mem {x : Str} : ∀ {l : List Str}, x ∈ sortN l ↔ x ∈ l
  | [] => by simp [sortN]
  | n :: r => by unfold sortN; rw [insN_mem, sortN_mem, List.mem_cons]
theorem sortN_of {xs ys : List Str} (n : ys.Nodup) (h : sortedS ys = true) (hm : ∀ x, x ∈ ys ↔ x ∈ xs) : ys = sortN xs :=
  rising_unique (sortedS_rising h n) (sortN_rising xs) fun x => by rw [hm, sortN_mem]
/-! ### pairs of names and numbers -/
abbrev Parts := List (Str × Rat)
def coef : Parts → Str → Rat
  | [], _ => 0
  | p :: r, n => (if p.1 = n then p.2 else 0) + coef r n
theorem coef_append : ∀ (ps qs : Parts) (n : Str), coef (ps ++ qs) n = coef ps n + coef qs n
  | [], qs, n => by simp [coef, Rat.zero_add]
  | p :: r, qs, n => by
    show _ + coef (r ++ qs) n = _ + coef r n + coef qs n
    rw [coef_append r qs n, Rat.add_assoc]
theorem coef_none {ps : Parts} {n : Str} (h : n ∉ ps.map (·.1)) : coef ps n = 0 := by
  induction ps with
  | nil => rfl
  | cons p r ih =>
    simp only [List.map_cons, List.mem_cons, not_or] at h
    show _ + coef r n = 0
    rw [ih h.2, if_neg (fun e => h.1 e.symm), Rat.add_zero]
def names (ps : Parts) : List Str := sortN (ps.map (·.1))
/-- added up, noughts left out, in order -/
def formOf (ps : Parts) : Parts := ((names ps).filter fun n => coef ps n ≠ 0).map fun n => (n, coef ps n)
def FormOk (f : Parts) : Prop := rising (f.map (·.1)) = true ∧ ∀ p ∈ f, p.2 ≠ 0
theorem filter_rising {p : Str → Bool} : ∀ {l : List Str}, rising l = true → rising (l.filter p) = true
  | [], _ => rfl
  | a :: r, h => by
    obtain ⟨h1, h2⟩ := rising_cons.mp h
    rw [List.filter_cons]
    split
    · exact rising_cons.mpr ⟨fun b hb => h1 b (List.mem_filter.mp hb).1, filter_rising h2⟩
    · exact filter_rising h2
theorem formOf_names (ps : Parts) : (formOf ps).map (·.1) = (names ps).filter fun n => coef ps n ≠ 0 := by
  unfold formOf
  rw [List.map_map]
  exact List.map_id _
theorem formOf_ok (ps : Parts) : FormOk (formOf ps) := by
  refine ⟨by rw [formOf_names]; exact filter_rising (sortN_rising _), fun p hp => ?_⟩
  unfold formOf at hp
  obtain ⟨n, hn, rfl⟩ := List.mem_map.mp hp
  simpa using (List.mem_filter.mp hn).2
theorem coef_map {f : Str → Rat} : ∀ {ns : List Str} {n : Str}, ns.Nodup → coef (ns.map fun n => (n, f n)) n = if n ∈ ns then f n else 0
  | [], n, _ => by simp [coef]
  | a :: r, n, h => by
    obtain ⟨h1, h2⟩ := List.nodup_cons.mp h
    show (if a = n then f a else 0) + coef (r.map fun n => (n, f n)) n = _
    rw [coef_map h2]
    by_cases e : a = n
    · subst e
      rw [if_pos rfl, if_neg h1, if_pos (List.mem_cons_self ..), Rat.add_zero]
    · rw [if_neg e, Rat.zero_add]
      by_cases hm : n ∈ r
      · rw [if_pos hm, if_pos (List.mem_cons_of_mem _ hm)]
      · rw [if_neg hm, if_neg (by simp [hm]; exact fun x => e x.symm)]
theorem names_mem {ps : Parts} {n : Str} : n ∈ names ps ↔ n ∈ ps.map (·.1) := sortN_mem
theorem coef_formOf (ps : Parts) (n : Str) : coef (formOf ps) n = coef ps n := by
  unfold formOf
  rw [coef_map (f := coef ps) (ns := (names ps).filter fun n => coef ps n ≠ 0) (n := n) ((rising_nodup (sortN_rising _)).filter _)]
  split
  · rfl
  · rename_i h
    by_cases h0 : coef ps n = 0
    · exact h0.symm
    · refine absurd (List.mem_filter.mpr ⟨?_, by simpa using h0⟩) h
      rw [names_mem]
      exact Classical.byContradiction fun x => h0 (coef_none x)
/-- a form is told by its numbers -/
theorem form_coefs : ∀ {f : Parts}, FormOk f → f = (f.map (·.1)).map fun n => (n, coef f n)
  | [], _ => rfl
  | p :: r, h => by
    obtain ⟨h1, h2⟩ := rising_cons.mp (show rising (p.1 :: r.map (·.1)) = true from h.1)
    have np : p.1 ∉ r.map (·.1) := fun hm => by have := h1 _ hm; rw [strLt_irrefl] at this; cases this
    have ih := form_coefs (f := r) ⟨h2, fun q hq => h.2 q (List.mem_cons_of_mem _ hq)⟩
    have e0 : coef (p :: r) p.1 = p.2 := by
      show (if p.1 = p.1 then p.2 else 0) + coef r p.1 = p.2
      rw [if_pos rfl, coef_none np, Rat.add_zero]
    have e1 : (r.map (·.1)).map (fun n => (n, coef (p :: r) n)) = (r.map (·.1)).map fun n => (n, coef r n) := by
      refine List.map_congr_left fun n hn => ?_
      have : p.1 ≠ n := fun e => np (by rw [e]; exact hn)
      show (n, (if p.1 = n then p.2 else 0) + coef r n) = _
      rw [if_neg this, Rat.zero_add]
    rw [List.map_cons, List.map_cons, e0, e1, ← ih]
theorem form_mem {f : Parts} (h : FormOk f) {n : Str} : n ∈ f.map (·.1) ↔ coef f n ≠ 0 := by
  constructor
  · intro hn
    obtain ⟨p, hp, rfl⟩ := List.mem_map.mp hn
    have h0 := h.2 p hp
    have e := form_coefs h
    rw [e] at hp
    obtain ⟨m, hm, rfl⟩ := List.mem_map.mp hp
    exact h0
  · exact fun h0 => Classical.byContradiction fun x => h0 (coef_none x)
theorem form_ext {f g : Parts} (hf : FormOk f) (hg : FormOk g) (h : ∀ n, coef f n = coef g n) : f = g := by
  have e : f.map (·.1) = g.map (·.1) := rising_unique hf.1 hg.1 fun n => by rw [form_mem hf, form_mem hg, h]
  rw [form_coefs hf, form_coefs hg, e]
  exact List.map_congr_left fun n _ => by rw [h]
theorem formOf_id {f : Parts} (h : FormOk f) : formOf f = f := form_ext (formOf_ok f) h fun n => coef_formOf f n
theorem coef_br {b : Nat} : ∀ {ps : Parts}, (∀ p ∈ ps, BR b p.2) → ∀ n, BR ((b + 2) * ps.length + 1) (coef ps n)
  | [], _, n => BR.zero (by omega)
  | p :: r, h, n => by
    have ih := coef_br (fun q hq => h q (List.mem_cons_of_mem _ hq)) n
    have h1 : BR (b + 1) (if p.1 = n then p.2 else 0) := by
      split
      · exact (h p (List.mem_cons_self ..)).mono (by omega)
      · exact BR.zero (by omega)
    refine (h1.add ih).mono ?_
    rw [List.length_cons, Nat.mul_succ]
    omega
/-! ### as data -/
def partD' (p : Str × Rat) : D := .tup [.str p.1, qR p.2]
def partsD (ps : Parts) : List D := ps.map partD'
abbrev Form := Parts × Rat
def formD (f : Form) : D := .tup [.tup (partsD f.1), qR f.2]
/-- names, each once, as they came -/
def addN (ks : List Str) (n : Str) : List Str := if n ∈ ks then ks else ks ++ [n]
theorem addN_mem {ks : List Str} {n x : Str} : x ∈ addN ks n ↔ x ∈ ks ∨ x = n := by
  unfold addN
  split
  · rename_i h
    constructor
    · exact .inl
    · rintro (h' | rfl)
      · exact h'
      · exact h
  · simp
theorem addN_nodup {ks : List Str} {n : Str} (h : ks.Nodup) : (addN ks n).Nodup := by
  unfold addN
  split
  · exact h
  · rename_i hn
    refine List.nodup_append.mpr ⟨h, by simp, fun a ha b hb => ?_⟩
    simp only [List.mem_singleton] at hb
    subst hb
    exact fun e => hn (by rw [← e]; exact ha)
theorem addN_len {ks : List Str} {n : Str} : (addN ks n).length ≤ ks.length + 1 := by
  unfold addN
  split <;> simp
theorem hasK_str {ks : List Str} {n : Str} : hasK (ks.map Sum.inr) (Sum.inr n) = decide (n ∈ ks) := by
  unfold hasK
  induction ks with
  | nil => rfl
  | cons a r ih =>
    rw [List.map_cons, List.any_cons, ih]
    by_cases e : a = n
    · subst e; simp
    · have : ¬ ((Sum.inr a : Key) = Sum.inr n) := fun x => e (by cases x; rfl)
      rw [decide_eq_false this, Bool.false_or]
      by_cases hm : n ∈ r
      · rw [decide_eq_true hm, decide_eq_true (List.mem_cons_of_mem _ hm)]
      · rw [decide_eq_false hm, decide_eq_false (by simp [hm]; exact fun x => e x.symm)]
theorem putKs_str {ks : List Str} {n : Str} : putKs (ks.map Sum.inr) (Sum.inr n) = (addN ks n).map Sum.inr := by
  unfold putKs addN
  rw [hasK_str]
  by_cases h : n ∈ ks
  · rw [if_pos (decide_eq_true h), if_pos h]
  · rw [if_neg (by simpa using h), if_neg h, List.map_append]; rfl
theorem putVs_str {ks : List Str} {n : Str} {f : Str → D} {v : D} : putVs (ks.map Sum.inr) (ks.map f) (Sum.inr n) v = (addN ks n).map fun k => if k = n then v else f k := by
  unfold putVs addN
  rw [hasK_str]
  by_cases h : n ∈ ks
  · rw [if_pos (decide_eq_true h), if_pos h]
    clear h
    induction ks with
    | nil => rfl
    | cons a r ih =>
      simp only [List.map_cons, List.zip_cons_cons]
      rw [ih]
      congr 1
      by_cases e : a = n
      · subst e; simp
      · have : ¬ ((Sum.inr a : Key) = Sum.inr n) := fun x => e (by cases x; rfl)
        rw [if_neg this, if_neg e]
  · rw [if_neg (by simpa using h), if_neg h, List.map_append]
    congr 1
    · refine List.map_congr_left fun k hk => ?_
      rw [if_neg (fun e => h (by rw [← e]; exact hk))]
    · simp
theorem lookD_str {f : Str → D} {n : Str} : ∀ {ks : List Str}, lookD (ks.map Sum.inr) (ks.map f) (Sum.inr n) = if n ∈ ks then some (f n) else none
  | [] => rfl
  | a :: r => by
    simp only [List.map_cons, lookD]
    by_cases e : a = n
    · subst e; simp
    · have : ¬ ((Sum.inr a : Key) = Sum.inr n) := fun x => e (by cases x; rfl)
      rw [if_neg this, lookD_str]
      by_cases hm : n ∈ r
      · rw [if_pos hm, if_pos (List.mem_cons_of_mem _ hm)]
      · rw [if_neg hm, if_neg (by simp [hm]; exact fun x => e x.symm)]
/-- a dict from names -/
def dictN (ks : List Str) (f : Str → D) : D := .dic (ks.map Sum.inr) (ks.map f)
end G

namespace G
open PySem PySem.Spec PyProof.Rows L2
theorem compD_selOn {α : Type} {mg : MG} {mt : MT} {me : ME} {ε : Env} {Q : List D → Prop} (g : α → D) (p : α → Bool) (f : α → D) (xs : List α)
    (h : ∀ x ∈ xs, ∀ (K : D → Prop) (L : Prop), (p x = true → K (f x)) → (p x = false → L) → mg (g x) ε fun ε1 => mt ε1 (fun b => if b = true then me ε1 (onD K) (fun _ => False) else L) fun _ => False)
    (q : Q ((xs.filter p).map f)) : compD mg mt me ε Q (xs.map g) [] := by
  have aux : ∀ (xs : List α) (acc : List D), (∀ x ∈ xs, ∀ (K : D → Prop) (L : Prop), (p x = true → K (f x)) → (p x = false → L) → mg (g x) ε fun ε1 => mt ε1 (fun b => if b = true then me ε1 (onD K) (fun _ => False) else L) fun _ => False) →
      Q (acc ++ (xs.filter p).map f) → compD mg mt me ε Q (xs.map g) acc := by
    intro xs
    induction xs with
    | nil => intro acc _ q; simpa [compD] using q
    | cons x xs ih =>
      intro acc h q
      rw [List.map_cons]
      unfold compD
      refine h x (List.mem_cons_self ..) _ _ (fun e => ih _ (fun y hy => h y (List.mem_cons_of_mem _ hy)) ?_) fun e => ih _ (fun y hy => h y (List.mem_cons_of_mem _ hy)) ?_
      · rw [List.filter_cons_of_pos e, List.map_cons] at q
        simpa using q
      · rw [List.filter_cons_of_neg (by simp [e])] at q
        exact q
  exact aux xs [] h (by simpa using q)
/-- a for over what a list of one's own makes, by the part gone through -/
theorem forD_on {α : Type} (g : α → D) {mg : MG} {mb : MS} {De : EndsD} (I : List α → Env → Prop) (xs : List α) (ε : Env) (h0 : I [] ε)
    (hs : ∀ (pre : List α) (x : α) (post : List α) (ε : Env) (F : Env → Prop), xs = pre ++ x :: post → I pre ε → (∀ ε', I (pre ++ [x]) ε' → F ε') → mg (g x) ε fun ε1 => mb { De with nx := F, ct := F, bk := De.nx } ε1)
    (hd : ∀ ε, I xs ε → De.nx ε) : forD mg mb De (xs.map g) ε := by
  have aux : ∀ (post pre : List α) (ε : Env), xs = pre ++ post → I pre ε → forD mg mb De (post.map g) ε := by
    intro post
    induction post with
    | nil => intro pre ε e hi; rw [List.append_nil] at e; subst e; exact hd ε hi
    | cons x post ih =>
      intro pre ε e hi
      rw [List.map_cons]
      unfold forD
      exact hs pre x post ε _ e hi fun ε' h => ih (pre ++ [x]) ε' (by rw [e]; simp) h
  exact aux xs [] ε rfl h0
/-! ### numbers that fit -/
/-- the pairs' numbers are small enough to be added up -/
def FitP (ps : Parts) : Prop := ps.length < 64 ∧ ∃ b, (∀ p ∈ ps, BR b p.2) ∧ (b + 2) * ps.length + 1 ≤ 2999
theorem FitP.coef {ps : Parts} (h : FitP ps) {pre post : Parts} (e : ps = pre ++ post) (n : Str) : BR 3000 (coef pre n) := by
  obtain ⟨_, b, h1, h2⟩ := h
  have := coef_br (b := b) (ps := pre) (fun p hp => h1 p (by rw [e]; exact List.mem_append_left _ hp)) n
  refine this.mono ?_
  have l : pre.length ≤ ps.length := by rw [e]; simp
  have := Nat.mul_le_mul_left (b + 2) l
  omega
theorem FitP.num {ps : Parts} (h : FitP ps) {p : Str × Rat} (hp : p ∈ ps) : BR 3000 p.2 := by
  obtain ⟨_, b, h1, h2⟩ := h
  refine (h1 p hp).mono ?_
  have : 1 ≤ ps.length := List.length_pos_of_mem hp
  have := Nat.mul_le_mul_left (b + 2) this
  omega
theorem FitP.of {ps : Parts} (b : Nat) (h : ∀ p ∈ ps, BR b p.2) (k : Nat) (hk : ps.length ≤ k) (h2 : (b + 2) * k + 1 ≤ 2999 ∧ k < 64 := by decide) : FitP ps :=
  ⟨by omega, b, h, by have := Nat.mul_le_mul_left (b + 2) hk; omega⟩
def seqD (b : Bool) (ds : List D) : D := if b then .tup ds else .lst ds
theorem partsD_oks {ps : Parts} (h : D.oks (partsD ps)) : ∀ p ∈ ps, p.1.length ≤ sizeLine := by
  intro p hp
  induction ps with
  | nil => cases hp
  | cons q r ih =>
    simp only [partsD, List.map_cons, D.oks, partD', D.ok] at h
    rcases List.mem_cons.mp hp with rfl | hp
    · exact h.1.2.1
    · exact ih h.2 hp
theorem partsD_ok {b : Bool} {ps : Parts} (h : (seqD b (partsD ps)).ok) : ∀ p ∈ ps, p.1.length ≤ sizeLine :=
  partsD_oks (by cases b <;> (simp only [seqD, Bool.false_eq_true, if_false, if_true, D.ok] at h; exact h.2))
theorem names_of {ps : Parts} {ks ys : List Str} (hn : ks.Nodup) (hm : ∀ n, n ∈ ks ↔ n ∈ ps.map (·.1)) (hp : ys.Perm ks) (hs : sortedS ys = true) : ys = names ps :=
  sortN_of (hp.nodup_iff.mpr hn) hs fun x => by rw [hp.mem_iff, hm]
theorem partsD_formOf (ps : Parts) : partsD (formOf ps) = ((names ps).filter fun n => decide (coef ps n ≠ 0)).map fun n => .tup [.str n, qR (coef ps n)] := by
  unfold partsD formOf
  rw [List.map_map]
  rfl
theorem coef_step {pre : Parts} {p : Str × Rat} {k : Str} : coef (pre ++ [p]) k = if k = p.1 then coef pre p.1 + p.2 else coef pre k := by
  rw [coef_append]
  show _ + ((if p.1 = k then p.2 else 0) + 0) = _
  by_cases e : k = p.1
  · subst e; rw [if_pos rfl, if_pos rfl, Rat.add_zero]
  · rw [if_neg (fun x => e x.symm), if_neg e, Rat.add_zero, Rat.add_zero]
theorem dict_step {ks : List Str} {pre : Parts} {p : Str × Rat} : D.dic (putKs (ks.map Sum.inr) (Sum.inr p.1)) (putVs (ks.map Sum.inr) (ks.map fun n => qR (coef pre n)) (Sum.inr p.1) (qR (coef pre p.1 + p.2))) = dictN (addN ks p.1) fun n => qR (coef (pre ++ [p]) n) := by
  unfold dictN
  rw [putKs_str, putVs_str]
  congr 1
  refine List.map_congr_left fun k _ => ?_
  rw [coef_step]
  split <;> rfl
theorem get_coef {ks : List Str} {pre : Parts} {n : Str} (hm : ∀ n, n ∈ ks ↔ n ∈ pre.map (·.1)) : (lookD (ks.map Sum.inr) (ks.map fun n => qR (coef pre n)) (Sum.inr n)).getD (.tup [.int 0, .int 1]) = qR (coef pre n) := by
  rw [lookD_str (f := fun n => qR (coef pre n))]
  split
  · rfl
  · rename_i h
    rw [coef_none (fun x => h ((hm n).mpr x))]
    rfl
end G

namespace G
open PySem PySem.Spec PyProof.Rows L2
theorem parts_of {P : Str × Rat → Prop} : ∀ {ys : List D}, (∀ y ∈ ys, ∃ p, P p ∧ y = partD' p) → ∃ ps : Parts, ys = partsD ps ∧ ∀ p ∈ ps, P p
  | [], _ => ⟨[], rfl, by simp⟩
  | y :: ys, h => by
    obtain ⟨p, hp, rfl⟩ := h y (List.mem_cons_self ..)
    obtain ⟨ps, rfl, hps⟩ := parts_of fun z hz => h z (List.mem_cons_of_mem _ hz)
    refine ⟨p :: ps, rfl, fun q hq => ?_⟩
    rcases List.mem_cons.mp hq with rfl | hq
    · exact hp
    · exact hps q hq
/-- what a list of made things is, of things of one's own -/
theorem made_of {α : Type} {f : α → D} {P : α → Prop} : ∀ {ys : List D}, (∀ y ∈ ys, ∃ p, P p ∧ y = f p) → ∃ ps : List α, ys = ps.map f ∧ ∀ p ∈ ps, P p
  | [], _ => ⟨[], rfl, by simp⟩
  | y :: ys, h => by
    obtain ⟨p, hp, rfl⟩ := h y (List.mem_cons_self ..)
    obtain ⟨ps, rfl, hps⟩ := made_of fun z hz => h z (List.mem_cons_of_mem _ hz)
    refine ⟨p :: ps, rfl, fun q hq => ?_⟩
    rcases List.mem_cons.mp hq with rfl | hq
    · exact hp
    · exact hps q hq
theorem compD_made {α : Type} {mg : MG} {me : ME} {ε : Env} {Q : List D → Prop} (f : α → D) (P : α → Prop) (ds : List D) (h : ∀ d ∈ ds, ∀ K : D → Prop, (∀ x, P x → K (f x)) → mg d ε fun ε1 => me ε1 (onD K) fun _ => False)
    (q : ∀ xs : List α, xs.length = ds.length → (∀ x ∈ xs, P x) → Q (xs.map f)) : compD mg mYes me ε Q ds [] := by
  refine compD_rel (fun _ y => ∃ x, P x ∧ y = f x) ds [] (fun d hd K hK => h d hd K fun x hx => hK _ ⟨x, hx, rfl⟩) fun ys hl hy => ?_
  obtain ⟨xs, rfl, hxs⟩ := made_of fun y h => by obtain ⟨_, _, q⟩ := hy y h; exact q
  exact q xs (by simpa using hl) hxs
theorem insN_len {n : Str} : ∀ {l : List Str}, (insN n l).length ≤ l.length + 1
  | [] => by simp [insN]
  | a :: r => by
    have := @insN_len n r
    unfold insN
    split
    · simp
    · split
      · simp
      · simp; omega
theorem sortN_len : ∀ {l : List Str}, (sortN l).length ≤ l.length
  | [] => by simp [sortN]
  | a :: r => by
    have := @sortN_len r
    have := @insN_len a (sortN r)
    unfold sortN
    simp; omega
theorem formOf_len {ps : Parts} : (formOf ps).length ≤ ps.length := by
  have h1 := @sortN_len (ps.map (·.1))
  have h2 := List.length_filter_le (fun n => decide (coef ps n ≠ 0)) (names ps)
  unfold formOf
  rw [List.length_map]
  rw [List.length_map] at h1
  unfold names at h2
  unfold names
  omega
theorem formOf_mem {ps : Parts} {p : Str × Rat} (h : p ∈ formOf ps) : p.1 ∈ ps.map (·.1) ∧ p.2 = coef ps p.1 := by
  unfold formOf at h
  obtain ⟨n, hn, rfl⟩ := List.mem_map.mp h
  exact ⟨names_mem.mp (List.mem_filter.mp hn).1, rfl⟩
/-- a form over names, its numbers of less than n bits -/
structure GF (ns : List Str) (n : Nat) (f : Form) : Prop where
  ok : FormOk f.1
  nm : ∀ p ∈ f.1, p.1 ∈ ns
  br : ∀ p ∈ f.1, BR n p.2
  bc : BR n f.2
theorem subset_len : ∀ {l ns : List Str}, l.Nodup → (∀ x ∈ l, x ∈ ns) → l.length ≤ ns.length
  | [], _, _, _ => Nat.zero_le _
  | a :: r, ns, h, s => by
    obtain ⟨h1, h2⟩ := List.nodup_cons.mp h
    have := subset_len (l := r) (ns := ns.erase a) h2 fun x hx => (List.mem_erase_of_ne (fun e => h1 (by rw [← e]; exact hx))).mpr (s x (List.mem_cons_of_mem _ hx))
    rw [List.length_erase_of_mem (s a (List.mem_cons_self ..))] at this
    have := List.length_pos_of_mem (s a (List.mem_cons_self ..))
    simp only [List.length_cons]
    omega
theorem GF.len {ns : List Str} {n : Nat} {f : Form} (h : GF ns n f) : f.1.length ≤ ns.length := by
  have := subset_len (rising_nodup h.ok.1) (ns := ns) fun x hx => by
    obtain ⟨p, hp, rfl⟩ := List.mem_map.mp hx
    exact h.nm p hp
  simpa using this
theorem GF.mono {ns : List Str} {n m : Nat} {f : Form} (h : GF ns n f) (hm : n ≤ m) : GF ns m f := ⟨h.ok, h.nm, fun p hp => (h.br p hp).mono hm, h.bc.mono hm⟩
theorem GF.of {ns : List Str} {b k n : Nat} {ps : Parts} {c : Rat} (hn : ∀ p ∈ ps, p.1 ∈ ns) (hb : ∀ p ∈ ps, BR b p.2) (hk : ps.length ≤ k) (hc : BR n c) (hs : (b + 2) * k + 1 ≤ n) : GF ns n (formOf ps, c) := by
  refine ⟨formOf_ok ps, fun p hp => ?_, fun p hp => ?_, hc⟩
  · obtain ⟨q, hq, e⟩ := List.mem_map.mp (formOf_mem hp).1
    rw [← e]
    exact hn q hq
  · rw [(formOf_mem hp).2]
    refine (coef_br hb _).mono ?_
    have := Nat.mul_le_mul_left (b + 2) hk
    omega
/-- lines: a form and a sign -/
abbrev Line := Form × Bool
def signD (eq : Bool) : D := if eq then .str "=" else .str "<="
def lineD (l : Line) : D := .tup [formD l.1, signD l.2]
def GL (ns : List Str) (n : Nat) (l : Line) : Prop := GF ns n l.1
/-- texts that == serves -/
def goodT (x : Str) : Prop := PyData.canLay0 (.str x) = true
theorem cl_qR {n k : Nat} {r : Rat} (h : BR k r) (hk : k ≤ 1900 := by omega) : D.cl (n + 1) (qR r) := by
  unfold qR D.cl
  refine ⟨by simp, fun d hd => ?_⟩
  simp only [List.mem_cons, List.not_mem_nil, or_false] at hd
  rcases hd with rfl | rfl
  · unfold D.cl; exact h.1.mono hk
  · unfold D.cl; exact h.2.mono hk
theorem cl_tup {n : Nat} {ds : List D} (hl : ds.length < 1000) (h : ∀ d ∈ ds, D.cl n d) : D.cl (n + 1) (.tup ds) := by unfold D.cl; exact ⟨hl, h⟩
theorem cl_lst {n : Nat} {ds : List D} (hl : ds.length < 1000) (h : ∀ d ∈ ds, D.cl n d) : D.cl (n + 1) (.lst ds) := by unfold D.cl; exact ⟨hl, h⟩
theorem D.cl.mono : ∀ {n m : Nat} {d : D}, D.cl n d → n ≤ m → D.cl m d
  | _, _, .non, _, _ => by unfold D.cl; trivial
  | _, _, .bl _, h, _ => by unfold D.cl at h; exact h.elim
  | _, _, .int _, h, _ => by unfold D.cl at h ⊢; exact h
  | _, _, .str _, h, _ => by unfold D.cl at h ⊢; exact h
  | n + 1, m + 1, .tup ds, h, hm => by unfold D.cl at h ⊢; exact ⟨h.1, fun d hd => (h.2 d hd).mono (by omega)⟩
  | n + 1, m + 1, .lst ds, h, hm => by unfold D.cl at h ⊢; exact ⟨h.1, fun d hd => (h.2 d hd).mono (by omega)⟩
  | 0, _, .tup _, h, _ => by unfold D.cl at h; exact h.elim
  | 0, _, .lst _, h, _ => by unfold D.cl at h; exact h.elim
  | 0, _, .dic _ _, h, _ => by unfold D.cl at h; exact h.elim
  | n + 1, _, .dic _ _, h, _ => by unfold D.cl at h; exact h.elim
  | 0, _, .exc _, h, _ => by unfold D.cl at h; exact h.elim
  | n + 1, _, .exc _, h, _ => by unfold D.cl at h; exact h.elim
  | n + 1, 0, .tup _, h, hm => by omega
  | n + 1, 0, .lst _, h, hm => by omega
theorem cl_str {n : Nat} {x : Str} (h : goodT x) : D.cl n (.str x) := by unfold D.cl; exact h
theorem cl_non {n : Nat} : D.cl n .non := by unfold D.cl; trivial
theorem cl_int {n : Nat} {i : Int} (h : Bd 1900 i) : D.cl n (.int i) := by unfold D.cl; exact h
theorem cl_formD {ns : List Str} {k n : Nat} {f : Form} (h : GF ns k f) (hk : k ≤ 1900) (hn : ∀ x ∈ ns, goodT x) (hl : ns.length < 1000) : D.cl (n + 4) (formD f) := by
  have l := h.len
  refine cl_tup (by simp) fun d hd => ?_
  simp only [List.mem_cons, List.not_mem_nil, or_false] at hd
  rcases hd with rfl | rfl
  · refine cl_tup (by unfold partsD; rw [List.length_map]; omega) fun d hd => ?_
    obtain ⟨p, hp, rfl⟩ := List.mem_map.mp hd
    refine cl_tup (by simp) fun d hd => ?_
    simp only [List.mem_cons, List.not_mem_nil, or_false] at hd
    rcases hd with rfl | rfl
    · exact cl_str (hn _ (h.nm p hp))
    · exact cl_qR (h.br p hp) hk
  · exact (cl_qR (n := n + 2) h.bc hk)
theorem cl_lineD {ns : List Str} {k n : Nat} {l : Line} (h : GL ns k l) (hk : k ≤ 1900) (hn : ∀ x ∈ ns, goodT x) (hl : ns.length < 1000) : D.cl (n + 5) (lineD l) := by
  refine cl_tup (by simp) fun d hd => ?_
  simp only [List.mem_cons, List.not_mem_nil, or_false] at hd
  rcases hd with rfl | rfl
  · exact cl_formD h hk hn hl
  · unfold signD
    split
    · exact cl_str (by unfold goodT; decide +kernel)
    · exact cl_str (by unfold goodT; decide +kernel)
/- the sizes of what is displayed -/
/- a call whose answer is told by an existence -/
theorem pl_bls {n : Nat} {bs : List Bool} : D.pl (n + 1) (.lst (bs.map .bl)) := pl_lst fun d hd => by
  obtain ⟨b, _, rfl⟩ := List.mem_map.mp hd
  exact pl_bl
theorem min_le {a b : Int} : (if b < a then b else a) ≤ b := by split <;> omega
end G

namespace G
open PySem PySem.Spec PyProof.Rows L2
/-! ### a, b, .. = e1, e2, .. by a tuple -/
def evs : List ME → Env → (List IV → Prop) → (XC → Prop) → Prop
  | [], _, Q, _ => Q []
  | m :: ms, ε, Q, Ex => m ε (fun x => evs ms ε (fun xs => Q (x :: xs)) Ex) Ex
def putsE : List Nat → List IV → (Env → Prop) → Env → Prop
  | i :: is, x :: xs, P, ε => IV.put ε i (putsE is xs P) x
  | [], [], P, ε => P ε
  | _, _, _, _ => False
theorem putsE_mono {P P' : Env → Prop} (h : ∀ ε, P ε → P' ε) : ∀ (is : List Nat) (xs : List IV) (ε : Env), putsE is xs P ε → putsE is xs P' ε
  | [], [], ε, q => h ε q
  | i :: is, x :: xs, ε, q => put_mono (putsE_mono h is xs) x q
  | [], _ :: _, _, q => q
  | _ :: _, [], _, q => q
def setsV (σ : St) : List Nat → List V → St
  | i :: is, v :: vs => setsV (σ.set i (some v)) is vs
  | _, _ => σ
def mPars (is : List Nat) (ms : List ME) : MS := fun De ε => evs ms ε (fun xs => xs.length ≤ sizeLine ∧ putsE is xs De.nx ε) (fun c => De.ex c ε)
section
variable {X : Cx} {W : WX}
structure LiftN (X : Cx) (W : WX) (t : TA) (ms : List ME) (c : Nat) : Prop where
  mono : ∀ ε Q Q' Ex Ex', (∀ x, Q x → Q' x) → (∀ c, Ex c → Ex' c) → evs ms ε Q Ex → evs ms ε Q' Ex'
  run0 : ∀ B B1 Z T T' H0 ε σ ε1 σ1 H (is : List Nat) (P : Env → Prop) (L : List IV → Prop) (Q : List V → Hp → Prop) Ex, T + c ≤ T' → T' ≤ LIM → RE X.K B Z T H0 ε σ H → RE X.K B1 Z T H0 ε1 σ1 H → (∀ a, AvE B1 Z ε1 σ1 a → AvE B Z ε σ a) → XW X W Z T' σ H Ex →
    evs ms ε (fun xs => L xs ∧ putsE is xs P ε1) Ex → (∀ xs vs H' ε', L xs → xs.length = vs.length → Aft Z T' H H' → P ε' → vs.length = is.length → RE X.K B1 Z T' H0 ε' (setsV σ1 is vs) H' → Q vs H') → t σ H Q
theorem liftN_nil : LiftN X W tNil [] 0 := by
  refine ⟨fun _ _ _ _ _ hq _ q => hq _ q, fun B B1 Z T T' H0 ε σ ε1 σ1 H is P L Q Ex h1 h2 r r1 s hx q k => ?_⟩
  obtain ⟨l, q⟩ := q
  cases is with
  | nil => exact k [] [] H ε1 l rfl (r.aftRefl.up (by omega)) q rfl (r1.up (by omega))
  | cons i is => exact q.elim
theorem liftN_cons {ta : TE} {m : ME} {tr : TA} {ms : List ME} (la : LiftE X W ta m cla) (lb : LiftN X W tr ms clb) : LiftN X W (tCons ta tr) (m :: ms) (cla + clb) := by
  refine ⟨fun ε Q Q' Ex Ex' hq hx q => la.mono _ _ _ _ _ (fun x q => lb.mono _ _ _ _ _ (fun xs q => hq _ q) hx q) hx q, fun B B1 Z T T' H0 ε σ ε1 σ1 H is P L Q Ex h1 h2 r r1 s hx q k => ?_⟩
  refine la.run (T' := T + cla) B Z H0 ε σ H _ Ex r (hx.at (T + cla)) (la.mono _ _ _ _ _ (fun iv q v H1 a1 rv => ?_) (fun _ x => x) q) (by omega) (by omega)
  have ra := r.aft a1
  have rb := r1.aft a1
  cases is with
  | nil =>
    -- nothing is put
    have no : evs ms ε (fun _ => False) Ex := lb.mono _ _ _ _ _ (fun xs q => (show False from q.2)) (fun _ x => x) q
    exact lb.run0 B B1 Z _ T' H0 ε σ ε1 σ1 H1 [] P (fun _ => False) _ Ex (by omega) h2 ra rb s (hx.aft a1) (lb.mono _ _ _ _ _ (fun _ q => q.elim) (fun _ x => x) no) (fun _ _ _ _ l => l.elim)
  | cons i is =>
    have simple : ∀ x : SV, (∀ d, x ≠ .ow d) → RE X.K B1 Z (T + cla) H0 (ε1.set i x) (σ1.set i (some v)) H1 → evs ms ε (fun xs => L (iv :: xs) ∧ putsE is xs P (ε1.set i x)) Ex → tr σ H1 (fun vs H2 => Q (v :: vs) H2) := fun x hx' rx q => by
      refine lb.run0 B B1 Z _ T' H0 ε σ (ε1.set i x) (σ1.set i (some v)) H1 is P (fun xs => L (iv :: xs)) _ Ex (by omega) h2 ra rx (fun a h => s a (avE_set hx' h)) (hx.aft a1) q fun xs vs H' ε' l e a2 q' e2 r' => ?_
      exact k (iv :: xs) (v :: vs) H' ε' l (by simp [e]) (a1.trans a2) q' (by simp [e2]) r'
    cases iv with
    | fz d => exact simple (.fz d) (fun _ e => nomatch e) (rb.setFz (Rz.map (.of fun a o n x => ⟨fun z => n (s a z), x⟩) rv)) q
    | st => exact simple .st (fun _ e => nomatch e) (rb.setSt rv) q
    | bo d =>
      have no : evs ms ε (fun _ => False) Ex := lb.mono _ _ _ _ _ (fun xs q => (show False from q.2)) (fun _ x => x) q
      exact lb.run0 B B1 Z _ T' H0 ε σ ε1 σ1 H1 [] P (fun _ => False) _ Ex (by omega) h2 ra rb s (hx.aft a1) (lb.mono _ _ _ _ _ (fun _ q => q.elim) (fun _ x => x) no) (fun _ _ _ _ l => l.elim)
    | fr d =>
      obtain ⟨p, rfl, hn, ho⟩ := rv
      have hp1 : Lv H1 p := ho.trk
      have rB : RE X.K (fun a => B a ∨ a = p) Z (T + cla) H0 ε σ H1 := r.step a1 (fun a z => .inl z) (fun a z => z.elim .inl fun e => .inr (by rw [e]; exact hn)) fun a z => z.elim (ra.trk a) fun e => by rw [e]; exact hp1
      have f : Kp (fun a => AvE B Z ε σ a ∨ a = p) (fun a => AvE B1 Z ε1 σ1 a ∨ a = p) H1 H1 := .of fun a o n x => ⟨fun z => n (z.elim (fun z => .inl (s a z)) .inr), x⟩
      have r1' := r1.setOw a1 (i := i) (d := d) hn (ho.map f fun o x => x)
      refine lb.run0 (fun a => B a ∨ a = p) B1 Z _ T' H0 ε σ (ε1.set i (.ow d)) (σ1.set i (some (.ref p))) H1 is P (fun xs => L (.fr d :: xs)) _ Ex (by omega) h2 rB r1' (fun a h => ?_) (hx.aft a1) q fun xs vs H' ε' l e a2 q' e2 r' => ?_
      · have key : AvE B1 Z ε1 σ1 a ∨ a = p := by
          rcases h with h | h | ⟨j', d', e1, e2⟩
          · exact .inl (.inl h)
          · exact .inl (.inr (.inl h))
          · by_cases hj : i = j'
            · subst hj
              by_cases hl : i < σ1.length
              · rw [List.getElem?_set_self hl] at e2
                cases e2; exact .inr rfl
              · rw [List.getElem?_eq_none (by simpa using hl)] at e2; cases e2
            · rw [List.getElem?_set_ne hj] at e1 e2
              exact .inl (.inr (.inr ⟨j', d', e1, e2⟩))
        rcases key with h | h
        · rcases s a h with h | h | h
          · exact .inl (.inl h)
          · exact .inr (.inl h)
          · exact .inr (.inr h)
        · exact .inl (.inr h)
      · exact k (.fr d :: xs) (.ref p :: vs) H' ε' l (by simp [e]) (a1.trans a2) q' (by simp [e2]) r'
def DN (X : Cx) (W : WX) (es : List Expr) (ms : List ME) (c : Nat) : Prop := ∃ t, PA X es t ∧ LiftN X W t ms c
theorem dn_nil : DN X W [] [] 0 := ⟨_, pa_nil, liftN_nil⟩
theorem dn_cons {e : Expr} {es : List Expr} {m : ME} {ms : List ME} (ha : DE X W e m cha) (hb : DN X W es ms chb) (hs : starEach (e :: es) X.env = (false, eval e X.env) :: starEach es X.env := by rfl) : DN X W (e :: es) (m :: ms) (cha + chb) := by
  obtain ⟨ta, pa, la⟩ := ha
  obtain ⟨tb, pb, lb⟩ := hb
  exact ⟨_, pa_cons pa pb hs, liftN_cons la lb⟩
/-- names as targets, in a row -/
def gNames : List Nat → TGs
  | [] => gNil
  | i :: is => gCons (gName i) (gNames is)
def DGN (X : Cx) (is : List Nat) (tgs : List Expr) : Prop := PGs X tgs (gNames is)
theorem dgn_nil : DGN X [] [] := pgs_nil
theorem dgn_cons (i : Nat) {is : List Nat} {x : Str} {pos : Pos} {es : List Expr} (hN : X.N.Nodup) (h : DGN X is es) (hi : X.N[i]? = some x := by rfl) (hx : Loc X.env.scope x := by first | exact Or.inl rfl | exact Or.inr rfl) (hf : X.fn x = true ∨ X.env.scope.names.lookup x = some .local := by first | exact .inl rfl | exact .inr rfl)
    (hs : (assignEach (.Name x pos :: es) X.env).map (·.2) = assign (.Name x pos) X.env :: (assignEach es X.env).map (·.2) := by rfl) : DGN X (i :: is) (.Name x pos :: es) := pgs_cons (pg_name hN hi hx hf) h hs
theorem gNames_run : ∀ (is : List Nat) (vs : List V) (σ : St) (H : Hp) (Q : St → Hp → Prop), vs.length = is.length → Q (setsV σ is vs) H → gNames is vs σ H Q
  | [], [], σ, H, Q, _, q => ⟨rfl, q⟩
  | [], _ :: _, _, _, _, e, _ => by cases e
  | _ :: _, [], _, _, _, e, _ => by cases e
  | i :: is, v :: vs, σ, H, Q, e, q => ⟨v, vs, rfl, gNames_run is vs (σ.set i (some v)) H Q (by simpa using e) q⟩
theorem lift_pars {t : TA} {is : List Nat} {ms : List ME} {n : Nat} (l : LiftN X W t ms cl) (hn : n = is.length) : LiftS X W (tAsg (tTup t) (gTup X.K n (gNames is))) (mPars is ms) cl := by
  refine ⟨fun ε De De' h q => l.mono _ _ _ _ _ (fun xs q => ⟨q.1, putsE_mono h.nx _ _ _ q.2⟩) (fun c x => h.ex c ε x) q, fun B Z T H0 ε σ H De D hL r le q => ?_⟩
  refine l.run0 B B Z T (T + cl) H0 ε σ ε σ H is De.nx (fun xs => xs.length ≤ sizeLine) _ _ (Nat.le_refl _) hL r r (fun a h => h) (le.xw r) q fun xs vs H' ε' hl e a1 q' e2 r' => ?_
  refine ⟨by omega, fun p hp => ⟨p, vs, rfl, .inl (.inl upd_same), by omega, ?_⟩⟩
  refine gNames_run is vs σ _ _ e2 ?_
  exact le.nx _ _ _ q' (r'.aft (Aft.new r'.z hp))
/-- names = displayed things -/
theorem ds_pars {is : List Nat} {es tgs : List Expr} {ms : List ME} {n k k2 : Nat} {tp ep pos : Pos} (hc : X.calm = true) (h : DN X W es ms ch) (hg : DGN X is tgs) (hn : (assignEach tgs X.env).length = n := by rfl) (hn2 : n = is.length := by rfl) (hst : (assignEach tgs X.env).findIdx? (·.1) = none := by rfl)
    (hs : swapsWithSole [.Tuple tgs k tp] (.Tuple es k2 ep) pos.line X.env = pure false := by rfl) (hw : swappedStores [.Tuple tgs k tp] (.Tuple es k2 ep) X.env = pure none := by rfl)
    (h1 : (assignEach [.Tuple tgs k tp] X.env).map (·.2) = [assign (.Tuple tgs k tp) X.env] := by rfl) : DS X W (.Assign [.Tuple tgs k tp] (.Tuple es k2 ep) pos) (mPars is ms) ch := by
  obtain ⟨t, pa, l⟩ := h
  exact ⟨_, ps_asg (pe_tup pa) (pg_tup hc hg hn hst) hs hw h1, lift_pars l hn2⟩
/-- three locals at once -/
def mPars3 (is : List Nat) (ms : List ME) : MS := fun De ε => evs ms ε (fun xs => True ∧ putsE is xs De.nx ε) (fun c => De.ex c ε)
theorem lift_pars3 {t : TA} {i j k : Nat} {ms : List ME} (l : LiftN X W t ms cl) : LiftS X W (tPar3 i j k t) (mPars3 [i, j, k] ms) cl := by
  refine ⟨fun ε De De' h q => l.mono _ _ _ _ _ (fun xs q => ⟨q.1, putsE_mono h.nx _ _ _ q.2⟩) (fun c x => h.ex c ε x) q, fun B Z T H0 ε σ H De D hL r le q => ?_⟩
  refine l.run0 B B Z T (T + cl) H0 ε σ ε σ H [i, j, k] De.nx (fun xs => True) _ _ (Nat.le_refl _) hL r r (fun a h => h) (le.xw r) q fun xs vs H' ε' hl e a1 q' e2 r' => ?_
  match vs, e2 with
  | [v1, v2, v3], _ => exact ⟨v1, v2, v3, rfl, le.nx _ _ _ q' r'⟩
theorem ds_par3 (i j k : Nat) {x y z : Str} {a b c : Expr} {ms : List ME} {px py pz pt pos : Pos} {kt k2 : Nat} {pt2 : Pos} (hc : X.calm = true) (hN : X.N.Nodup) (h : DN X W [a, b, c] ms ch) (hi : X.N[i]? = some x := by rfl) (hj : X.N[j]? = some y := by rfl) (hk : X.N[k]? = some z := by rfl)
    (hij : i ≠ j := by decide) (hik : i ≠ k := by decide) (hjk : j ≠ k := by decide)
    (hx : X.env.scope.names.lookup x = some .local := by rfl) (hy : X.env.scope.names.lookup y = some .local := by rfl) (hz : X.env.scope.names.lookup z = some .local := by rfl)
    (hw : swappedStores [.Tuple [.Name x px, .Name y py, .Name z pz] kt pt] (.Tuple [a, b, c] k2 pt2) X.env = pure (some [x, y, z]) := by rfl)
    (hs : swapsWithSole [.Tuple [.Name x px, .Name y py, .Name z pz] kt pt] (.Tuple [a, b, c] k2 pt2) pos.line X.env = pure false := by rfl) :
    DS X W (.Assign [.Tuple [.Name x px, .Name y py, .Name z pz] kt pt] (.Tuple [a, b, c] k2 pt2) pos) (mPars3 [i, j, k] ms) ch := by
  obtain ⟨t, pa, l⟩ := h
  exact ⟨_, ps_par3 hc hN hi hj hk hij hik hjk hx hy hz pa hw hs, lift_pars3 l⟩
end
end G

namespace G
open PySem PySem.Spec PyProof.Rows L2
/-! ### expressions that change an own list or dict -/
abbrev MX := Env → (Env → D → Prop) → (XC → Prop) → Prop
structure LiftX (X : Cx) (W : WX) (t : TE) (m : MX) (c : Nat) : Prop where
  mono : ∀ ε (Q Q' : Env → D → Prop) Ex Ex', (∀ ε x, Q ε x → Q' ε x) → (∀ c, Ex c → Ex' c) → m ε Q Ex → m ε Q' Ex'
  run0 : ∀ B Z T T' H0 ε σ H (Q : VK) Ex, T + c ≤ T' → T' ≤ LIM → RE X.K B Z T H0 ε σ H → XW X W Z T' σ H Ex →
    m ε (fun ε' d => ∀ v H', RE X.K B Z T' H0 ε' σ H' → Rz X.K (AvE B Z ε' σ) H' d v → Q v H') Ex → t σ H Q
def DX (X : Cx) (W : WX) (e : Expr) (m : MX) (c : Nat) : Prop := ∃ t, PE X e t ∧ LiftX X W t m c
section
variable {X : Cx} {W : WX}
/-- what changes nothing -/
def mStill (m : ME) : MX := fun ε Q Ex => m ε (onD (Q ε)) Ex
theorem dx_of {e : Expr} {m : ME} (h : DE X W e m c) : DX X W e (mStill m) c := by
  obtain ⟨t, p, l⟩ := h
  refine ⟨t, p, fun ε Q Q' Ex Ex' hq hx q => l.mono _ _ _ _ _ (onD_mono (hq ε)) hx q, fun B Z T T' H0 ε σ H Q Ex h1 h2 r hx q => ?_⟩
  refine l.run B Z H0 ε σ H _ Ex r hx (l.mono _ _ _ _ _ (fun iv q v H1 a1 rv => ?_) (fun _ x => x) q) h1 h2
  cases iv with
  | fz d => exact q v H1 (r.aft a1) rv
  | fr d => exact q v H1 (r.aft a1) (RV.rz r rv)
  | st => exact q.elim
  | bo d => exact q.elim
theorem OwnAt.lst' {K : Frag} {A : Av} {H : Hp} {a : Addr} {ds : List D} (h : OwnAt K A H a (.lst ds)) : ∃ vs, H a = some (.lst vs) ∧ ds.length ≤ sizeLine ∧ Rzs K A H ds vs := h
theorem Rzs.erase {K : Frag} {A : Av} {H : Hp} : ∀ {ds : List D} {vs : List V} (k : Nat), Rzs K A H ds vs → Rzs K A H (ds.eraseIdx k) (vs.eraseIdx k)
  | [], vs, k, h => by simp only [Rzs] at h; subst h; simpa using Rzs.nil
  | d :: ds, vs, 0, h => by
    simp only [Rzs] at h
    obtain ⟨v, r, rfl, h1, h2⟩ := h
    exact h2
  | d :: ds, vs, k + 1, h => by
    simp only [Rzs] at h
    obtain ⟨v, r, rfl, h1, h2⟩ := h
    exact .cons h1 (h2.erase k)
theorem up_own {B : Av} {Z : Zt} {ε : Env} {σ : St} {H : Hp} {i : Nat} {d d' : D} {a : Addr} {o : HO} (e : ε[i]? = some (.ow d)) (h1 : σ[i]? = some (some (.ref a))) :
    Kp (AvE B Z ε σ) (AvE B Z (ε.set i (.ow d')) σ) H (upd H a o) := .of fun c o n x => by
  refine ⟨fun z => n ?_, x.but (fun z => n (by rw [z]; exact .inr (.inr ⟨i, _, e, h1⟩)))⟩
  rcases z with z | z | ⟨j, d2, e1, e2⟩
  · exact .inl z
  · exact .inr (.inl z)
  · by_cases hj : i = j
    · subst hj; exact .inr (.inr ⟨i, d, e, e2⟩)
    · rw [List.getElem?_set_ne hj] at e1; exact .inr (.inr ⟨j, d2, e1, e2⟩)
/-- x.pop(k), k a place from 0 -/
def mPop (i : Nat) (a : MI) : MX := fun ε Q Ex => onOwL (fun ds => a ε (fun k => ∃ (n : Nat) (d : D), k = .int (n : Nat) ∧ n < 2 ^ 62 ∧ ds[n]? = some d ∧ Q (ε.set i (.ow (.lst (ds.eraseIdx n)))) d) Ex) ε[i]?
theorem lift_pop {i : Nat} {t : TE} {a : MI} {c : Nat} (l : LiftI X W t a c) : LiftX X W (tBM X.K "list" rPopAt (tVar i) (tCons t tNil)) (mPop i a) c := by
  refine ⟨fun ε Q Q' Ex Ex' hq hx q => onOwL_mono (fun ds q => l.mono _ _ _ _ _ (fun k ⟨n, d, h1, h2, h3, q⟩ => ⟨n, d, h1, h2, h3, hq _ _ q⟩) hx q) _ q, fun B Z T T' H0 ε σ H Q Ex hT hL r hx q => ?_⟩
  obtain ⟨ds, e, q⟩ := onOwL_ex q
  obtain ⟨p, h1, h2, h3, h4, vs, h5, hl, h6⟩ := r.slot i _ e
  refine ⟨_, h1, .inl ⟨rfl, vs, .of h5⟩, ?_⟩
  refine l.run B Z H0 ε σ H _ _ r hx (l.mono _ _ _ _ _ (fun k q v H1 a1 rk => ?_) (fun _ x => x) q) hT hL
  obtain ⟨n, d, rfl, hn, hd, q⟩ := q
  have r1 := r.aft a1
  have e5 := (a1.ex p _ h3 (.mk h5)).1
  have h6' : Rzs X.K (AvE B Z ε σ) H1 ds vs := h6.map (.of fun c o n x => ⟨n, a1.ex c o (fun z => n (.inr (.inl z))) x⟩)
  obtain ⟨y, hy, ry⟩ := h6'.getD hd
  have hlt : n < vs.length := (List.getElem?_eq_some_iff.mp hy).1
  have rki := rk.int
  subst rki
  have sq : seqIndex? ((n : Nat) : Int) vs.length = some n := (ixN_seq (show ixN vs.length ((n : Nat) : Int) = some n by unfold ixN; rw [if_pos (by omega), if_pos (by omega)]; simp)).1
  refine ⟨p, vs, _, n, y, rfl, rfl, e5, by omega, by omega, sq, hy, q y _ (r1.chg e h1 ?_) (ry.map (up_own e h1))⟩
  have up : Kp (AvE B Z ε σ) (AvE B Z ε σ) H1 (upd H1 p (.lst (vs.eraseIdx n))) := .of fun c o n x => ⟨n, x.but (fun z => n (by rw [z]; exact .inr (.inr ⟨i, _, e, h1⟩)))⟩
  exact ⟨_, upd_same, Nat.le_trans (List.length_eraseIdx_le ..) hl, (h6'.erase n).map up⟩
theorem dx_pop (i : Nat) {x : Str} {e : Expr} {m : MI} {p apos cpos : Pos} {c : Nat} (h : DI X W e m c) (hN : X.N[i]? = some x := by rfl) (hv : Vis X.env.scope x := by first | exact Or.inl rfl | exact Or.inr (Or.inl rfl) | exact Or.inr (Or.inr rfl)) (hd : (x == ("__debug__" : Str)) = false := by decide) (hcd : (x == ("__classdict__" : Str)) = false := by decide)
    (hbase : attributeBase (.Name x p) "pop" X.env (eval (.Name x p) X.env) = eval (.Name x p) X.env := by rfl)
    (hfew : ((backTo cpos (starEach (e :: []) X.env)).all (fun x => !x.1) && (backToKw cpos (keywordEach [] X.env)).all (fun x => x.1.isSome) && decide ((e :: []).length + ([] : List Keyword).length + (if ([] : List Keyword).isEmpty then 0 else 1) < 30)) = true := by rfl)
    (hline : (apos.endLine == cpos.line) = true := by rfl) (hs : starEach (e :: []) X.env = (false, eval e X.env) :: starEach [] X.env := by rfl) (hplain : (backTo cpos (starEach [] X.env)).any (·.1) = false := by rfl) :
    DX X W (.Call (.Attribute (.Name x p) "pop" apos) [e] [] cpos) (mPop i m) c := by
  obtain ⟨t, pe, l⟩ := h
  exact ⟨_, pe_bm PySem.F.plainAttrs_list PySem.F.slot_list_pop PySem.F.type_list_pop mt_popAt (pe_var hN hv hd hcd) (pa_cons pe pa_nil hs) hbase hfew hline hs hplain, lift_pop l⟩
/-- d.pop(k) of what is there -/
def dropKs (ks : List Key) (k : Key) : List Key := ks.filter fun x => decide (x ≠ k)
def dropVs {α : Type} (ks : List Key) (vs : List α) (k : Key) : List α := ((ks.zip vs).filter fun p => decide (p.1 ≠ k)).map (·.2)
theorem dropK_zip {k : Key} : ∀ {ks : List Key} {vs : List V}, ks.length = vs.length → dropK (ks.zip vs) k = (dropKs ks k).zip (dropVs ks vs k)
  | [], [], _ => rfl
  | a :: ks, v :: vs, h => by
    have ih := dropK_zip (k := k) (ks := ks) (vs := vs) (by simpa using h)
    show ((a, v) :: ks.zip vs).filter (fun x => decide (x.1 ≠ k)) = ((a :: ks).filter fun x => decide (x ≠ k)).zip ((((a, v) :: ks.zip vs).filter fun x => decide (x.1 ≠ k)).map (·.2))
    by_cases e : a = k
    · rw [List.filter_cons_of_neg (by simp [e]), List.filter_cons_of_neg (by simp [e])]
      exact ih
    · rw [List.filter_cons_of_pos (by simp [e]), List.filter_cons_of_pos (by simp [e]), List.map_cons, List.zip_cons_cons]
      exact congrArg _ ih
theorem dropKs_len {α : Type} {k : Key} : ∀ {ks : List Key} {vs : List α}, ks.length = vs.length → (dropKs ks k).length = (dropVs ks vs k).length
  | [], [], _ => rfl
  | a :: ks, v :: vs, h => by
    have ih := dropKs_len (k := k) (ks := ks) (vs := vs) (by simpa using h)
    show ((a :: ks).filter fun x => decide (x ≠ k)).length = ((((a, v) :: ks.zip vs).filter fun x => decide (x.1 ≠ k)).map (·.2)).length
    by_cases e : a = k
    · rw [List.filter_cons_of_neg (by simp [e]), List.filter_cons_of_neg (by simp [e])]
      exact ih
    · rw [List.filter_cons_of_pos (by simp [e]), List.filter_cons_of_pos (by simp [e]), List.map_cons, List.length_cons, List.length_cons]
      exact congrArg _ ih
theorem dropVs_le {α : Type} {k : Key} {ks : List Key} {vs : List α} : (dropVs ks vs k).length ≤ vs.length := by
  unfold dropVs
  rw [List.length_map]
  have := List.length_filter_le (fun p : Key × α => decide (p.1 ≠ k)) (ks.zip vs)
  rw [List.length_zip] at this
  omega
theorem Rzs.dropV {K : Frag} {A : Av} {H : Hp} {k : Key} : ∀ {ks : List Key} {ds : List D} {vs : List V}, Rzs K A H ds vs → Rzs K A H (dropVs ks ds k) (dropVs ks vs k)
  | [], ds, vs, h => by simpa [dropVs] using Rzs.nil
  | a :: ks, [], vs, h => by simp only [Rzs] at h; subst h; simpa [dropVs] using Rzs.nil
  | a :: ks, d :: ds, vs, h => by
    simp only [Rzs] at h
    obtain ⟨v, r, rfl, h1, h2⟩ := h
    have ih := Rzs.dropV (k := k) (ks := ks) h2
    show Rzs K A H ((((a, d) :: ks.zip ds).filter fun x => decide (x.1 ≠ k)).map (·.2)) ((((a, v) :: ks.zip r).filter fun x => decide (x.1 ≠ k)).map (·.2))
    by_cases e : a = k
    · rw [List.filter_cons_of_neg (by simp [e]), List.filter_cons_of_neg (by simp [e])]
      exact ih
    · rw [List.filter_cons_of_pos (by simp [e]), List.filter_cons_of_pos (by simp [e]), List.map_cons, List.map_cons]
      exact .cons h1 ih
def mDPop (i : Nat) (a : MI) : MX := fun ε Q Ex => onOwD (fun ks ds => a ε (fun y => ∃ kk d, y.key = some kk ∧ lookD ks ds kk = some d ∧ Q (ε.set i (.ow (.dic (dropKs ks kk) (dropVs ks ds kk)))) d) Ex) ε[i]?
theorem lift_dpop {i : Nat} {t : TE} {a : MI} {c : Nat} (l : LiftI X W t a c) : LiftX X W (tDPop1 (tVar i) t) (mDPop i a) c := by
  refine ⟨fun ε Q Q' Ex Ex' hq hx q => onOwD_mono (fun ks ds q => l.mono _ _ _ _ _ (fun k ⟨n, d, h1, h2, q⟩ => ⟨n, d, h1, h2, hq _ _ q⟩) hx q) _ q, fun B Z T T' H0 ε σ H Q Ex hT hL r hx q => ?_⟩
  obtain ⟨ks, ds, e, q⟩ := onOwD_ex q
  obtain ⟨p, h1, h2, h3, h4, vs, h5, hl, h6⟩ := r.slot i _ e
  refine ⟨_, h1, p, rfl, .inl ⟨_, .inl h5⟩, ?_⟩
  refine l.run B Z H0 ε σ H _ _ r hx (l.mono _ _ _ _ _ (fun k q v H1 a1 rk => ?_) (fun _ x => x) q) hT hL
  obtain ⟨kk, d, ek, hd, q⟩ := q
  have r1 := r.aft a1
  have e5 := (a1.ex p _ h3 (.mk h5)).1
  have h6' : Rzs X.K (AvE B Z ε σ) H1 ds vs := h6.map (.of fun c o n x => ⟨n, a1.ex c o (fun z => n (.inr (.inl z))) x⟩)
  obtain ⟨y, hy, ry⟩ := (valV_zip (k := kk) h6' hl.1).1 d hd
  have hz : ks.length = vs.length := by have := h6'.length; omega
  refine ⟨_, kk, y, e5, key_v rk ek, hy, q y _ (r1.chg e h1 ?_) (ry.map (up_own e h1))⟩
  rw [dropK_zip hz]
  have up : Kp (AvE B Z ε σ) (AvE B Z ε σ) H1 (upd H1 p (.dK ((dropKs ks kk).zip (dropVs ks vs kk)))) := .of fun c o n x => ⟨n, x.but (fun z => n (by rw [z]; exact .inr (.inr ⟨i, _, e, h1⟩)))⟩
  exact ⟨_, upd_same, ⟨dropKs_len hl.1, Nat.le_trans dropVs_le hl.2⟩, (h6'.dropV).map up⟩
theorem dx_dpop (i : Nat) {x : Str} {e : Expr} {m : MI} {p apos cpos : Pos} {c : Nat} (h : DI X W e m c) (hN : X.N[i]? = some x := by rfl) (hv : Vis X.env.scope x := by first | exact Or.inl rfl | exact Or.inr (Or.inl rfl) | exact Or.inr (Or.inr rfl)) (hd : (x == ("__debug__" : Str)) = false := by decide) (hcd : (x == ("__classdict__" : Str)) = false := by decide)
    (hbase : attributeBase (.Name x p) "pop" X.env (eval (.Name x p) X.env) = eval (.Name x p) X.env := by rfl)
    (hfew : ((backTo cpos (starEach (e :: []) X.env)).all (fun x => !x.1) && (backToKw cpos (keywordEach [] X.env)).all (fun x => x.1.isSome) && decide ((e :: []).length + ([] : List Keyword).length + (if ([] : List Keyword).isEmpty then 0 else 1) < 30)) = true := by rfl)
    (hline : (apos.endLine == cpos.line) = true := by rfl) (ht : backTo cpos (starEach [e] X.env) = [(false, eval e X.env)] := by rfl) :
    DX X W (.Call (.Attribute (.Name x p) "pop" apos) [e] [] cpos) (mDPop i m) c := by
  obtain ⟨t, pe, l⟩ := h
  exact ⟨_, pe_dpop1 (pe_var hN hv hd hcd) pe ⟨hbase, hfew, hline, ht⟩, lift_dpop l⟩
/-- a if c else b -/
def mIfX (t : MT) (a b : MX) : MX := fun ε Q Ex => t ε (fun c => if c = true then a ε Q Ex else b ε Q Ex) Ex
theorem dx_if {c a b : Expr} {m : MT} {ma mb : MX} {pos : Pos} (hc : DT X W c m chc) (ha : DX X W a ma cha) (hb : DX X W b mb chb) : DX X W (.IfExp c a b pos) (mIfX m ma mb) (chc + cha + chb) := by
  obtain ⟨t, p, lt⟩ := hc
  obtain ⟨u, p1, la⟩ := ha
  obtain ⟨v, p2, lb⟩ := hb
  refine ⟨_, pe_ifExp p p1 p2, fun ε Q Q' Ex Ex' hq hx q => lt.mono _ _ _ _ _ (fun c q => ?_) hx q, fun B Z T T' H0 ε σ H Q Ex h1 h2 r hx q => ?_⟩
  · cases c with
    | true => simp only [if_true] at q ⊢; exact la.mono _ _ _ _ _ hq hx q
    | false => simp only [Bool.false_eq_true, if_false] at q ⊢; exact lb.mono _ _ _ _ _ hq hx q
  · refine lt.run (T' := T + chc) B Z H0 ε σ H _ Ex r (hx.at (T + chc)) (lt.mono _ _ _ _ _ (fun c q H1 a1 => ?_) (fun _ x => x) q) (by omega) (by omega)
    cases c with
    | true => simp only [if_true] at q ⊢; exact la.run0 B Z _ T' H0 ε σ H1 Q Ex (by omega) h2 (r.aft a1) (hx.aft a1) q
    | false => simp only [Bool.false_eq_true, if_false] at q ⊢; exact lb.run0 B Z _ T' H0 ε σ H1 Q Ex (by omega) h2 (r.aft a1) (hx.aft a1) q
/-- x.append(e), e changing other things -/
def mAppendX (i : Nat) (m : MX) : MS := fun De ε => onOwL (fun _ => m ε (fun ε' d => onOwL (fun ds => ds.length < sizeLine ∧ De.nx (ε'.set i (.ow (.lst (ds ++ [d]))))) ε'[i]?) (fun c => De.ex c ε)) ε[i]?
theorem lift_appendX {i : Nat} {t : TE} {m : MX} {c : Nat} (l : LiftX X W t m c) : LiftS X W (tDrop (tBM X.K "list" rAppend (tVar i) (tCons t tNil))) (mAppendX i m) c := by
  refine ⟨fun ε De De' h q => onOwL_mono (fun ds q => l.mono _ _ _ _ _ (fun ε' d q => onOwL_mono (fun ds q => ⟨q.1, h.nx _ q.2⟩) _ q) (fun c x => h.ex c ε x) q) _ q, fun B Z T H0 ε σ H De D hL r le q => ?_⟩
  obtain ⟨ds0, e0, q⟩ := onOwL_ex q
  obtain ⟨a0, k1, k2, k3, k4, vs0, k5, kl, k6⟩ := r.slot i _ e0
  refine ⟨_, k1, .inl ⟨rfl, vs0, .of k5⟩, ?_⟩
  refine l.run0 B Z T (T + c) H0 ε σ H _ _ (Nat.le_refl _) hL r (le.xw r) (l.mono _ _ _ _ _ (fun ε' d q v H1 r1 rd => ?_) (fun _ x => x) q)
  obtain ⟨ds, e, q1, q2⟩ := onOwL_ex q
  obtain ⟨a, h1, h2, h3, h4, vs, h5, hl, h6⟩ := r1.slot i _ e
  rw [k1] at h1
  cases h1
  refine ⟨a0, vs, v, rfl, rfl, h5, by rw [h6.length]; exact q1, le.nx _ _ _ q2 (r1.chg e k1 ?_)⟩
  have up : Kp (AvE B Z ε' σ) (AvE B Z ε' σ) H1 (upd H1 a0 (.lst (vs ++ [v]))) := .of fun c o n x => ⟨n, x.but (fun z => n (by rw [z]; exact .inr (.inr ⟨i, _, e, k1⟩)))⟩
  exact ⟨_, upd_same, by rw [List.length_append]; simp; omega, (h6.append (.one rd)).map up⟩
theorem ds_appendX (i : Nat) {x : Str} {e : Expr} {m : MX} {p apos cpos pos : Pos} {c : Nat} (h : DX X W e m c) (hN : X.N[i]? = some x := by rfl) (hv : Vis X.env.scope x := by first | exact Or.inl rfl | exact Or.inr (Or.inl rfl) | exact Or.inr (Or.inr rfl)) (hd : (x == ("__debug__" : Str)) = false := by decide) (hcd : (x == ("__classdict__" : Str)) = false := by decide)
    (hbase : attributeBase (.Name x p) "append" X.env (eval (.Name x p) X.env) = eval (.Name x p) X.env := by rfl)
    (hfew : ((backTo cpos (starEach (e :: []) X.env)).all (fun x => !x.1) && (backToKw cpos (keywordEach [] X.env)).all (fun x => x.1.isSome) && decide ((e :: []).length + ([] : List Keyword).length + (if ([] : List Keyword).isEmpty then 0 else 1) < 30)) = true := by rfl)
    (hline : (apos.endLine == cpos.line) = true := by rfl) (hs : starEach (e :: []) X.env = (false, eval e X.env) :: starEach [] X.env := by rfl) (hplain : (backTo cpos (starEach [] X.env)).any (·.1) = false := by rfl)
    (hsw : swapsWith (.Call (.Attribute (.Name x p) "append" apos) [e] [] cpos) none pos.line X.env = pure false := by rfl) :
    DS X W (.Expr (.Call (.Attribute (.Name x p) "append" apos) [e] [] cpos) pos) (mAppendX i m) c := by
  obtain ⟨t, pe, l⟩ := h
  exact ⟨_, ps_expr (pe_bm PySem.F.plainAttrs_list PySem.F.slot_list_append PySem.F.type_list_append mt_append (pe_var hN hv hd hcd) (pa_cons pe pa_nil hs) hbase hfew hline hs hplain) hsw, lift_appendX l⟩
/-- x = e, e changing other things -/
def mSetX (i : Nat) (m : MX) : MS := fun De ε => m ε (fun ε' d => De.nx (ε'.set i (.fz d))) (fun c => De.ex c ε)
theorem ds_setX (i : Nat) {x : Str} {e : Expr} {m : MX} {p pos : Pos} (hN : X.N.Nodup) (h : DX X W e m ch) (hi : X.N[i]? = some x := by rfl) (hx : Loc X.env.scope x := by first | exact Or.inl rfl | exact Or.inr rfl) (hf : X.fn x = true ∨ X.env.scope.names.lookup x = some .local := by first | exact .inl rfl | exact .inr rfl)
    (hs : swapsWithSole [.Name x p] e pos.line X.env = pure false := by rfl) (hw : swappedStores [.Name x p] e X.env = pure none := by rfl) (h1 : (assignEach [.Name x p] X.env).map (·.2) = [assign (.Name x p) X.env] := by rfl) : DS X W (.Assign [.Name x p] e pos) (mSetX i m) ch := by
  obtain ⟨t, pe, l⟩ := h
  refine ⟨_, ps_asg pe (pg_name hN hi hx hf) hs hw h1, fun ε De De' h q => l.mono _ _ _ _ _ (fun ε' d q => h.nx _ q) (fun c x => h.ex c ε x) q, fun B Z T H0 ε σ H De D hL r le q => ?_⟩
  refine l.run0 B Z T (T + ch) H0 ε σ H _ _ (Nat.le_refl _) hL r (le.xw r) (l.mono _ _ _ _ _ (fun ε' d q v H1 r1 rd => ?_) (fun _ x => x) q)
  exact le.nx _ _ _ q (r1.setFz rd)
/-- e alone, changing things -/
def mDropX (m : MX) : MS := fun De ε => m ε (fun ε' _ => De.nx ε') (fun c => De.ex c ε)
theorem ds_exprX {e : Expr} {m : MX} {pos : Pos} (h : DX X W e m ch) (hs : swapsWith e none pos.line X.env = pure false := by rfl) : DS X W (.Expr e pos) (mDropX m) ch := by
  obtain ⟨t, pe, l⟩ := h
  refine ⟨_, ps_expr pe hs, fun ε De De' h q => l.mono _ _ _ _ _ (fun ε' d q => h.nx _ q) (fun c x => h.ex c ε x) q, fun B Z T H0 ε σ H De D hL r le q => ?_⟩
  refine l.run0 B Z T (T + ch) H0 ε σ H _ _ (Nat.le_refl _) hL r (le.xw r) (l.mono _ _ _ _ _ (fun ε' d q v H1 r1 rd => ?_) (fun _ x => x) q)
  exact le.nx _ _ _ q r1
end
end G

namespace G
open PySem PySem.Spec PyProof.Rows L2
/-! ### dict(x) of pairs, of a dict -/
/-- a tuple that is known well -/
def TupP (K : Frag) (H : Hp) (a : Addr) (xs : List V) : Prop := (∃ o, PlainT o ∧ H a = some (.frz o (.tup xs))) ∨ TupK K a xs
theorem FzT.p {K : Frag} {A : Av} {H : Hp} {a : Addr} {xs : List V} (h : FzT K A H a xs) : TupP K H a xs := by
  rcases h with ⟨_, o, po, h⟩ | h
  · exact .inl ⟨o, po, h⟩
  · exact .inr h
section
variable {X : Cx}
theorem tupP_at {pins : List (Addr × Obj)} {σ : L2.St} {H : Hp} {s : Shared} (I : Inv X pins σ H s) {a : Addr} {xs : List V} (h : TupP X.K H a xs) :
    ∃ (o : Obj) (its : List Value) (n : Nat), s.heap.get? a = some o ∧ PlainT o ∧ o.data = .seq its.toArray n ∧ Vals xs its ∧ xs.length ≤ sizeLine := by
  rcases h with ⟨o, po, h⟩ | ⟨o, its, n, hk, po, hd, hz, r⟩
  · obtain ⟨e, z, its, r, o', e', _, n, hd⟩ := I.hok a _ h
    rw [e] at e'
    cases e'
    exact ⟨o, its, n, e, po, hd, r, z⟩
  · refine ⟨o, its.toList, n, I.kIn a o hk, po, by simpa using hd, r, ?_⟩
    have := r.length
    simp only [Array.length_toList] at this
    omega
theorem pairs_at {s : Shared} : ∀ {as : List Addr} {prs : List (Key × Value)}, prs.length = as.length → (∀ (j : Nat) (q : Key × Value), prs[j]? = some q → ∃ (b : Addr) (u : Value), as[j]? = some b ∧ IsTup s.heap b #[u, q.2] ∧ keyIs q.1 u = true) →
    ∃ ps : List (Value × Value), ps.length = as.length ∧ ∀ (j : Nat) (p : Value × Value), ps[j]? = some p → ∃ (b : Addr) (q : Key × Value), as[j]? = some b ∧ prs[j]? = some q ∧ IsTup s.heap b #[p.1, p.2] ∧ p.2 = q.2 ∧ keyIs q.1 p.1 = true
  | [], [], _, _ => ⟨[], rfl, fun j p e => by simp at e⟩
  | a :: as, q :: prs, hl, h => by
    obtain ⟨ps, e1, e2⟩ := pairs_at (as := as) (prs := prs) (by simpa using hl) fun j q' e => by
      obtain ⟨b, u, f1, f2⟩ := h (j + 1) q' (by simpa using e)
      exact ⟨b, u, by simpa using f1, f2⟩
    obtain ⟨b, u, f1, f2, f3⟩ := h 0 q rfl
    refine ⟨(u, q.2) :: ps, by simp [e1], fun j p e => ?_⟩
    cases j with
    | zero =>
      simp only [List.getElem?_cons_zero, Option.some.injEq] at e
      subst e
      exact ⟨b, q, f1, rfl, f2, rfl, f3⟩
    | succ j =>
      obtain ⟨b', q', g1, g2, g3⟩ := e2 j p (by simpa using e)
      exact ⟨b', q', by simpa using g1, by simpa using g2, g3⟩
/-- dict(t), t a tuple of pairs -/
theorem call_dictPT (hcalm : X.calm = true) : CallR X (.type "dict") (fun xs H Q => ∃ (a : Addr) (as : List Addr) (kvs : List (Key × V)), xs = [.ref a] ∧ TupP X.K H a (as.map V.ref) ∧ Paired (fun p kv => SqT X.K H p [kV kv.1, kv.2]) as kvs ∧
    ∀ p, H p = none → Q (.ref p) (upd H p (.dK (mergeK [] kvs)))) := by
  intro pins s σ H xs us Q I r q
  obtain ⟨a, as, kvs, ex, hq, hp, q⟩ := q
  subst ex
  obtain ⟨u, eu, rx⟩ := vals1 r
  subst eu
  cases rx
  obtain ⟨o, its, n, ho, po, hd, rv, hz⟩ := tupP_at I hq
  have ei := refs_at rv
  subst ei
  rw [List.length_map] at hz
  obtain ⟨prs, rel, hl, hpr⟩ := pairs_of I hp
  obtain ⟨ps, hps, hpa⟩ := pairs_at hl hpr
  have hlen : ps.length = (as.map Value.ref).toArray.size := by simp [hps]
  refine PySem.call_dict_pairs (knd := mixKind X.prog X.w) (kvs := prs) (PairArg.tuple a (as.map Value.ref).toArray (fun j => as.getD j 0) ps) (I.ok.hd hcalm) ⟨⟨o, n, ho, po.1, po.2, hd⟩, hlen.symm, fun j k v e => ?_⟩ ⟨by omega, fun i k v e => ?_⟩ (by omega) fun h' tk hd' k => ?_
  · obtain ⟨b, q, g1, g2, g3, _⟩ := hpa j (k, v) e
    have gd : as.getD j 0 = b := by simp [List.getD, g1]
    refine ⟨by simp [g1, gd], .inl ?_⟩
    show s.heap.IsTuple (as.getD j 0) #[k, v]
    rw [gd]
    obtain ⟨o2, e1, e2, n2, e3⟩ := g3
    exact ⟨o2, e1, e2, n2, e3⟩
  · obtain ⟨b, q, g1, g2, g3, g4, g5⟩ := hpa i (k, v) e
    exact ⟨q.1, by rw [g2]; simp only at g4; rw [g4], g5⟩
  · have hm : (s.heap.objs.size == sysModules) = false := beq_eq_false_iff_ne.mpr (Nat.ne_of_gt I.big)
    have hsz : (mergeK [] kvs).length ≤ sizeLine := by
      refine Nat.le_trans (length_mergeK kvs []) ?_
      rw [List.length_nil, Nat.zero_add, rel.length, hl]
      exact hz
    exact ⟨.ref s.heap.objs.size, upd H s.heap.objs.size (.dK (mergeK [] kvs)), I.laid (t' := tk) (fun b o e => k b o (by simp) e) (Nat.le_refl _) (show ObjOk X.prog X.w _ _ _ (.dK (mergeK [] kvs)) from ⟨hsz, hm, merged [] prs, KV.merge rel .nil, hd'⟩), rfl, q _ (I.hok.fresh (Nat.le_refl _))⟩
def pairOf : D → Option (Key × D)
  | .tup [k, v] => k.key.map fun kk => (kk, v)
  | _ => none
def pairsOf : List D → Option (List (Key × D))
  | [] => some []
  | d :: ds => (pairOf d).bind fun p => (pairsOf ds).map fun r => p :: r
def mergeKs : List Key → List (Key × D) → List Key
  | ks, [] => ks
  | ks, p :: r => mergeKs (putKs ks p.1) r
def mergeDs : List Key → List D → List (Key × D) → List D
  | _, ds, [] => ds
  | ks, ds, p :: r => mergeDs (putKs ks p.1) (putVs ks ds p.1 p.2) r
theorem merge_len : ∀ (ps : List (Key × D)) (ks : List Key) (ds : List D), ks.length = ds.length → (mergeKs ks ps).length = (mergeDs ks ds ps).length ∧ (mergeDs ks ds ps).length ≤ ds.length + ps.length
  | [], ks, ds, h => ⟨h, by simp [mergeDs]⟩
  | p :: r, ks, ds, h => by
    obtain ⟨h1, h2⟩ := merge_len r (putKs ks p.1) (putVs ks ds p.1 p.2) (putVs_length h)
    refine ⟨h1, Nat.le_trans h2 ?_⟩
    have : (putVs ks ds p.1 p.2).length ≤ ds.length + 1 := by
      unfold putVs
      split
      · rw [List.length_map, List.length_zip]; omega
      · simp
    rw [List.length_cons]
    omega
theorem mergeK_zip {K : Frag} {A : Av} {H : Hp} : ∀ (ps : List (Key × D)) (kvs : List (Key × V)) (ks : List Key) (ds : List D) (vs : List V), ks.length = vs.length → Rzs K A H ds vs → ps.map (·.1) = kvs.map (·.1) → Rzs K A H (ps.map (·.2)) (kvs.map (·.2)) →
    ∃ ws, mergeK (ks.zip vs) kvs = (mergeKs ks ps).zip ws ∧ Rzs K A H (mergeDs ks ds ps) ws
  | [], [], ks, ds, vs, _, h, _, _ => ⟨vs, rfl, h⟩
  | [], _ :: _, _, _, _, _, _, e, _ => by cases e
  | _ :: _, [], _, _, _, _, _, e, _ => by cases e
  | p :: ps, kv :: kvs, ks, ds, vs, hl, h, e, r => by
    simp only [List.map_cons, List.cons.injEq] at e
    simp only [List.map_cons, Rzs] at r
    obtain ⟨v, r', e1, rz, rr⟩ := r
    simp only [List.cons.injEq] at e1
    obtain ⟨rfl, rfl⟩ := e1
    have step : putK (ks.zip vs) kv.1 kv.2 = (putKs ks p.1).zip (putVs ks vs p.1 kv.2) := by rw [e.1]; exact putK_zip hl
    obtain ⟨ws, w1, w2⟩ := mergeK_zip ps kvs (putKs ks p.1) (putVs ks ds p.1 p.2) (putVs ks vs p.1 kv.2) (putVs_length hl) (Rzs.putVs rz h) e.2 rr
    refine ⟨ws, ?_, w2⟩
    show mergeK (putK (ks.zip vs) kv.1 kv.2) kvs = _
    rw [step]
    exact w1
theorem key_kV {K : Frag} {A : Av} {H : Hp} {d : D} {k : Key} {v : V} (e : d.key = some k) (h : Rz K A H d v) : v = kV k := by
  unfold D.key at e
  split at e
  · cases e; simp only [Rz] at h; rw [h]; rfl
  · cases e; simp only [Rz] at h; rw [h.1]; rfl
  · cases e
theorem pairs_rz {K : Frag} {A : Av} {H : Hp} : ∀ {ds : List D} {vs : List V} {ps : List (Key × D)}, Rzs K A H ds vs → pairsOf ds = some ps →
    ∃ (as : List Addr) (kvs : List (Key × V)), vs = as.map V.ref ∧ Paired (fun p kv => SqT K H p [kV kv.1, kv.2]) as kvs ∧ ps.map (·.1) = kvs.map (·.1) ∧ Rzs K A H (ps.map (·.2)) (kvs.map (·.2)) ∧ ps.length = ds.length
  | [], vs, ps, h, e => by
    simp only [Rzs] at h
    subst h
    cases e
    exact ⟨[], [], rfl, .nil, rfl, .nil, rfl⟩
  | d :: ds, vs, ps, h, e => by
    simp only [Rzs] at h
    obtain ⟨v, r, rfl, h1, h2⟩ := h
    unfold pairsOf at e
    cases ep : pairOf d with
    | none => rw [ep] at e; cases e
    | some p =>
      rw [ep] at e
      cases er : pairsOf ds with
      | none => rw [er] at e; cases e
      | some qs =>
        rw [er] at e
        simp only [Option.bind_some, Option.map_some, Option.some.injEq] at e
        subst e
        obtain ⟨as, kvs, rfl, g1, g2, g3, g4⟩ := pairs_rz h2 er
        unfold pairOf at ep
        split at ep
        · rename_i k x
          cases ek : k.key with
          | none => rw [ek] at ep; cases ep
          | some kk =>
            rw [ek] at ep
            simp only [Option.map_some, Option.some.injEq] at ep
            subst ep
            simp only [Rz] at h1
            obtain ⟨a, ws, rfl, f1, _, f2⟩ := h1
            simp only [Rzs] at f2
            obtain ⟨v1, r1, rfl, k1, v2, r2, rfl, k2, rfl⟩ := f2
            have := key_kV ek k1
            subst this
            exact ⟨a :: as, (kk, v2) :: kvs, rfl, .cons f1.sq g1, by simp [g2], .cons k2 g3, by simp [g4]⟩
        · cases ep
def fDictC : List D → (IV → Prop) → Prop
  | [.lst ds], Q => ∃ ps, pairsOf ds = some ps ∧ Q (.fr (.dic (mergeKs [] ps) (mergeDs [] [] ps)))
  | [.tup ds], Q => ∃ ps, pairsOf ds = some ps ∧ Q (.fr (.dic (mergeKs [] ps) (mergeDs [] [] ps)))
  | [.dic ks ds], Q => Q (.fr (.dic ks ds))
  | _, _ => False
abbrev rDictC (K : Frag) : List V → Hp → VK → Prop := fun xs H Q =>
  (∃ (a : Addr) (ps : List Addr) (kvs : List (Key × V)), xs = [.ref a] ∧ SqL K H a (ps.map V.ref) ∧ Paired (fun p kv => SqT K H p [kV kv.1, kv.2]) ps kvs ∧ ∀ p, H p = none → Q (.ref p) (upd H p (.dK (mergeK [] kvs)))) ∨
  ((∃ (a : Addr) (as : List Addr) (kvs : List (Key × V)), xs = [.ref a] ∧ TupP K H a (as.map V.ref) ∧ Paired (fun p kv => SqT K H p [kV kv.1, kv.2]) as kvs ∧ ∀ p, H p = none → Q (.ref p) (upd H p (.dK (mergeK [] kvs)))) ∨
  ∃ (a : Addr) (kvs : List (Key × V)), xs = [.ref a] ∧ Rd H a (.dK kvs) ∧ ∀ p, H p = none → Q (.ref p) (upd H p (.dK kvs)))
theorem RE.newDic {K : Frag} {B : Av} {Z : Zt} {T : Nat} {H0 H : Hp} {ε : Env} {σ : St} (r : RE K B Z T H0 ε σ H) {p : Addr} (hp : H p = none) {ks : List Key} {ds : List D} {vs : List V} (h : Rzs K (AvE B Z ε σ) H ds vs) (hl : ks.length = ds.length ∧ ds.length ≤ sizeLine) :
    RV K (AvE B Z ε σ) Z H (upd H p (.dK (ks.zip vs))) (.ref p) (.fr (.dic ks ds)) := ⟨p, rfl, .of hp, vs, upd_same, hl, h.map (kp_own hp)⟩
theorem cbD_dict : CbD X (rDictC X.K) fDictC := by
  refine ⟨fun x Q Q' h q => ?_, fun B Z T H0 ε σ H xs ds Q r rs q => ?_⟩
  · unfold fDictC at q ⊢
    split at q
    · exact q.imp fun ps q => ⟨q.1, h _ q.2⟩
    · exact q.imp fun ps q => ⟨q.1, h _ q.2⟩
    · exact h _ q
    · exact q
  · have fin : ∀ {ds : List D} {vs : List V} {ps : List (Key × D)}, Rzs X.K (AvE B Z ε σ) H ds vs → ds.length ≤ sizeLine → pairsOf ds = some ps → (∀ v H', Aft Z T H H' → RV X.K (AvE B Z ε σ) Z H H' v (.fr (.dic (mergeKs [] ps) (mergeDs [] [] ps))) → Q v H') →
        ∃ (as : List Addr) (kvs : List (Key × V)), vs = as.map V.ref ∧ Paired (fun p kv => SqT X.K H p [kV kv.1, kv.2]) as kvs ∧ ∀ p, H p = none → Q (.ref p) (upd H p (.dK (mergeK [] kvs))) := fun {ds vs ps} h2 hl e q => by
      obtain ⟨as, kvs, e1, g1, g2, g3, g4⟩ := pairs_rz h2 e
      refine ⟨as, kvs, e1, g1, fun p hp => ?_⟩
      obtain ⟨ws, w1, w2⟩ := mergeK_zip ps kvs [] [] [] rfl .nil g2 g3
      have w1 : mergeK [] kvs = (mergeKs [] ps).zip ws := w1
      rw [w1]
      have ml := merge_len ps [] [] rfl
      exact q _ _ (Aft.new r.z hp) (r.newDic hp w2 ⟨ml.1, by have := ml.2; simp only [List.length_nil] at this; omega⟩)
    unfold fDictC at q
    split at q
    · obtain ⟨ps, e, q⟩ := q
      obtain ⟨v, rfl, h⟩ := rs.one
      obtain ⟨a, vs, rfl, h1, hl, h2⟩ := h.lst
      obtain ⟨as, kvs, rfl, g1, g2⟩ := fin h2 hl e q
      exact .inl ⟨a, as, kvs, rfl, .of h1, g1, g2⟩
    · obtain ⟨ps, e, q⟩ := q
      obtain ⟨v, rfl, h⟩ := rs.one
      obtain ⟨a, vs, rfl, h1, hl, h2⟩ := h.tup
      obtain ⟨as, kvs, rfl, g1, g2⟩ := fin h2 hl e q
      exact .inr (.inl ⟨a, as, kvs, rfl, h1.p, g1, g2⟩)
    · obtain ⟨v, rfl, h⟩ := rs.one
      obtain ⟨a, vs, rfl, h1, hl, h2⟩ := h.dic
      exact .inr (.inr ⟨a, _, rfl, h1, fun p hp => q _ _ (Aft.new r.z hp) (r.newDic hp h2 hl)⟩)
    · exact q.elim
theorem de_dict {W : WX} {e : Expr} {a : MJ} {p pos : Pos} (hc : X.calm = true) (hm : X.mg "dict" = none) (ha : DJ X W [e] a cha) (hg : Gl X "dict" := by rfl)
    (he : starEach (e :: []) X.env = (false, eval e X.env) :: starEach [] X.env := by rfl) (hpl : (backTo pos (starEach [] X.env)).any (·.1) = false := by rfl) : DE X W (.Call (.Name "dict" p) [e] [] pos) (mCB fDictC a) cha :=
  de_ct (CallR.or (call_dictP hc) (CallR.or (call_dictPT hc) call_dictD)) cbD_dict hm (by decide +kernel) ha hg (by decide) (by decide) he hpl
end
end G

namespace G
open PySem PySem.Spec PyProof.Rows L2
/-! ### dicts from names, made of pairs -/
theorem hasK_false {ks : List Key} {k : Key} (h : k ∉ ks) : hasK ks k = false := by
  unfold hasK
  rw [List.any_eq_false]
  intro x hx e
  exact h (by rw [← of_decide_eq_true e]; exact hx)
theorem merge_new : ∀ (ps : List (Key × D)) (ks : List Key) (ds : List D), ks.length = ds.length → (ks ++ ps.map (·.1)).Nodup → mergeKs ks ps = ks ++ ps.map (·.1) ∧ mergeDs ks ds ps = ds ++ ps.map (·.2)
  | [], ks, ds, _, _ => by simp [mergeKs, mergeDs]
  | p :: r, ks, ds, hl, h => by
    have hk : p.1 ∉ ks := fun hm => by
      rw [List.map_cons, List.nodup_append] at h
      exact h.2.2 _ hm _ (List.mem_cons_self ..) rfl
    have e1 : putKs ks p.1 = ks ++ [p.1] := by unfold putKs; rw [hasK_false hk]; rfl
    have e2 : putVs ks ds p.1 p.2 = ds ++ [p.2] := by unfold putVs; rw [hasK_false hk]; rfl
    have ih := merge_new r (ks ++ [p.1]) (ds ++ [p.2]) (by simp [hl]) (by rw [List.append_assoc]; exact h)
    unfold mergeKs mergeDs
    rw [e1, e2, ih.1, ih.2]
    simp
theorem pairsOf_map {α : Type} (f : α → Str) (g : α → D) : ∀ xs : List α, pairsOf (xs.map fun x => .tup [.str (f x), g x]) = some (xs.map fun x => (Sum.inr (f x), g x))
  | [] => rfl
  | x :: xs => by
    rw [List.map_cons, pairsOf, pairsOf_map f g xs]
    rfl
theorem dict_of {α : Type} (f : α → Str) (g : α → D) (xs : List α) (h : (xs.map f).Nodup) :
    mergeKs [] (xs.map fun x => (Sum.inr (f x), g x)) = (xs.map f).map Sum.inr ∧ mergeDs [] [] (xs.map fun x => (Sum.inr (f x), g x)) = xs.map g := by
  have hn : ((xs.map fun x => ((Sum.inr (f x) : Key), g x)).map (·.1)).Nodup := by
    rw [List.map_map]
    have : (xs.map ((fun p : Key × D => p.1) ∘ fun x => ((Sum.inr (f x) : Key), g x))) = (xs.map f).map Sum.inr := by rw [List.map_map]; rfl
    rw [this]
    exact List.pairwise_map.mpr (h.imp fun hab e => hab (by cases e; rfl))
  obtain ⟨h1, h2⟩ := merge_new (xs.map fun x => (Sum.inr (f x), g x)) [] [] rfl (by rw [List.nil_append]; exact hn)
  rw [h1, h2, List.nil_append, List.nil_append, List.map_map, List.map_map, List.map_map]
  exact ⟨rfl, rfl⟩
theorem parts_pairs (ps : Parts) : pairsOf (partsD ps) = some (ps.map fun p => (Sum.inr p.1, qR p.2)) := pairsOf_map (fun p : Str × Rat => p.1) (fun p => qR p.2) ps
theorem form_nodup {f : Parts} (h : FormOk f) : (f.map (·.1)).Nodup := rising_nodup h.1
/-- the dict of a form's parts -/
theorem dict_parts {f : Parts} (h : FormOk f) : mergeKs [] (f.map fun p => (Sum.inr p.1, qR p.2)) = (f.map (·.1)).map Sum.inr ∧ mergeDs [] [] (f.map fun p => (Sum.inr p.1, qR p.2)) = (f.map (·.1)).map fun n => qR (coef f n) := by
  obtain ⟨h1, h2⟩ := dict_of (fun p : Str × Rat => p.1) (fun p => qR p.2) f (form_nodup h)
  refine ⟨h1, h2.trans ?_⟩
  have e := form_coefs h
  rw [List.map_map]
  refine List.map_congr_left fun p hp => ?_
  rw [e] at hp
  obtain ⟨n, hn, rfl⟩ := List.mem_map.mp hp
  rfl
theorem get_form {f : Parts} (h : FormOk f) (n : Str) : (lookD (mergeKs [] (f.map fun p => (Sum.inr p.1, qR p.2))) (mergeDs [] [] (f.map fun p => (Sum.inr p.1, qR p.2))) (Sum.inr n)).getD (qR 0) = qR (coef f n) := by
  rw [(dict_parts h).1, (dict_parts h).2, lookD_str (f := fun n => qR (coef f n))]
  split
  · rfl
  · rename_i hn
    rw [coef_none hn]
    rfl
theorem dForm_formD {f : Form} (h : FormOk f.1) (hn : ∀ p ∈ f.1, dName (.str p.1) = true) : dForm (formD f) = true := by
  have e1 : (partsD f.1).all dPart = true := by
    rw [List.all_eq_true]
    intro d hd
    obtain ⟨p, hp, rfl⟩ := List.mem_map.mp hd
    show (dName (.str p.1) && (dNum (qR p.2) && !pyEq (qR p.2) (qR 0))) = true
    rw [hn p hp, dNum_qR, pyEq_qR]
    simp [h.2 p hp]
  have e2 : (partsD f.1).filterMap partName = f.1.map (·.1) := by
    unfold partsD
    rw [List.filterMap_map]
    induction f.1 with
    | nil => rfl
    | cons p r ih => simpa [partName, partD'] using ih
  show (dNum (qR f.2) && ((partsD f.1).all dPart && rising ((partsD f.1).filterMap partName))) = true
  rw [dNum_qR, e1, e2, h.1]
  rfl
theorem pyEqs_refl' {ds : List D} (h : ∀ d ∈ ds, d.noDic = true) : pyEqs ds ds = true := pyEqs_refl ds (noDics_all h)
theorem coef_perm {ps qs : Parts} (h : ps.Perm qs) (n : Str) : coef ps n = coef qs n := by
  induction h with
  | nil => rfl
  | cons p _ ih => show _ + coef _ n = _ + coef _ n; rw [ih]
  | swap p q r => show _ + (_ + coef r n) = _ + (_ + coef r n); rw [Rat.add_left_comm]
  | trans _ _ ih1 ih2 => rw [ih1, ih2]
theorem formOf_perm {ps qs : Parts} (h : ps.Perm qs) : formOf ps = formOf qs := form_ext (formOf_ok ps) (formOf_ok qs) fun n => by rw [coef_formOf, coef_formOf, coef_perm h]
theorem FitP.perm {ps qs : Parts} (h : FitP ps) (g : qs.Perm ps) : FitP qs := by
  obtain ⟨h1, b, h2, h3⟩ := h
  exact ⟨by rw [g.length_eq]; exact h1, b, fun p hp => h2 p (g.mem_iff.mp hp), by rw [g.length_eq]; exact h3⟩
theorem perm_map_ex {α β : Type} (f : α → β) : ∀ {ys : List β} {xs : List α}, ys.Perm (xs.map f) → ∃ zs : List α, ys = zs.map f ∧ zs.Perm xs := by
  intro ys xs h
  generalize e : xs.map f = l at h
  induction h generalizing xs with
  | nil => exact ⟨[], rfl, by cases xs with | nil => exact .nil | cons x r => cases e⟩
  | @cons a l1 l2 h ih =>
    cases xs with
    | nil => cases e
    | cons x r =>
      simp only [List.map_cons, List.cons.injEq] at e
      obtain ⟨rfl, e⟩ := e
      obtain ⟨zs, rfl, hz⟩ := ih e
      exact ⟨x :: zs, rfl, hz.cons x⟩
  | swap a b l =>
    match xs, e with
    | x :: y :: r, e =>
      simp only [List.map_cons, List.cons.injEq] at e
      obtain ⟨rfl, rfl, rfl⟩ := e
      exact ⟨y :: x :: r, rfl, .swap x y r⟩
  | trans h1 h2 ih1 ih2 =>
    obtain ⟨zs, rfl, hz⟩ := ih2 e
    obtain ⟨ws, rfl, hw⟩ := ih1 rfl
    exact ⟨ws, rfl, hw.trans hz⟩
theorem perm_erase {α : Type} {l : List α} {n : Nat} {d : α} (h : l[n]? = some d) : (d :: l.eraseIdx n).Perm l := by
  induction l generalizing n with
  | nil => simp at h
  | cons a r ih =>
    cases n with
    | zero => simp at h; subst h; exact .refl _
    | succ n =>
      have := ih (n := n) (by simpa using h)
      exact (List.Perm.swap a d _).trans (this.cons a)
theorem pl_str {n : Nat} {x : Str} (h : goodT x) : D.pl n (.str x) := by unfold D.pl; exact h
theorem pl_part {n : Nat} {p : Str × Rat} (h : goodT p.1) : D.pl (n + 2) (partD' p) := pl_tup fun d hd => by
  simp only [List.mem_cons, List.not_mem_nil, or_false] at hd
  rcases hd with rfl | rfl
  · exact pl_str h
  · exact pl_qR
theorem pl_formD {n : Nat} {f : Form} (h : ∀ p ∈ f.1, goodT p.1) : D.pl (n + 4) (formD f) := pl_tup fun d hd => by
  simp only [List.mem_cons, List.not_mem_nil, or_false] at hd
  rcases hd with rfl | rfl
  · refine pl_tup fun d hd => ?_
    obtain ⟨p, hp, rfl⟩ := List.mem_map.mp hd
    exact pl_part (h p hp)
  · exact pl_qR (n := n + 2)
theorem range_lt {lo : Int} {n : Nat} {i : Nat} {d : D} (h : (rangeD lo n)[i]? = some d) : i < n := by
  have := (List.getElem?_eq_some_iff.mp h).1
  unfold rangeD at this
  simpa using this
theorem cl_small {n : Nat} {i : Int} (h : i.natAbs < 100) : D.cl n (.int i) := cl_int (show _ < 2 ^ 1900 by
  have : (100 : Nat) < 2 ^ 1900 := by decide +kernel
  exact Nat.lt_trans h this)
theorem cl_pair {n : Nat} {a b : Int} (ha : a.natAbs < 100) (hb : b.natAbs < 100) : D.cl (n + 1) (.tup [.int a, .int b]) := cl_tup (by simp) fun d hd => by
  simp only [List.mem_cons, List.not_mem_nil, or_false] at hd
  rcases hd with rfl | rfl
  · exact cl_small ha
  · exact cl_small hb
end G

namespace G
open PySem PySem.Spec PyProof.Rows L2
/-! ### a list is not [] -/
section
variable {X : Cx}
def rNeL (K : Frag) : R2 := fun x y H Q => ∃ a b xs, x = .ref a ∧ y = .ref b ∧ SqL K H a xs ∧ SqL K H b [] ∧ Q (.bl (!xs.isEmpty)) H
theorem op_neL (hu : X.A.units < cLine) : OpR X (compareOp .NotEq) (rNeL X.K) := by
  intro pins s σ H x y v u Q I rx ry h
  obtain ⟨a, b, xs, rfl, rfl, h1, h2, q⟩ := h
  cases rx
  cases ry
  obtain ⟨its, r1, p1, z1⟩ := I.list h1
  obtain ⟨ws, r2, p2, z2⟩ := I.list h2
  cases r2
  cases r1 with
  | nil =>
    have z := SeqAt.RcNeAt.lists (A := X.A) (s := s) (e := fun _ => true) p1.isList p2.isList rfl hu (fun j h1 h2 => absurd h1 (by simp))
    refine z _ _ _ _ ⟨.bl _, H, I, ?_, q⟩
    show Value.bool _ = Value.bool _
    simp
  | cons r rs =>
    have z := SeqAt.RcNeAt.lists_lengths (A := X.A) (s := s) p1.isList p2.isList (by simp) hu
    exact z _ _ _ _ ⟨.bl _, H, I, rfl, q⟩
end
/-! ### isinstance(e, C), C an own class of errors -/
/-- the class of errors d -/
structure ExD (K : Frag) (mg : Str → Option Value) (d : Str) : Prop where
  at_ : ∃ D, mg d = some (.ref D) ∧ clsOf K d = some D ∧ ∀ s ∈ ["NoneType", "bool", "int", "str", "tuple", "list", "dict"], PySem.W.kitOne K (.type s) (.ref D) = some false
  own : d ∈ excNames
def D.isE (d : Str) : D → Bool
  | .exc c => decide (c = d)
  | _ => false
theorem ty_mem (d : D) (ne : ∀ c, d ≠ .exc c) : d.ty ∈ ["NoneType", "bool", "int", "str", "tuple", "list", "dict"] := by
  cases d <;> first | exact absurd rfl (ne _) | simp [D.ty]
def mIsE (d : Str) (a : MI) : ME := fun ε Q Ex => a ε (fun x => Q (.fz (.bl (x.isE d)))) Ex
section
variable {X : Cx} {W : WX} {e : Expr} {p p2 pos : Pos}
theorem de_isE {T : Str} {a : MI} {cha : Nat} (E : ExD X.K X.mg T) (hm : X.mg "isinstance" = none) (ha : DI X W e a cha) (hg : Gl X "isinstance" := by rfl) (hgT : Gl X T := by rfl)
    (hd : (T == ("__debug__" : Str)) = false := by decide) (hs1 : starEach [.Name T p2] X.env = (false, eval (.Name T p2) X.env) :: starEach [] X.env := by rfl)
    (he : starEach (e :: [.Name T p2]) X.env = (false, eval e X.env) :: starEach [.Name T p2] X.env := by rfl) (hpl : (backTo pos (starEach [.Name T p2] X.env)).any (·.1) = false := by rfl) : DE X W (.Call (.Name "isinstance" p) [e, .Name T p2] [] pos) (mIsE T a) cha := by
  obtain ⟨t, pa, la⟩ := ha
  obtain ⟨D, gD, cD, kD⟩ := E.at_
  refine ⟨_, pe_callB (CallR.or call_isi call_isX) hg hm boot_isinstance (pa_cons pa (pa_cons (pe_glob (v := .ref D) hgT gD rfl hd) pa_nil hs1) he) (by decide) (by decide) he hpl, fun ε Q Q' Ex Ex' hq hx q => la.mono ε _ _ _ _ (fun d q => hq _ q) hx q, fun B Z T H0 ε σ H Q Ex hL r hx q => ?_⟩
  refine la.run B Z H0 ε σ H _ Ex r (hx.at (T + cha)) (la.mono ε _ _ _ _ (fun d q v H1 a1 rv => ?_) (fun _ x => x) q)
  cases d with
  | exc c =>
    obtain ⟨a, C, rfl, h1, h2⟩ := rv.exc
    exact .inr ⟨a, C, .ref D, _, _, rfl, .own D, h1, h2.ok, h2.own _ E.own D cD, q _ H1 a1 (RV.mk rz_bl)⟩
  | _ => exact .inl ⟨v, .ref D, _, _, _, rfl, .own D, rv.ty (fun c z => nomatch z), kD _ (ty_mem _ fun c z => nomatch z), q _ H1 a1 (RV.mk rz_bl)⟩
end
/-! ### what is caught is kept -/
theorem Inv.trk {X : Cx} {pins : List (Addr × Obj)} {σ : St} {H : Hp} {s : Shared} {a C : Addr} {oe : Obj} (I : Inv X pins σ H s) (h0 : X.s_0.heap.get? a = none) (hc : ∀ x c, X.env.cells.lookup x = some c → c ≠ a) (hp : ∀ p ∈ X.pn ++ pins, p.1 ≠ a) (nL : a ≠ X.env.locals) (na : H a = none)
    (ho : PySem.W.InstAt s.heap a oe C none) : Inv X pins σ (upd H a (ExcO a C)) s := by
  have ne : ∀ b u, H b = some u → b ≠ a := fun b u e => ne_of_none e na
  refine ⟨I.ok, I.os, I.bare, ⟨I.base.keep, I.base.slot, fun b o e n hx => ?_, I.base.there, fun b xs e => ?_, fun b o xs e => ?_, fun b ps e => ?_⟩, I.loc, I.cell, by rw [upd_ne (Ne.symm nL)]; exact I.free, fun x c e => by rw [upd_ne (hc x c e)]; exact I.freeC x c e, fun p h => ?_, fun b u e => ?_, I.len⟩
  · rw [upd_ne (fun z => by rw [z, h0] at e; cases e)]
    exact I.base.free b o e n hx
  · have z := I.base.tups b xs e
    rw [upd_ne (ne _ _ z)]; exact z
  · have z := I.base.frzs b o xs e
    rw [upd_ne (ne _ _ z)]; exact z
  · obtain ⟨m, z⟩ := I.base.tbls b ps e
    exact ⟨m, by rw [upd_ne (ne _ _ z)]; exact z⟩
  · obtain ⟨k1, k2, k3⟩ := I.pin p h
    exact ⟨k1, by rw [upd_ne (hp p h)]; exact k2, k3⟩
  · by_cases hb : b = a
    · subst hb
      rw [upd_same] at e
      cases e
      refine ⟨⟨oe, ho⟩, ⟨oe, ho.at_⟩, fun h1 h2 ⟨o, i⟩ st => ⟨o, ⟨st _ i.at_, i.cls, i.no, ?_⟩⟩⟩
      have z := i.dict
      cases hd : o.dict with
      | none => trivial
      | some d => rw [hd] at z; exact z
    · rw [upd_ne hb] at e
      exact (I.hok b u e).stay (fun _ _ _ q => q) (fun c q => by rw [upd_ne (ne _ _ q)]; exact q) fun c xs q => by rw [upd_ne (ne _ _ q)]; exact q
/-- what the clause 'except x as n' wishes: behind the suite the error is known -/
def wTrk (K : Frag) (c : Value) (i : Nat) (ts : Addr → Value → Option Addr → TS) (Wout : WX) (D : Ends) : WX := fun cls d σ H =>
  ∃ b, PySem.W.exmOne K cls c = some b ∧ (b = true → ∃ C, cls = .ref C ∧ d = none ∧ ∀ a, H a = none → ts a cls d { nx := fun σ' H' => H' a = none → D.nx (σ'.set i none) (upd H' a (ExcO a C)), rt := fun _ _ => False } (σ.set i (some (.ref a))) H) ∧ (b = false → Wout cls d σ H)
section
variable {X : Cx} {x n : Str} {c : Value} {i : Nat} {body suite : List Stmt} {b₀ : Stmt} {np pos pos' : Pos} {tb : WX → TS} {ts : Addr → Value → Option Addr → TS} {Wout : WX}
theorem ps_try_trk (hs : X.stack = X.env :: X.outer) (hf : X.env.frame = some X.env.locals) (hex : X.ex = []) (hN : X.N.Nodup) (hi : X.N[i]? = some n) (hln : X.env.kindOf n = some .local) (hc : Names X x c) (tk : Takes X Wout)
    (hb : ∀ (W : WX) (pn : List (Addr × Obj)) (xe : Value → Shared → Prop), Takes (X.tr pn xe) W → PassesOwn (model X.prog X.w) X.A X.env xe → PSs (X.tr pn xe) body (tb W))
    (hsu : ∀ (a : Addr) (oe : Obj) (cls : Value) (d : Option Addr) (pn : List (Addr × Obj)), Zc cls d oe → (∃ vs, oe.data = .fields vs) → PSs (X.suite a ((a, oe) :: pn)) (b₀ :: suite) (ts a cls d)) :
    PS X (.Try body [.ExceptHandler (some (.Name x np)) (some n) (b₀ :: suite) pos'] [] [] pos) (fun D σ H => tb (wTrk X.K c i ts Wout D) D σ H) := by
  refine ⟨fun pins s σ H D I h => ?_⟩
  have ok := I.ok
  have hfr : X.A.frames = some (X.env :: X.outer) := by rw [ok.frames, hs]
  have hloc : Loc X.env.scope n := .inl hln
  refine wpAny_Try_except ?_
  refine wpAny_mono ((hb (wTrk X.K c i ts Wout D) (X.pn ++ pins) (fun e s₁ => wpAny (model X.prog X.w) X.A (noteFrame e X.env) (fun _ s₂ => wpAny (model X.prog X.w) X.A (setFlight e none) (fun _ s₃ =>
    wpAny (model X.prog X.w) X.A (handleBy e X.env [.ExceptHandler (some (.Name x np)) (some n) (b₀ :: suite) pos']) (SP X pins D) X.xe s₃) X.xe s₂) X.xe s₁) (fun u s' xx => ?_) PassesOwn.looking).run [] s σ H D (I.toTry _) h) (fun f s1 hsp => ?_) (fun e s1 he => he)
  · -- the catch
    obtain ⟨a, B, sI, pins', σ', H', cls, d, rfl, J', nb, up, sky, na, os, ag, b, hb1, hyes, hno⟩ := xx
    have J : Inv X pins σ' H' sI := J'.ofTry ok
    have sky' : Sky B (X.env :: X.outer) a (Zc cls d) X.env.locals s'.heap := by rw [← hs]; exact sky
    show wpAny (model X.prog X.w) X.A (noteFrame (.ref a) X.env) _ _ _
    refine Sky.land Zc.steady hfr hf sky' fun h3 fl3 up3 => ?_
    have J3 : Inv X pins σ' H' { s' with heap := h3 } := J.landed nb fl3.1 (up.trans up3) os ag
    obtain ⟨oe3, vs3, he3, hz3, hd3⟩ := fl3.there
    have notFr : ∀ {h : Heap} {o : Obj} {vs : Array Value}, h.FunFrames B (X.env :: X.outer) → h.get? a = some o → o.data = .fields vs → a ∉ frs (X.env :: X.outer) := fun {h o vs} ff e dd hm => by
      obtain ⟨_, o', e', hnf⟩ := ff.mem hm
      rw [e] at e'; cases e'
      exact hnf _ dd
    have nfr := notFr fl3.2.2.1 he3 hd3
    have nL : a ≠ X.env.locals := fun z => nfr (List.mem_filterMap.mpr ⟨X.env, List.mem_cons_self, by rw [hf, z]⟩)
    have nF : a ∉ X.fs := fun hm => by
      obtain ⟨e, he, q⟩ := List.mem_filterMap.mp hm
      exact nfr (List.mem_filterMap.mpr ⟨e, List.mem_cons_of_mem _ he, q⟩)
    -- the error is new
    have noI : sI.heap.get? a = none := by
      cases e : sI.heap.get? a with
      | none => rfl
      | some o =>
        have z := nb a o e (by rw [hs]; exact nfr)
        rw [fl3.2.1] at z
        cases z
    have no0 : X.s_0.heap.get? a = none := by
      cases e : X.s_0.heap.get? a with
      | none => rfl
      | some o =>
        obtain ⟨o', z⟩ := J.base.there a o e (by rw [hex]; exact List.not_mem_nil)
        rw [noI] at z
        cases z
    have noC : ∀ x c, X.env.cells.lookup x = some c → c ≠ a := fun x c e z => by
      obtain ⟨v, o, ho, _⟩ := J.cell x c e
      rw [z, noI] at ho
      cases ho
    have noP : ∀ p ∈ X.pn ++ pins, p.1 ≠ a := fun p hp z => by
      obtain ⟨k1, _⟩ := J.pin p hp
      rw [z, noI] at k1
      cases k1
    have S3 := J3.suite he3 hd3 na nL nF
    refine wpAny_handleBy_cons (codeAny_handlers_test ?_) (by intro q; cases q)
    have LT : PySem.W.Looks (model X.prog X.w) h3 (typeOf (.ref a)) cls := fun A Q E s k q => wpAny_typeOf_ref (k _ _ he3) (by rw [hz3.1]; exact q)
    have LM := PySem.W.exm_one (M := model X.prog X.w) (J3.kIn) LT hb1
    have test : ∀ {Q : Value → Shared → Prop} {E : Value → Shared → Prop}, Q c { s' with heap := h3 } → wpAny (model X.prog X.w) (X.A.mark (some (.ref a))) (eval (.Name x np) X.env) Q E { s' with heap := h3 } := fun {Q E} q => by
      obtain ⟨hg, hdbg, hm | ⟨hm, hv, hnn⟩⟩ := hc
      · exact ld_glob (X := X.suite a ((a, oe3) :: (X.pn ++ pins))) S3 hg hm q hdbg
      · exact ld_blt (X := X.suite a ((a, oe3) :: (X.pn ++ pins))) S3 hg hm hv q hnn hdbg
    refine test (LM.here ?_)
    cases b with
    | true =>
      obtain ⟨C, rfl, rfl, hyes⟩ := hyes rfl
      refine codeAny_handlers_suite_as ?_
      refine HandSPX.lands_againZ fl3 fun h4 fl4 up4 => ?_
      have J4 : Inv X pins σ' H' { s' with heap := h4 } := J.landed nb fl4.1 ((up.trans up3).trans up4) os ag
      obtain ⟨oe4, vs4, he4, hz4, hd4⟩ := fl4.there
      have S4 := J4.suite he4 hd4 na nL nF
      refine store_ok (X := X.suite a ((a, oe4) :: (X.pn ++ pins))) (v := .ref a) S4 hN hi hloc rfl (fun s5 S5 => ?_) (.inr hln)
      refine wpAny_mono ((hsu a oe4 (.ref C) none (X.pn ++ pins) hz4 ⟨_, hd4⟩).run [] s5 _ H' _ S5 (hyes a na)) (fun f s6 hsp => ?_) (fun _ _ z => False.elim z)
      cases f with
      | next =>
        obtain ⟨σ6, H6, S6, q6⟩ := hsp
        have S6' : Inv X ((a, oe4) :: pins) σ6 H6 s6 := ⟨ok, S6.os, S6.bare, S6.base, S6.loc, S6.cell, S6.free, S6.freeC, fun p hp => S6.pin p (by
          rcases List.mem_append.mp hp with hp | hp
          · exact List.mem_append_left _ (List.mem_cons_of_mem _ (List.mem_append_left _ hp))
          · rcases List.mem_cons.mp hp with hp | hp
            · rw [hp]; exact List.mem_append_left _ List.mem_cons_self
            · exact List.mem_append_left _ (List.mem_cons_of_mem _ (List.mem_append_right _ hp))), S6.hok, S6.len⟩
        refine gone_ok S6' hN hi hln fun s7 J7 => ?_
        obtain ⟨g7, n7, _⟩ := J7.pin (a, oe4) (List.mem_append_right _ List.mem_cons_self)
        have J8 : Inv X pins (σ6.set i none) H6 s7 := ⟨ok, J7.os, J7.bare, J7.base, J7.loc, J7.cell, J7.free, J7.freeC, fun p hp => J7.pin p (by
          rcases List.mem_append.mp hp with hp | hp
          · exact List.mem_append_left _ hp
          · exact List.mem_append_right _ (List.mem_cons_of_mem _ hp)), J7.hok, J7.len⟩
        have inst : PySem.W.InstAt s7.heap a oe4 C none := by
          obtain ⟨oc, od, oda, osl⟩ := oe4
          obtain ⟨h1, h2⟩ := hz4
          dsimp only at h1 h2 hd4
          subst h1 h2 hd4
          exact ⟨g7, rfl, rfl, trivial⟩
        exact ⟨_, _, Inv.trk J8 no0 noC noP nL n7 inst, q6 n7⟩
      | brk =>
        obtain ⟨_, _, _, q6⟩ := hsp
        exact q6.elim
      | cont =>
        obtain ⟨_, _, _, q6⟩ := hsp
        exact q6.elim
      | ret u =>
        obtain ⟨_, _, _, _, _, q6⟩ := hsp
        exact q6.elim
    | false =>
      show wpAny _ X.A (handleBy (.ref a) X.env []) _ _ _
      refine wpAny_handleBy_nil ?_
      obtain ⟨k1, k2, k3, oe, vs, T, oT, ts', he, hz, hd, h1, hr⟩ := id fl3
      unfold PySem.passOn
      refine wpAny_bind (wpAny_field he hd h1 ?_)
      rw [if_neg (show ¬ ((Value.ref T == Value.none) = true) from by simp)]
      have fin : wpAny (model X.prog X.w) X.A (setFlight (.ref a) X.env.frame) (fun _ s4 => wpAny (model X.prog X.w) X.A (throw (.ref a) : Sem Flow) (SP X pins D) X.xe s4) X.xe { s' with heap := h3 } := by
        rw [hf]
        refine HandSPX.setFlight_upZ fl3 fun h4 hh4 up4 => wpAny_throw (tk _ _ ?_)
        exact ⟨a, B, sI, pins, σ', H', cls, d, rfl, J, nb, (up.trans up3).trans up4, .inr (.inr (by rw [hs]; exact hh4)), na, os, ag, hno rfl⟩
      first
        | exact wpAny_bind (wpAny_pure (wpAny_bind fin))
        | exact wpAny_bind fin
  · cases f with
    | next =>
      obtain ⟨σ', H', J', q⟩ := hsp
      exact wpAny_execs_nil ⟨σ', H', J'.ofTry ok, q⟩
    | brk =>
      obtain ⟨σ', H', J', q⟩ := hsp
      exact ⟨σ', H', J'.ofTry ok, q⟩
    | cont =>
      obtain ⟨σ', H', J', q⟩ := hsp
      exact ⟨σ', H', J'.ofTry ok, q⟩
    | ret u =>
      obtain ⟨v, σ', H', J', r, q⟩ := hsp
      exact ⟨v, σ', H', J'.ofTry ok, r, q⟩
end
end G

namespace G
open PySem PySem.Spec PyProof.Rows L2 LamX
/-! ### a lambda called, what its errors wish told at the slots that stand -/
section
variable {X : Cx} {pins : List (Addr × Obj)} {σ : St} {H : Hp} {s : Shared}
theorem pe_actS {CXg : CXT} {Eg : XK} {Ng : List Str} {qg : Str} {sg : Scope} {g f c' : Addr} {cdg pm ctv : Value} {params : Arguments} {body : Expr} {scope : Scope} {k i : Nat} {a : Str} {pn : List (Addr × Obj)} {xe : Value → Shared → Prop} {W : WX} {tb : XK → TE} {p1 p2 : Pos}
    (I : Inv X pins σ H s) (L : LamS X.env.scope scope) (hf : s.heap.get? f = some (PySem.W.kla_obj "<lambda>" (X.env.qual ++ "<lambda>") params body scope (cloFrom X.env.cells scope.names []) pm c' ctv)) (hfn : H f = none) (hfr : f ∉ frs X.stack)
    (hbind : bindArgs (PySem.W.kla_fn "<lambda>" (X.env.qual ++ "<lambda>") params body scope (cloFrom X.env.cells scope.names []) pm (.ref c') ctv) ⟨[], []⟩ = pure [])
    (tk : Takes ((cxOf CXg X.prog X.w X.K X.mg X.base Ng qg sg g cdg X.A X.stack s H Eg).tr pn xe) W) (hr : Room (k + 1) (X.A.deeper (envOfC qg sg s.heap.objs.size g cdg)))
    (hbody : ∀ (A : Around) (outer : List PySem.Env) (s : Shared) (H : Hp) (E : XK), Room k (A.deeper (lamEnv X scope s.heap.objs.size f c')) → PE (lamCx X A outer s H E scope f c') body (tb E))
    (hN : Ng[i]? = some a) (hv : Vis sg a) (hd : (a == ("__debug__" : Str)) = false := by decide) (hcd : (a == ("__classdict__" : Str)) = false := by decide) :
    PE ((cxOf CXg X.prog X.w X.K X.mg X.base Ng qg sg g cdg X.A X.stack s H Eg).tr pn xe) (.Call (.Name a p1) [] [] p2)
      (fun σZ HZ Q => ∃ E : XK, (∀ cls d H', E cls d H' → W cls d σZ H') ∧ σZ[i]? = some (some (.ref f)) ∧ HZ c' = some (CodeO c' (X.env.qual ++ "<lambda>")) ∧ tb E σ HZ Q) := by
  refine ⟨fun pinsZ sZ σZ HZ Q IZ ⟨E, hW, hs, hc, ht⟩ => ?_⟩
  refine wpAny_Call_Name_kw (thn ((pe_var (pos := p1) (i := i) hN hv hd hcd).run pinsZ sZ σZ HZ (fun v H1 => v = .ref f ∧ H1 = HZ) IZ ⟨.ref f, hs, rfl, rfl⟩) fun u s1 ⟨v, H1, I1, r1, ev, eH⟩ => ?_)
  subst ev
  rw [eH] at I1
  obtain rfl : u = Value.ref f := r1
  have of1 := I1.base.keep f _ hf hfn hfr (fun z => nomatch (show f ∈ ([] : List Addr) from z))
  refine PySem.W.callWith_F0 ⟨_, _, _, _, of1⟩ ?_
  have un : Un (frs X.stack) [] H HZ s.heap s1.heap := I1.base
  obtain ⟨⟨oc, vs, t, hoc, hdc, hvc⟩, _, _⟩ := I1.hok c' _ hc
  have rc : codeAny (model X.prog X.w) (X.A.deeper (envOfC qg sg s.heap.objs.size g cdg)) (.call (.ref f) ⟨[], []⟩) (CR (L2.CX X.prog X.w) (envOfC qg sg s.heap.objs.size g cdg :: X.stack) X.prog X.w HZ s1 Q E) s1 := PySem.W.kla_callFunE hr.depth of1 rfl L.co L.gen rfl ⟨c', oc, vs, t, rfl, hoc, hdc, hvc⟩ (by
    rw [hbind]
    refine wpAny_pure (wpAny_newFunctionEnv (fun y hy => (L.own y hy).2) (fun y hy => absurd hy (by simp)) (fun h₁ hns hsb => ⟨I1.nolimit.fresh _ hsb, ?_⟩) L.kind)
    show codeAny _ _ (.expr body (lamEnv X scope s1.heap.objs.size f c')) _ _
    have J := lam_start2 (E := E) (f := f) (c' := c') (tk := s1.toks + ([] : List (Str × Value)).length) I L I1.env0 hr.hd un hns fun b o e => hsb.extBut b o (Nat.ne_of_lt (Heap.lt_size e)) (Heap.get?_push_of_some _ e)
    refine PySem.W.kla_codeExpr (wpAny_mono ((hbody _ _ s1 HZ E (hr.deeper _)).run [] _ _ HZ Q J ht) (fun v s' ⟨w', H', J', rv, q⟩ => ⟨w', H', J'.os, J'.bare, J'.base, J'.hok, rv, q⟩) fun e s' hq => hq))
  refine wpAny_call (codeAny_mono rc fun r s' hq => ?_)
  cases r with
  | error e => exact tk e s' (XE.of_call I1 (fun cls d H' h => hW cls d H' h) hq)
  | ok fl =>
    cases fl with
    | ret u => exact I1.after hq
    | next => exact False.elim hq
    | brk => exact False.elim hq
    | cont => exact False.elim hq
end
/-- the def that calls what it got: TT, what it makes of the lambda's reading -/
def GivesS (X : Cx) (Ng : List Str) (x : Str) (sg : Scope) (g : Addr) (cdg : Value) (bg : List Stmt) (a : Str) (q : Str) (TT : (XK → Hp → VK → Prop) → Hp → VK → Prop) : Prop :=
  ∀ (f c' : Addr) (s : Shared) (H : Hp) (Q : VK) (tl : XK → Hp → VK → Prop), (∀ (W : WX) (pn : List (Addr × Obj)) (xe : Value → Shared → Prop) (p1 p2 : Pos), Takes ((cxOf C8.CX0 X.prog X.w X.K X.mg X.base Ng x sg g cdg X.A X.stack s H C8.E0).tr pn xe) W →
      PE ((cxOf C8.CX0 X.prog X.w X.K X.mg X.base Ng x sg g cdg X.A X.stack s H C8.E0).tr pn xe) (.Call (.Name a p1) [] [] p2) (fun σZ HZ Q => ∃ E : XK, (∀ cls d H', E cls d H' → W cls d σZ H') ∧ σZ[0]? = some (some (.ref f)) ∧ HZ c' = some (CodeO c' q) ∧ tl E HZ Q)) →
    (∀ E H Q Q', (∀ v H', Q v H' → Q' v H') → tl E H Q → tl E H Q') → H c' = some (CodeO c' q) → TT tl H Q → ∃ t, PSs (cxOf C8.CX0 X.prog X.w X.K X.mg X.base Ng x sg g cdg X.A X.stack s H C8.E0).nox bg t ∧ t { nx := fun _ H' => Q .non H', rt := Q } (L2.start Ng [.ref f]) H
theorem pe_lamcallS {X : Cx} {T : List (Addr × Str)} {TT : (XK → Hp → VK → Prop) → Hp → VK → Prop} {x a : Str} {g c P : Addr} {k : Nat} {pg : Arguments} {bg : List Stmt} {sg : Scope} {dV kV doc pm cdv ct oc : Value} {an od : Option Addr} {osl : Array (Option Value)} {Ng : List Str}
    {params : Arguments} {body : Expr} {scope : Scope} {t : XK → TE} {p lpos pos : Pos} (hg : Gl X x) (hm : X.mg x = some (.ref g)) (hk : PySem.W.keepIn X.K (.ref g) = true)
    (lk : X.K.lookup g = some ⟨oc, od, .func (PySem.W.fnOf x x pg bg sg dV kV doc pm an cdv ct), osl⟩) (hcg : PySem.W.codeIn X.K cdv x = true) (hb : L2.Binds X.K (PySem.W.fnOf x x pg bg sg dV kV doc pm an cdv ct) [a] []) (Sg : FnScope Ng [a] sg) (hNg : Ng[0]? = some a) (hva : Vis sg a)
    (hG : GivesS X Ng x sg g cdv bg a (X.env.qual ++ "<lambda>") TT)
    (TB : TabB X.base X.mg c P) (hcode : X.env.code = .ref c) (hmT : (P, X.env.qual ++ "<lambda>") ∈ T) (hu : ∀ p ∈ T, p.1 = P → p.2 = X.env.qual ++ "<lambda>") (hr : Room (k + 2) X.A) (L : LamS X.env.scope scope) (hdef : defaultsOf params X.env = ([], []))
    (hbind : ∀ (q : Str) (cl : List (Str × Addr)) (pm cv ctv : Value), bindArgs (PySem.W.kla_fn "<lambda>" q params body scope cl pm cv ctv) ⟨[], []⟩ = pure [])
    (hbody : ∀ (A : Around) (outer : List PySem.Env) (s : Shared) (H : Hp) (E : XK) (f c' : Addr), Room k (A.deeper (lamEnv X scope s.heap.objs.size f c')) → PE (lamCx X A outer s H E scope f c') body (t E))
    (hmo : ∀ E σ H Q Q', (∀ v H', Q v H' → Q' v H') → t E σ H Q → t E σ H Q') (hdb : (x == ("__debug__" : Str)) = false) (hd : (a == ("__debug__" : Str)) = false) (hcd : (a == ("__classdict__" : Str)) = false) :
    PE X (.Call (.Name x p) [.Lambda params body scope lpos] [] pos) (tLam T TT t) := by
  refine ⟨fun pins s σ H Q I ⟨hT, h⟩ => ?_⟩
  refine wpAny_Call_Name_kw (ld_glob I hg hm (PySem.W.callWith_K (h₀ := X.base) I.ok.mod.kin hk ?_ (by rfl) (by rfl)) hdb)
  show wpAny _ _ (spliced ((false, eval (.Lambda params body scope lpos) X.env) :: backTo pos (starEach [] X.env))) _ _ s
  refine Calls.spliced_cons (lam_make2 I TB hcode hmT hu hT hdef (L.has I.ok) fun f c' pm' ctv H1 s' I1 eN T1 hf hfn hfr hco => Calls.spliced_nil ⟨I1.kIn, ?_⟩)
  have rc : codeAny (model X.prog X.w) X.A (.call (.ref g) ⟨[.ref f], []⟩) (CR C8.CX0 X.stack X.prog X.w H1 s' Q C8.E0) s' := run_ofS (N := Ng) (ps := [a]) (us := [.ref f]) (vs := [.ref f]) lk hcg Sg hr I1.env0 (hb s' [.ref f] I1.kIn rfl) (.cons rfl .nil) rfl fun hr' => by
    obtain ⟨t', ht', hq'⟩ := hG f c' s' H1 Q (fun E H' Q' => t E σ H' Q') (fun W pn xe p1 p2 tk => pe_actS (i := 0) I1 L hf hfn hfr (hbind _ _ _ _ _) tk hr' (fun A outer s H E hr2 => hbody A outer s H E f c' hr2) hNg hva hd hcd) (fun E H Q Q' h1 h2 => hmo E σ H Q Q' h1 h2) hco (h H1 eN T1)
    exact ⟨t', ht'.nox, hq'⟩
  refine wpAny_call (codeAny_mono rc fun r s2 hq => ?_)
  cases r with
  | error e => exact (show False from hq).elim
  | ok fl =>
    cases fl with
    | ret u => exact I1.after hq
    | next => exact False.elim hq
    | brk => exact False.elim hq
    | cont => exact False.elim hq
/-! ### _law_caught(lambda: e) -/
/-- what it makes of the lambda's reading -/
def TTc (K : Frag) (CW : Addr) : (XK → Hp → VK → Prop) → Hp → VK → Prop := fun tl H Q => ∀ p, H p = none →
  tl (fun cls d H2 => H2 p = some (.lst []) ∧ PySem.W.exmOne K cls (.ref CW) = some true ∧ ∃ C, cls = .ref C ∧ d = none ∧ ∀ a, H2 a = none → ∀ q, upd (upd H2 p (.lst [.ref a])) a (ExcO a C) q = none → Q (.ref a) (upd (upd (upd H2 p (.lst [.ref a])) a (ExcO a C)) q (.lst [])))
    (upd H p (.lst [])) (fun _ H2 => H2 p = some (.lst []) ∧ ∀ q, H2 q = none → Q .non (upd H2 q (.lst [])))
theorem tOfE_mono {K : Frag} {mg : Str → Option Value} {W : WX} {m : ME} {c : Nat} (mo : ∀ ε Q Q' Ex Ex', (∀ x, Q x → Q' x) → (∀ c, Ex c → Ex' c) → m ε Q Ex → m ε Q' Ex') {σ : St} {H : Hp} {Q Q' : VK} (h : ∀ v H', Q v H' → Q' v H') (t : tOfE K mg W m c σ H Q) : tOfE K mg W m c σ H Q' := by
  obtain ⟨B, Z, T, T', H0, ε, Ex, hT, r, hx, q⟩ := t
  exact ⟨B, Z, T, T', H0, ε, Ex, hT, r, hx, mo _ _ _ _ _ (fun iv z v H' a rv => h _ _ (z v H' a rv)) (fun _ z => z) q⟩
/-- a refusal is caught, and known -/
def Caughts (K : Frag) (mg : Str → Option Value) (CW : Addr) (cs : List Str) : Prop := ∀ c ∈ cs, ∃ C, mg c = some (.ref C) ∧ ExcN K c C ∧ PySem.W.exmOne K (.ref C) (.ref CW) = some true
def mCaught (cs : List Str) (m : ME) : ME := fun ε Q _ => m (blkE ε []) (fun _ => Q (.fz .non)) (fun c => c ∈ cs ∧ Q (.fz (.exc c)))
abbrev WL (E : XK) : WX := fun cls d _ H => E cls d H
section
variable {X : Cx} {W : WX}
theorem lift_caught {CW : Addr} {cs : List Str} {m : ME} {c : Nat} (mo : ∀ ε Q Q' Ex Ex', (∀ x, Q x → Q' x) → (∀ c, Ex c → Ex' c) → m ε Q Ex → m ε Q' Ex') (hcs : Caughts X.K X.mg CW cs) :
    LiftE X W (tLam (lamTabs X.K) (TTc X.K CW) (fun E => tOfE X.K X.mg (WL E) m c)) (mCaught cs m) c := by
  refine ⟨fun ε Q Q' Ex Ex' hq hx q => mo _ _ _ _ _ (fun _ z => hq _ z) (fun c z => ⟨z.1, hq _ z.2⟩) q, fun B Z T H0 ε σ H Q Ex hL r hx q => ?_⟩
  refine ⟨by rw [← r.tb]; exact r.z.2, fun H1 e1 t1 p hp => ?_⟩
  have a1 : Aft Z T H H1 := by
    refine ⟨fun b o _ e => ⟨e1 b o e.1 e.2, e.2⟩, ?_, by rw [r.tb]; exact t1⟩
    have z := r.z.1
    obtain ⟨Z1, Z2⟩ := Z
    cases Z1 with
    | none => trivial
    | some t => obtain ⟨x, y, w⟩ := t; exact stOk_at z fun b o _ e => ⟨e1 b o e.1 e.2, e.2⟩
  have r1 := r.aft a1
  have nZ : ¬ inZ Z p := fun z => (r1.z.trk z).ne hp
  have a2 : Aft Z T H1 (upd H1 p (.lst [])) := Aft.new r1.z hp
  have r2 : RE X.K (fun a => B a ∨ Own ε σ a ∨ a = p) Z T (upd H1 p (.lst [])) (blkE ε []) σ (upd H1 p (.lst [])) := r1.blk (vs := []) hp (fun b o n e => e.new hp) a2.z ⟨_, .mk upd_same⟩
  have keepP : ∀ H', Aft Z (T + c) (upd H1 p (.lst [])) H' → H' p = some (.lst []) := fun H' a => (a.ex p _ nZ (.mk upd_same)).1
  refine ⟨_, Z, T, T + c, _, blkE ε [], fun ec => ec ∈ cs ∧ ∀ v H', Aft Z (T + c) H H' → RV X.K (AvE B Z ε σ) Z H H' v (.fz (.exc ec)) → Q v H', ⟨Nat.le_refl _, hL⟩, r2, fun ec C H' ⟨k1, k2⟩ k3 a3 => ?_, mo _ _ _ _ _ (fun iv z v H' a3 rv => ?_) (fun _ z => z) q⟩
  · obtain ⟨C', g1, g2, g3⟩ := hcs ec k1
    rw [k3] at g1
    have e : C = C' := by cases g1; rfl
    subst e
    have hp' := keepP H' a3
    refine ⟨hp', g3, C, rfl, rfl, fun a ha x hx => ?_⟩
    have ap : a ≠ p := fun z => by rw [z, hp'] at ha; cases ha
    have a4 : Aft Z (T + c) H H' := (a1.up (T' := T + c)).trans ((a2.up (T' := T + c)).trans a3)
    have z5 : ZOk Z (T + c) (upd H' p (.lst [.ref a])) := a3.z.but nZ (fun φ z => by rw [hp'] at z; cases z) (fun ps z => by rw [hp'] at z; cases z)
    have ha5 : (upd H' p (.lst [.ref a])) a = none := by rw [upd_ne ap]; exact ha
    refine k2 _ _ ⟨fun b o n e => ?_, (z5.new ha5).new hx⟩ ?_
    · have e1 := (a1.ex b o n e)
      have bp : b ≠ p := e1.ne hp
      have e4 := a4.ex b o n e
      exact ((e4.but bp).new ha5).new hx
    · show Rz X.K (AvE B Z ε σ) _ (.exc ec) (.ref a)
      simp only [Rz]
      have ax : a ≠ x := fun z => by rw [← z, upd_same] at hx; cases hx
      refine ⟨a, C, rfl, fun z => ?_, by rw [upd_ne ax]; exact upd_same, g2⟩
      obtain ⟨o, lv⟩ := r.trkA z
      by_cases iz : inZ Z a
      · exact (a4.z.trk iz).ne ha
      · have := (a4.ex a o iz lv).1
        rw [ha] at this
        cases this
  · exact ⟨keepP H' a3, fun x hx => z .non _ ((a1.up (T' := T + c)).trans ((a2.up (T' := T + c)).trans (a3.trans (Aft.new a3.z hx)))) (show Rz _ _ _ _ _ by simp only [Rz])⟩
end
/-- the law's def that catches, as it stands -/
def CaughtF (P : Program) (w : World) (K : Frag) (mg : Str → Option Value) (CW : Addr) : Prop :=
  ∃ (g : Addr) (pg : Arguments) (bg : List Stmt) (sg : Scope) (dV kV doc pm cdv ct oc : Value) (an od : Option Addr) (osl : Array (Option Value)) (Ng : List Str),
    mg "_law_caught" = some (.ref g) ∧ PySem.W.keepIn K (.ref g) = true ∧ K.lookup g = some ⟨oc, od, .func (PySem.W.fnOf "_law_caught" "_law_caught" pg bg sg dV kV doc pm an cdv ct), osl⟩ ∧ PySem.W.codeIn K cdv "_law_caught" = true ∧
    L2.Binds K (PySem.W.fnOf "_law_caught" "_law_caught" pg bg sg dV kV doc pm an cdv ct) ["action"] [] ∧ FnScope Ng ["action"] sg ∧ Ng[0]? = some ("action" : Str) ∧ Vis sg "action" ∧
    ∀ (X : Cx) (q : Str) (k : Nat), X.prog = P → X.w = w → X.K = K → X.mg = mg → Room (k + 1) X.A → GivesS X Ng "_law_caught" sg g cdv bg "action" q (TTc K CW)
section
variable {X : Cx} {W : WX}
theorem takesL {A : Around} {outer : List PySem.Env} {s : Shared} {H : Hp} {E : XK} {scope : Scope} {f c' : Addr} : Takes (lamCx X A outer s H E scope f c') (WL E) := takes_of rfl rfl rfl rfl
theorem de_caught {CW c P : Addr} {cs : List Str} {k cb : Nat} {m : ME} {params : Arguments} {body : Expr} {scope : Scope} {p lpos pos : Pos} (F : CaughtF X.prog X.w X.K X.mg CW) (hcs : Caughts X.K X.mg CW cs)
    (TB : TabB X.base X.mg c P) (hcode : X.env.code = .ref c) (hmT : (P, X.env.qual ++ "<lambda>") ∈ lamTabs X.K) (hu : ∀ p ∈ lamTabs X.K, p.1 = P → p.2 = X.env.qual ++ "<lambda>") (hr : Room (k + 2) X.A) (L : LamS X.env.scope scope) 
    (hbody : ∀ (A : Around) (outer : List PySem.Env) (s : Shared) (H : Hp) (E : XK) (f c' : Addr), Room k (A.deeper (lamEnv X scope s.heap.objs.size f c')) → DE (lamCx X A outer s H E scope f c') (WL E) body m cb)
    (hdef : defaultsOf params X.env = ([], []) := by rfl) (hbind : ∀ (q : Str) (cl : List (Str × Addr)) (pm cv ctv : Value), bindArgs (PySem.W.kla_fn "<lambda>" q params body scope cl pm cv ctv) ⟨[], []⟩ = pure [] := by intros; rfl) (hg : Gl X "_law_caught" := by rfl) : DE X W (.Call (.Name "_law_caught" p) [.Lambda params body scope lpos] [] pos) (mCaught cs m) cb := by
  have mo : ∀ ε Q Q' Ex Ex', (∀ x, Q x → Q' x) → (∀ c, Ex c → Ex' c) → m ε Q Ex → m ε Q' Ex' := by
    obtain ⟨_, _, l⟩ := hbody X.A [] X.s_0 (fun _ => none) (fun _ _ _ => False) 0 0 ((hr.deeper _).mono (by omega))
    exact l.mono
  obtain ⟨g, pg, bg, sg, dV, kV, doc, pm, cdv, ct, oc, an, od, osl, Ng, f1, f2, f3, f4, f5, f6, f7, f8, f9⟩ := F
  exact ⟨_, pe_lamcallS (t := fun E => tOfE X.K X.mg (WL E) m cb) hg f1 f2 f3 f4 f5 f6 f7 f8 (f9 X _ _ rfl rfl rfl rfl hr) TB hcode hmT hu hr L hdef hbind (fun A outer s H E f c' h => (hbody A outer s H E f c' h).can) (fun E σ H Q Q' h1 h2 => tOfE_mono mo h1 h2) (by decide) (by decide) (by decide), lift_caught mo hcs⟩
end
end G

namespace G
open PySem PySem.Spec PyProof.Rows L2 LamX
/-! ### what the head tells: errors, tables -/
theorem clsOf_ga {K : Frag} {c : Str} (h : (He.Fa.glo c).ok K = true) : clsOf K c = some (He.ga K c) := by
  unfold clsOf
  rw [He.eqO_ok h]
def excCB (K : Frag) (D : Addr) : Bool := decide (PySem.W.findIn K (.ref D) "__getattribute__" = some (some (.builtin "BaseException.__getattribute__"))) && (decide (PySem.W.findIn K (.ref D) "__getattr__" = some none) &&
  (decide (PySem.W.subIn K (.ref D) (.type "BaseException") = some true) && (decide (PySem.W.hasDictIn K D = true) && (decide (PySem.W.findIn K (.ref D) "__class__" = some (some (.builtin "object.__class__"))) &&
  (decide (PySem.W.specialIn K (.builtin "object.__class__") "__get__" = some (some (.builtin "getset_descriptor.__get__"))) && (decide (PySem.W.takesIn K (.builtin "object.__class__") = some true) && decide (PySem.W.mroIn K D (.type "object") = some true)))))))
theorem excCB_ok {K : Frag} {D : Addr} (h : excCB K D = true) : L2.ExcC K D := by
  unfold excCB at h
  simp only [Bool.and_eq_true, decide_eq_true_eq] at h
  obtain ⟨h1, h2, h3, h4, h5, h6, h7, h8⟩ := h
  exact ⟨h1, h2, h3, h4, h5, h6, h7, h8⟩
def excB (K : Frag) (c : Str) : Bool := (He.Fa.glo c).ok K && (excCB K (He.ga K c) && ((["int", "bool", "str", "tuple", "list", "dict"].all fun T => decide (PySem.W.kitOne K (.ref (He.ga K c)) (.type T) = some false)) &&
  ((excNames.all fun d => match clsOf K d with
    | some D => decide (PySem.W.kitOne K (.ref (He.ga K c)) (.ref D) = some (decide (c = d)))
    | none => true) && decide (PySem.W.exmOne K (.ref (He.ga K c)) (.ref (He.ga K "WishError")) = some true))))
theorem caughts_of {K : Frag} {h : Heap} {mg : Str → Option Value} {cs : List Str} (X : K.In h) (G : h.Ns mainGlobals mg) (e : cs.all (excB K) = true) : Caughts K mg (He.ga K "WishError") cs := fun c hc => by
  have e := List.all_eq_true.mp e c hc
  unfold excB at e
  simp only [Bool.and_eq_true, List.all_eq_true, decide_eq_true_eq] at e
  obtain ⟨e1, e2, e3, e4, e5⟩ := e
  refine ⟨He.ga K c, He.glo_ok X G e1, ⟨clsOf_ga e1, excCB_ok e2, e3, fun d hd D hD => ?_⟩, e5⟩
  have z := e4 d hd
  rw [hD] at z
  simpa using z
def exdB (K : Frag) (d : Str) : Bool := (He.Fa.glo d).ok K && (["NoneType", "bool", "int", "str", "tuple", "list", "dict"].all fun s => decide (PySem.W.kitOne K (.type s) (.ref (He.ga K d)) = some false))
theorem exd_of {K : Frag} {h : Heap} {mg : Str → Option Value} {d : Str} {ds : List Str} (X : K.In h) (G : h.Ns mainGlobals mg) (e : ds.all (exdB K) = true) (hd : d ∈ ds) (ho : d ∈ excNames) : ExD K mg d := by
  have e := List.all_eq_true.mp e d hd
  unfold exdB at e
  simp only [Bool.and_eq_true, List.all_eq_true, decide_eq_true_eq] at e
  exact ⟨⟨He.ga K d, He.glo_ok X G e.1, clsOf_ga e.1, e.2⟩, ho⟩
/-- the tables that stand are those of the defs in ls -/
def lamB (ls : List Str) (K : Frag) : Bool := (lamNames.all fun n => !(He.Fa.glo n).ok K || ls.contains n) && decide (((lamTabs K).map (·.1)).Nodup)
theorem lamB_tabs {ls : List Str} {K : Frag} {H : Hp} (h : lamB ls K = true) (t : ∀ p ∈ ls.map fun n => He.cT K (n, none), H p.2 = some (.tbl #[])) : Tabs (lamTabs K) H := fun x hx => by
  unfold lamB at h
  simp only [Bool.and_eq_true, List.all_eq_true, Bool.or_eq_true, Bool.not_eq_true', List.contains_iff_mem] at h
  unfold lamTabs at hx
  obtain ⟨n, hn, rfl⟩ := List.mem_map.mp hx
  obtain ⟨n1, n2⟩ := List.mem_filter.mp hn
  rcases h.1 n n1 with z | z
  · rw [n2] at z; cases z
  · exact TabS.nil (t _ (List.mem_map.mpr ⟨n, z, rfl⟩))
theorem lamB_one {ls : List Str} {K : Frag} (h : lamB ls K = true) {p p' : Addr × Str} (hp : p ∈ lamTabs K) (hp' : p' ∈ lamTabs K) (e : p.1 = p'.1) : p = p' := by
  unfold lamB at h
  simp only [Bool.and_eq_true, decide_eq_true_eq] at h
  have key : ∀ l : List (Addr × Str), (l.map (·.1)).Nodup → ∀ p ∈ l, ∀ p' ∈ l, p.1 = p'.1 → p = p' := by
    intro l
    induction l with
    | nil => intro _ p hp; cases hp
    | cons q l ih =>
      intro hn p hp p' hp' e
      rw [List.map_cons, List.nodup_cons] at hn
      rcases List.mem_cons.mp hp with rfl | hp
      · rcases List.mem_cons.mp hp' with rfl | hp'
        · rfl
        · exact absurd (List.mem_map.mpr ⟨p', hp', e.symm⟩) hn.1
      · rcases List.mem_cons.mp hp' with h' | hp'
        · rw [h'] at e
          exact absurd (List.mem_map.mpr ⟨p, hp, e⟩) hn.1
        · exact ih hn.2 p hp p' hp' e
  exact key _ h.2 p hp p' hp' e
theorem lam_mem {K : Frag} {n : Str} (h : (He.Fa.glo n).ok K = true) (hn : n ∈ lamNames := by decide) : ((He.cT K (n, none)).2, (n ++ ".<locals>.") ++ "<lambda>") ∈ lamTabs K := List.mem_map.mpr ⟨n, List.mem_filter.mpr ⟨hn, h⟩, rfl⟩
/-- the def whose code is known -/
theorem code_of {K : Frag} {n x qual : Str} {params : Arguments} {body : List Stmt} {scope : Scope} {dvs : List V} {fd : FuncData} (F : FunD K x qual params body scope dvs [] (He.fAd K (n, none)) fd) : fd.code = .ref (He.cT K (n, none)).1 := by
  obtain ⟨oc, od, dV, kV, doc, pm, an, cdv, ct, osl, rfl, lk, hcd, _, _⟩ := F.ex
  obtain ⟨c, rfl⟩ := He.codeIn_ref hcd
  have e := He.codeOf_eq (K := K) (p := (n, none)) (c := c) lk rfl
  show Value.ref c = .ref (He.codeOf K (n, none))
  rw [e]
def exAll (cs : List (Str × D)) (xs ds ls : List Str) (K : Frag) : Bool := consB cs K && (xs.all (excB K) && (ds.all (exdB K) && lamB ls K))
theorem exAll_ok {cs : List (Str × D)} {xs ds ls : List Str} {K : Frag} (h : exAll cs xs ds ls K = true) : consB cs K = true ∧ xs.all (excB K) = true ∧ ds.all (exdB K) = true ∧ lamB ls K = true := by
  unfold exAll at h
  simp only [Bool.and_eq_true] at h
  exact h
end G

namespace G
open PySem PySem.Spec PyProof.Rows L2 LamX
/-! ### two parameters by keywords, the second one first -/
def gSw {α : Type} : List α → List α → List α
  | [], [u, o] => [o, u]
  | _, _ => []
def pmSw : List IV → List IV
  | [u, o] => [o, u]
  | _ => []
theorem kbinds_sw {K : Frag} {x qual : Str} {params : Arguments} {body : List Stmt} {scope : Scope} {dvs : List V} {f : Addr} {fd : FuncData} {p1 p2 : Str} (F : FunD K x qual params body scope dvs [] f fd) (hd : dvs ≠ [])
    (h : ∀ (T : Addr) (kV doc pm : Value) (an : Option Addr) (cdv ct : Value) (u o : Value) (its : List Value), its.length = dvs.length →
      ∃ k, bindArgs (PySem.W.fnOf x qual params body scope (.ref T) kV doc pm an cdv ct) ⟨[], [(p2, u), (p1, o)]⟩ = seqItems? (.ref T) >>= k ∧ k (some its.toArray) = pure [(p1, o), (p2, u)]) : KBinds K fd [p1, p2] [p2, p1] gSw gSw := by
  obtain ⟨oc, od, dV, kV, doc, pm, an, cdv, ct, osl, rfl, lk, hcd, hD, hK⟩ := F.ex
  rcases hD with ⟨e, _⟩ | ⟨_, T, o, its, m, rfl, lT, oT, rT⟩
  · exact absurd e hd
  · refine ⟨fun s us ws X hl => ?_, fun {vs us zs ws} r1 r2 => ?_⟩
    · match us, ws, hl with
      | [], [u, o'], _ =>
        obtain ⟨k, e1, e2⟩ := h T kV doc pm an cdv ct u o' its rT.length.symm
        refine BindsTo.of_looks fun M => ?_
        show PySem.W.Looks M s.heap (bindArgs _ ⟨[], [(p2, u), (p1, o')]⟩) _
        rw [e1]
        exact looks_items X lT oT (.of_pure e2)
      | [], [], hl => exact absurd hl (by simp [gSw])
      | [], [_], hl => exact absurd hl (by simp [gSw])
      | [], _ :: _ :: _ :: _, hl => exact absurd hl (by simp [gSw])
      | _ :: _, _, hl => exact absurd hl (by simp [gSw])
    · cases r1 with
      | cons _ _ => exact .nil
      | nil =>
        cases r2 with
        | nil => exact .nil
        | cons a r2 =>
          cases r2 with
          | nil => exact .nil
          | cons b r2 =>
            cases r2 with
            | nil => exact .cons b (.cons a .nil)
            | cons _ _ => exact .nil
theorem fnk_sw {P : Program} {w : World} {K : Frag} {mg : Str → Option Value} {base : Heap} {k : Nat} {x p1 p2 : Str} {sp : SpD} {c : Nat} {f : Addr} {fd : FuncData} (mono : SpMono sp) (gm : mg x = some (.ref f)) (kp : PySem.W.keepIn K (.ref f) = true) (F : FnOk P w K mg base (L2.CX P w) k f fd [p1, p2] (Lf K mg sp c)) (kb : KBinds K fd [p1, p2] [p2, p1] gSw gSw) : FnK P w K mg base k x [p1, p2] [p2, p1] pmSw sp c := by
  refine ⟨mono, f, fd, gSw, gSw, gm, kp, F, kb, fun A Z H is vs h => ?_⟩
  match is, h with
  | [], h => simp only [RVs] at h; subst h; rfl
  | [_], h =>
    obtain ⟨v, r, rfl, h1, h2, h3⟩ := h
    simp only [RVs] at h3
    subst h3
    rfl
  | [a, b], h =>
    obtain ⟨v, r, rfl, h1, h2, h3⟩ := h
    obtain ⟨v', r', rfl, h1', h2', h3'⟩ := h3
    simp only [RVs] at h3'
    subst h3'
    exact ⟨v', [v], rfl, h1', h2', v, [], rfl, h1, h2, rfl⟩
  | _ :: _ :: _ :: _, h =>
    obtain ⟨v, r, rfl, h1, h2, h3⟩ := h
    obtain ⟨v', r', rfl, h1', h2', h3'⟩ := h3
    obtain ⟨v2, r2, rfl, _⟩ := h3'
    rfl
end G

namespace G
open PySem PySem.Spec PyProof.Rows L2
/-! ### values of forms at points -/
def evalP (v : Str → Rat) : Parts → Rat
  | [] => 0
  | p :: r => p.2 * v p.1 + evalP v r
def valF (v : Str → Rat) (f : Form) : Rat := f.2 + evalP v f.1
theorem evalP_append (v : Str → Rat) : ∀ ps qs : Parts, evalP v (ps ++ qs) = evalP v ps + evalP v qs
  | [], qs => by simp [evalP, Rat.zero_add]
  | p :: r, qs => by
    show _ + evalP v (r ++ qs) = _ + evalP v r + evalP v qs
    rw [evalP_append v r qs, Rat.add_assoc]
theorem evalP_snoc (v : Str → Rat) (c : Rat) (pre : Parts) (p : Str × Rat) : c + evalP v (pre ++ [p]) = c + evalP v pre + p.2 * v p.1 := by
  rw [evalP_append]
  show c + (evalP v pre + (p.2 * v p.1 + 0)) = _
  rw [Rat.add_zero, Rat.add_assoc]
def scaleP (r : Rat) (ps : Parts) : Parts := ps.map fun p => (p.1, r * p.2)
theorem evalP_scale (v : Str → Rat) (r : Rat) : ∀ ps : Parts, evalP v (scaleP r ps) = r * evalP v ps
  | [] => by show (0 : Rat) = r * 0; rw [Rat.mul_zero]
  | p :: q => by
    show r * p.2 * v p.1 + evalP v (scaleP r q) = r * (p.2 * v p.1 + evalP v q)
    rw [evalP_scale v r q, Rat.mul_add, Rat.mul_assoc]
theorem coef_scale (r : Rat) (n : Str) : ∀ ps : Parts, coef (scaleP r ps) n = r * coef ps n
  | [] => by show (0 : Rat) = r * 0; rw [Rat.mul_zero]
  | p :: q => by
    show (if p.1 = n then r * p.2 else 0) + coef (scaleP r q) n = r * ((if p.1 = n then p.2 else 0) + coef q n)
    rw [coef_scale r n q, Rat.mul_add]
    split
    · rfl
    · rw [Rat.mul_zero]
/-- a sum over names -/
def sumN (g : Str → Rat) : List Str → Rat
  | [] => 0
  | n :: r => g n + sumN g r
theorem sumN_add (g h : Str → Rat) : ∀ ns, sumN (fun n => g n + h n) ns = sumN g ns + sumN h ns
  | [] => by show (0 : Rat) = 0 + 0; rw [Rat.zero_add]
  | n :: r => by
    show g n + h n + sumN _ r = g n + sumN g r + (h n + sumN h r)
    rw [sumN_add g h r]
    grind
theorem sumN_zero {g : Str → Rat} : ∀ {ns}, (∀ n ∈ ns, g n = 0) → sumN g ns = 0
  | [], _ => rfl
  | n :: r, h => by
    show g n + sumN g r = 0
    rw [h n (List.mem_cons_self ..), sumN_zero fun x hx => h x (List.mem_cons_of_mem _ hx), Rat.zero_add]
theorem sumN_congr {g h : Str → Rat} : ∀ {ns}, (∀ n ∈ ns, g n = h n) → sumN g ns = sumN h ns
  | [], _ => rfl
  | n :: r, e => by
    show g n + sumN g r = h n + sumN h r
    rw [e n (List.mem_cons_self ..), sumN_congr fun x hx => e x (List.mem_cons_of_mem _ hx)]
theorem sumN_one {a : Str} {x : Rat} : ∀ {ns : List Str}, ns.Nodup → a ∈ ns → sumN (fun n => if a = n then x else 0) ns = x
  | [], _, h => by cases h
  | n :: r, hn, h => by
    obtain ⟨h1, h2⟩ := List.nodup_cons.mp hn
    show (if a = n then x else 0) + sumN _ r = x
    by_cases e : a = n
    · subst e
      rw [if_pos rfl, sumN_zero fun m hm => if_neg fun z => h1 (by rw [z]; exact hm), Rat.add_zero]
    · rcases List.mem_cons.mp h with z | z
      · exact absurd z e
      · rw [if_neg e, sumN_one h2 z, Rat.zero_add]
theorem evalP_sum (v : Str → Rat) : ∀ {ps : Parts} {ns : List Str}, ns.Nodup → (∀ p ∈ ps, p.1 ∈ ns) → evalP v ps = sumN (fun n => coef ps n * v n) ns
  | [], ns, _, _ => (sumN_zero fun n _ => by show (0 : Rat) * v n = 0; rw [Rat.zero_mul]).symm
  | p :: r, ns, hn, h => by
    show p.2 * v p.1 + evalP v r = _
    rw [evalP_sum v hn fun q hq => h q (List.mem_cons_of_mem _ hq)]
    have e : sumN (fun n => coef (p :: r) n * v n) ns = sumN (fun n => (if p.1 = n then p.2 * v p.1 else 0) + coef r n * v n) ns := sumN_congr fun n _ => by
      show ((if p.1 = n then p.2 else 0) + coef r n) * v n = _
      rw [Rat.add_mul]
      split
      · rename_i z; rw [z]
      · rw [Rat.zero_mul]
    rw [e, sumN_add, sumN_one hn (h p (List.mem_cons_self ..))]
theorem names_nodup (ps : Parts) : (names ps).Nodup := rising_nodup (sortN_rising _)
theorem evalP_formOf (v : Str → Rat) (ps : Parts) : evalP v (formOf ps) = evalP v ps := by
  rw [evalP_sum v (names_nodup ps) fun p hp => names_mem.mpr (List.mem_map.mpr ⟨p, hp, rfl⟩), evalP_sum v (ps := formOf ps) (names_nodup ps) fun p hp => names_mem.mpr (formOf_mem hp).1]
  exact sumN_congr fun n _ => by rw [coef_formOf]
/-- one name's number told apart -/
theorem evalP_apart {v w : Str → Rat} {a : Str} (h : ∀ n, n ≠ a → w n = v n) : ∀ ps : Parts, evalP w ps = evalP v (ps.filter fun p => decide (p.1 ≠ a)) + coef ps a * w a
  | [] => by show (0 : Rat) = 0 + 0 * w a; rw [Rat.zero_mul, Rat.zero_add]
  | p :: r => by
    show p.2 * w p.1 + evalP w r = evalP v ((p :: r).filter _) + ((if p.1 = a then p.2 else 0) + coef r a) * w a
    rw [evalP_apart h r]
    by_cases e : p.1 = a
    · rw [List.filter_cons_of_neg (by simp [e]), if_pos e, e]
      grind
    · rw [List.filter_cons_of_pos (by simp [e]), if_neg e, h _ e]
      show _ = (p.2 * v p.1 + evalP v (r.filter _)) + _
      grind
theorem coef_apart {a : Str} (n : Str) : ∀ ps : Parts, coef (ps.filter fun p => decide (p.1 ≠ a)) n = if n = a then 0 else coef ps n
  | [] => by show (0 : Rat) = _; split <;> rfl
  | p :: r => by
    by_cases e : p.1 = a
    · rw [List.filter_cons_of_neg (by simp [e]), coef_apart n r]
      by_cases z : n = a
      · rw [if_pos z, if_pos z]
      · rw [if_neg z, if_neg z]
        show coef r n = (if p.1 = n then p.2 else 0) + coef r n
        rw [if_neg (by rw [e]; exact fun q => z q.symm), Rat.zero_add]
    · rw [List.filter_cons_of_pos (by simp [e])]
      show (if p.1 = n then p.2 else 0) + coef (r.filter _) n = if n = a then 0 else (if p.1 = n then p.2 else 0) + coef r n
      rw [coef_apart n r]
      by_cases z : n = a
      · rw [if_pos z, if_pos z, if_neg (by rw [z]; exact e), Rat.zero_add]
      · rw [if_neg z, if_neg z]
/-! bounds -/
def wsum (b : Nat) (w : Str → Nat) : Parts → Nat
  | [] => 0
  | p :: r => b + w p.1 + 1 + wsum b w r
theorem evalP_br {b c : Nat} {w : Str → Nat} {v : Str → Rat} : ∀ {ps : Parts} {x : Rat}, (∀ p ∈ ps, BR b p.2) → (∀ p ∈ ps, BR (w p.1) (v p.1)) → BR c x → BR (c + wsum b w ps) (x + evalP v ps)
  | [], x, _, _, hx => by show BR (c + 0) (x + 0); rw [Rat.add_zero]; exact hx
  | p :: r, x, h1, h2, hx => by
    show BR (c + (b + w p.1 + 1 + wsum b w r)) (x + (p.2 * v p.1 + evalP v r))
    have k : BR (c + (b + w p.1) + 1) (x + p.2 * v p.1) := hx.add ((h1 p (List.mem_cons_self ..)).mul (h2 p (List.mem_cons_self ..)))
    have z := evalP_br (c := c + (b + w p.1) + 1) (fun q hq => h1 q (List.mem_cons_of_mem _ hq)) (fun q hq => h2 q (List.mem_cons_of_mem _ hq)) k
    rw [Rat.add_assoc] at z
    exact z.mono (by omega)
theorem wsum_append {b : Nat} {w : Str → Nat} : ∀ ps qs : Parts, wsum b w (ps ++ qs) = wsum b w ps + wsum b w qs
  | [], qs => by simp [wsum]
  | p :: r, qs => by
    show _ + wsum b w (r ++ qs) = _ + wsum b w r + wsum b w qs
    rw [wsum_append r qs]; omega
theorem wsum_const {b k : Nat} : ∀ ps : Parts, wsum b (fun _ => k) ps = (b + k + 1) * ps.length
  | [] => rfl
  | p :: r => by
    show b + k + 1 + wsum b _ r = (b + k + 1) * (r.length + 1)
    rw [wsum_const r, Nat.mul_succ]; omega
theorem wsum_one {b k m : Nat} {a : Str} : ∀ {ps : Parts}, (ps.map (·.1)).Nodup → wsum b (fun n => if n = a then m else k) ps ≤ (b + k + 1) * ps.length + m
  | [], _ => by simp [wsum]
  | p :: r, h => by
    rw [List.map_cons, List.nodup_cons] at h
    show b + (if p.1 = a then m else k) + 1 + wsum b _ r ≤ (b + k + 1) * (r.length + 1) + m
    rw [Nat.mul_succ]
    by_cases e : p.1 = a
    · rw [if_pos e]
      have z : wsum b (fun n => if n = a then m else k) r = wsum b (fun _ => k) r := by
        have : ∀ q : Parts, a ∉ q.map (·.1) → wsum b (fun n => if n = a then m else k) q = wsum b (fun _ => k) q := by
          intro q
          induction q with
          | nil => intro _; rfl
          | cons x q ih =>
            intro hx
            rw [List.map_cons, List.mem_cons, not_or] at hx
            show b + (if x.1 = a then m else k) + 1 + _ = b + k + 1 + _
            rw [if_neg (fun z => hx.1 z.symm), ih hx.2]
        exact this r (by rw [← e]; exact h.1)
      rw [z, wsum_const]
      omega
    · rw [if_neg e]
      have := wsum_one (b := b) (k := k) (m := m) (a := a) h.2
      omega
/-- what the reckoning of a value asks -/
structure FitV (v : Str → Rat) (f : Form) : Prop where
  sum : ∀ pre post, f.1 = pre ++ post → BR 3000 (f.2 + evalP v pre)
  one : ∀ p ∈ f.1, BR 3000 p.2 ∧ BR 3000 (v p.1) ∧ BR 3000 (p.2 * v p.1)
theorem FitV.of {b c : Nat} {w : Str → Nat} {v : Str → Rat} {f : Form} (h1 : ∀ p ∈ f.1, BR b p.2) (h2 : ∀ p ∈ f.1, BR (w p.1) (v p.1)) (hc : BR c f.2) (hw : c + wsum b w f.1 ≤ 3000) : FitV v f := by
  refine ⟨fun pre post e => ?_, fun p hp => ?_⟩
  · have z := evalP_br (b := b) (w := w) (v := v) (ps := pre) (fun p hp => h1 p (by rw [e]; exact List.mem_append_left _ hp)) (fun p hp => h2 p (by rw [e]; exact List.mem_append_left _ hp)) hc
    rw [e, wsum_append] at hw
    exact z.mono (by omega)
  · obtain ⟨pre, post, e⟩ := List.append_of_mem hp
    rw [e, wsum_append] at hw
    have hw : c + (wsum b w pre + (b + w p.1 + 1 + wsum b w post)) ≤ 3000 := hw
    exact ⟨(h1 p hp).mono (by omega), (h2 p hp).mono (by omega), ((h1 p hp).mul (h2 p hp)).mono (by omega)⟩
theorem coef_cases {f : Parts} (h : FormOk f) (n : Str) : coef f n = 0 ∨ (n, coef f n) ∈ f := by
  by_cases z : coef f n = 0
  · exact .inl z
  · refine .inr ?_
    have hm := (form_mem h).mpr z
    have e := form_coefs h
    have k : (n, coef f n) ∈ (f.map (·.1)).map fun n => (n, coef f n) := List.mem_map.mpr ⟨n, hm, rfl⟩
    rw [← e] at k
    exact k
theorem coef_brF {f : Parts} {b : Nat} (h : FormOk f) (hb : ∀ p ∈ f, BR b p.2) (h1 : 1 ≤ b) (n : Str) : BR b (coef f n) := by
  rcases coef_cases h n with z | z
  · rw [z]; exact BR.zero h1
  · exact hb _ z
theorem formOf_br {ps : Parts} {b : Nat} (h : ∀ n, BR b (coef ps n)) : ∀ p ∈ formOf ps, BR b p.2 := fun p hp => by
  rw [(formOf_mem hp).2]; exact h _
/-- a point: names, their numbers -/
def ptD (ks : List Str) (v : Str → Rat) : D := dictN ks fun n => qR (v n)
theorem ptD_get {ks : List Str} {v : Str → Rat} {n : Str} (h : n ∈ ks) : lookD (ks.map Sum.inr) (ks.map fun n => qR (v n)) (Sum.inr n) = some (qR (v n)) := by
  rw [lookD_str (f := fun n => qR (v n)), if_pos h]
theorem ptD_none {ks : List Str} {v : Str → Rat} {n : Str} (h : n ∉ ks) : lookD (ks.map Sum.inr) (ks.map fun n => qR (v n)) (Sum.inr n) = none := by
  rw [lookD_str (f := fun n => qR (v n)), if_neg h]
end G

namespace G
open PySem PySem.Spec PyProof.Rows L2
/-! ### points made, changed -/
theorem ptD_put {ks : List Str} {v : Str → Rat} {n : Str} {x : Rat} (h : n ∈ ks) : D.dic (putKs (ks.map Sum.inr) (Sum.inr n)) (putVs (ks.map Sum.inr) (ks.map fun n => qR (v n)) (Sum.inr n) (qR x)) = ptD ks fun k => if k = n then x else v k := by
  rw [putKs_str, putVs_str (f := fun n => qR (v n))]
  have e : addN ks n = ks := by unfold addN; rw [if_pos h]
  rw [e]
  unfold ptD dictN
  congr 1
  exact List.map_congr_left fun k _ => by dsimp only; split <;> rfl
theorem dropVs_str {f : Str → D} {n : Str} : ∀ ks : List Str, dropVs (ks.map Sum.inr) (ks.map f) (Sum.inr n) = (ks.filter fun k => decide (k ≠ n)).map f
  | [] => rfl
  | k :: ks => by
    have ih := dropVs_str (f := f) (n := n) ks
    unfold dropVs at ih ⊢
    rw [List.map_cons, List.map_cons, List.zip_cons_cons]
    by_cases e : k = n
    · rw [List.filter_cons_of_neg (by simp [e]), List.filter_cons_of_neg (by simp [e]), ih]
    · rw [List.filter_cons_of_pos (by simp [e]), List.filter_cons_of_pos (by simp [e]), List.map_cons, List.map_cons, ih]
theorem dropKs_str {n : Str} : ∀ ks : List Str, dropKs (ks.map Sum.inr) (Sum.inr n) = (ks.filter fun k => decide (k ≠ n)).map Sum.inr
  | [] => rfl
  | k :: ks => by
    have ih := dropKs_str (n := n) ks
    unfold dropKs at ih ⊢
    rw [List.map_cons]
    by_cases e : k = n
    · rw [List.filter_cons_of_neg (by simp [e]), List.filter_cons_of_neg (by simp [e]), ih]
    · rw [List.filter_cons_of_pos (by simp [e]), List.filter_cons_of_pos (by simp [e]), List.map_cons, ih]
theorem ptD_drop {ks : List Str} {v : Str → Rat} {n : Str} : D.dic (dropKs (ks.map Sum.inr) (Sum.inr n)) (dropVs (ks.map Sum.inr) (ks.map fun n => qR (v n)) (Sum.inr n)) = ptD (ks.filter fun k => decide (k ≠ n)) v := by
  rw [dropKs_str, dropVs_str (f := fun n => qR (v n))]
  rfl
theorem ptD_of {xs : List Str} {v : Str → Rat} (h : xs.Nodup) : D.dic (mergeKs [] (xs.map fun n => ((Sum.inr n : Key), qR (v n)))) (mergeDs [] [] (xs.map fun n => ((Sum.inr n : Key), qR (v n)))) = ptD xs v := by
  obtain ⟨h1, h2⟩ := dict_of (fun n : Str => n) (fun n => qR (v n)) xs (by rw [List.map_id']; exact h)
  rw [h1, h2, List.map_id']
  rfl
/-- a number to each name -/
theorem compD_pt {mg : MG} {me : ME} {ε : Env} {Q : List D → Prop} (g : Str → D) (f : Str → Rat → D) (P : Rat → Prop) (p0 : P 0) {xs : List Str} (hn : xs.Nodup) (h : ∀ n ∈ xs, ∀ K : D → Prop, (∀ r, P r → K (f n r)) → mg (g n) ε fun ε1 => me ε1 (onD K) fun _ => False)
    (k : ∀ v : Str → Rat, (∀ n, P (v n)) → Q (xs.map fun n => f n (v n))) : compD mg mYes me ε Q (xs.map g) [] := by
  have key : ∀ (post pre : List Str) (v : Str → Rat), xs = pre ++ post → (∀ n, P (v n)) → compD mg mYes me ε Q (post.map g) (pre.map fun n => f n (v n)) := by
    intro post
    induction post with
    | nil =>
      intro pre v e hv
      have z := k v hv
      rw [e, List.append_nil] at z
      simpa [compD] using z
    | cons n post ih =>
      intro pre v e hv
      rw [List.map_cons]
      unfold compD
      refine h n (by rw [e]; simp) _ fun r hr => ?_
      have z := ih (pre ++ [n]) (fun m => if m = n then r else v m) (by rw [e]; simp) (fun m => by split <;> first | exact hr | exact hv m)
      have np : n ∉ pre := fun hm => by
        rw [e, List.nodup_append] at hn
        exact hn.2.2 _ hm _ (List.mem_cons_self ..) rfl
      have e2 : ((pre ++ [n]).map fun m => f m (if m = n then r else v m)) = (pre.map fun n => f n (v n)) ++ [f n r] := by
        rw [List.map_append, List.map_cons, List.map_nil, if_pos rfl]
        congr 1
        exact List.map_congr_left fun m hm => by rw [if_neg (fun q => np (by rw [← q]; exact hm))]
      rw [e2] at z
      exact z
  exact key xs [] (fun _ => 0) rfl (fun _ => p0)
theorem gf_of {ns : List Str} {b : Nat} {ps : Parts} {c : Rat} (hn : ∀ p ∈ ps, p.1 ∈ ns) (hb : ∀ n, BR b (coef ps n)) (hc : BR b c) : GF ns b (formOf ps, c) := by
  refine ⟨formOf_ok ps, fun p hp => ?_, formOf_br hb, hc⟩
  obtain ⟨q, hq, e⟩ := List.mem_map.mp (formOf_mem hp).1
  rw [← e]
  exact hn q hq
theorem fitV_gf {ns : List Str} {b k : Nat} {f : Form} {v : Str → Rat} (h : GF ns b f) (hl : ns.length ≤ k) (hv : ∀ p ∈ f.1, BR 120 (v p.1)) (hk : b + (b + 121) * k ≤ 3000) : FitV v f := by
  refine FitV.of (w := fun _ => 120) h.br hv h.bc ?_
  rw [wsum_const]
  have := Nat.mul_le_mul_left (b + 120 + 1) (Nat.le_trans h.len hl)
  have e : b + 121 = b + 120 + 1 := by omega
  rw [e] at hk
  omega
theorem valF_br {ns : List Str} {b k m : Nat} {f : Form} {v : Str → Rat} (h : GF ns b f) (hl : ns.length ≤ k) (hv : ∀ p ∈ f.1, BR 120 (v p.1)) (hk : b + (b + 121) * k ≤ m) : BR m (valF v f) := by
  refine (evalP_br (w := fun _ => 120) h.br hv h.bc).mono ?_
  rw [wsum_const]
  have := Nat.mul_le_mul_left (b + 120 + 1) (Nat.le_trans h.len hl)
  have e : b + 121 = b + 120 + 1 := by omega
  rw [e] at hk
  omega
theorem formOf_two (ps qs : Parts) : formOf (formOf ps ++ formOf qs) = formOf (ps ++ qs) := form_ext (formOf_ok _) (formOf_ok _) fun n => by rw [coef_formOf, coef_formOf, coef_append, coef_append, coef_formOf, coef_formOf]
theorem partsD_append' (ps qs : Parts) : partsD (ps ++ qs) = partsD ps ++ partsD qs := List.map_append ..
theorem partsD_scale (r : Rat) (ps : Parts) : partsD (scaleP r ps) = ps.map fun p => partD' (p.1, r * p.2) := by
  unfold partsD scaleP
  rw [List.map_map]
  rfl
theorem scaleP_mem {r : Rat} {ps : Parts} {p : Str × Rat} (h : p ∈ scaleP r ps) : ∃ q ∈ ps, p.1 = q.1 ∧ p.2 = r * q.2 := by
  obtain ⟨q, hq, rfl⟩ := List.mem_map.mp h
  exact ⟨q, hq, rfl, rfl⟩
theorem scaleP_len {r : Rat} {ps : Parts} : (scaleP r ps).length = ps.length := List.length_map ..
/-- none is taken -/
theorem compD_none {mg : MG} {mt : MT} {me : ME} {ε : Env} {Q : List D → Prop} (ds : List D) (h : ∀ d ∈ ds, ∀ (K : D → Prop) (L : Prop), L → mg d ε fun ε1 => mt ε1 (fun b => if b = true then me ε1 (onD K) (fun _ => False) else L) fun _ => False) (q : Q []) : compD mg mt me ε Q ds [] := by
  refine compD_sel (fun _ => false) id ds [] (fun d hd K L _ hL => h d hd K L (hL rfl)) ?_
  rw [List.filter_eq_nil_iff.mpr (by simp)]
  exact q
/-- something drawn to each -/
theorem compD_pair {α β : Type} {mg : MG} {me : ME} {ε : Env} {Q : List D → Prop} (f : β → α → D) (g : α → D) (P : β → Prop) (xs : List α) (h : ∀ x ∈ xs, ∀ K : D → Prop, (∀ r, P r → K (f r x)) → mg (g x) ε fun ε1 => me ε1 (onD K) fun _ => False)
    (k : ∀ ps : List (β × α), ps.map (·.2) = xs → (∀ p ∈ ps, P p.1) → Q (ps.map fun p => f p.1 p.2)) : compD mg mYes me ε Q (xs.map g) [] := by
  have key : ∀ (post : List α) (ps : List (β × α)), ps.map (·.2) ++ post = xs → (∀ p ∈ ps, P p.1) → compD mg mYes me ε Q (post.map g) (ps.map fun p => f p.1 p.2) := by
    intro post
    induction post with
    | nil =>
      intro ps e hp
      rw [List.append_nil] at e
      simpa [compD] using k ps e hp
    | cons x post ih =>
      intro ps e hp
      rw [List.map_cons]
      unfold compD
      refine h x (by rw [← e]; simp) _ fun r hr => ?_
      have z := ih (ps ++ [(r, x)]) (by rw [← e]; simp) (fun p hq => by
        rcases List.mem_append.mp hq with hq | hq
        · exact hp p hq
        · rw [List.mem_singleton.mp hq]; exact hr)
      rw [List.map_append] at z
      exact z
  exact key xs [] (by simp) (by simp)
theorem pos_divInt {a b : Int} (h : 0 < a) (g : 0 < b) : 0 < Rat.divInt a b := by
  rw [Rat.divInt_eq_div, Rat.div_def]
  exact Rat.mul_pos (Rat.intCast_pos.mpr h) (Rat.inv_pos.mpr (Rat.intCast_pos.mpr g))
end G

namespace Wk07
open PySem PySem.Spec PyProof.Rows L2 G LamX
def top (i : Nat) : Stmt := PySem.Challenge.pw_wishregions_k07_whole_misses_and_totals.main.body.getD i (.Pass ⟨0, 0, 0, 0⟩)
abbrev FnP (K : Frag) (x : Str) (st : Stmt) (f : Addr) (fd : FuncData) : Prop := FunD K x x (defArgs st) (defBody st) (defScope st) [] [] f fd
theorem takes0 {X : Cx} : Takes X W0 := fun u s' ⟨_, _, _, _, _, _, _, _, _, _, _, _, _, _, _, _, h⟩ => h.elim

def cs_exc : List Str := ["NoNumber", "NoPoint"]
/-! ### common -/
abbrev s_common : Stmt := top 5
theorem sc_common : FnScope ["one", "other"] ["one", "other"] (defScope s_common) := ⟨rfl, rfl, rfl, by decide +kernel, rfl, by decide +kernel, by decide +kernel⟩
def sp_common : SpD := SpOf (fun x : Int × Int => [.fz (.int x.1), .fz (.int x.2)]) (fun x => 0 ≤ x.1 ∧ 0 ≤ x.2) (val fun x => .int (Int.gcd x.1 x.2))

def m_common_k0 : MS := (mRet (mVar 0))
def m_common : MS := (mSeq (mWhile (mTest (mOp fGt (mPeek 1) (mDat (mC (.int 0))))) (mPar 0 1 (mVar 1) (mOp fMod (mPeek 0) (mPeek 1))))
    m_common_k0)
theorem pure_common : ∀ is Q E, ivsOk is → sp_common is Q E → m_common { nx := fun _ => Q (.fz .non), rt := Q, ex := fun c _ => E c } (startE is 2) := by
  rintro is Q E _ ⟨⟨a, b⟩, rfl, ⟨ha, hb⟩, q, _⟩
  refine ⟨fun n ε => ∃ x y : Int, ε = [.fz (.int x), .fz (.int y)] ∧ 0 ≤ x ∧ 0 ≤ y ∧ n = y.toNat ∧ Int.gcd x y = Int.gcd a b, ⟨_, a, b, rfl, ha, hb, rfl, rfl⟩, ?_⟩
  rintro n ε ⟨x, y, rfl, hx, hy, rfl, hg⟩
  show if decide (0 < y) = true then _ else _
  by_cases h : 0 < y
  · rw [if_pos (decide_eq_true h)]
    refine ⟨by omega, _, ?_, y, x.fmod y, rfl, hy, Int.fmod_nonneg_of_pos _ h, rfl, ?_⟩
    · have := Int.fmod_lt_of_pos x h
      omega
    · rw [← hg, gcd_fmod]
  · rw [if_neg (by simpa using h)]
    have : y = 0 := by omega
    subst this
    refine q _ ?_
    show IV.fz (.int x) = .fz (.int (Int.gcd a b))
    rw [← hg, Int.gcd_zero_right, Int.natAbs_of_nonneg hx]


theorem fo_common {P : Program} {w : World} {K : Frag} {mg : Str → Option Value} {base : Heap} {f : Addr} {fd : FuncData} (F : FnP K "common" s_common f fd) (g : mg "common" = some (.ref f))  :
    FnOk P w K mg base (L2.CX P w) 1 f fd ["one", "other"] (Lf K mg sp_common (0)) := by
  exact fn_okD (m := m_common) (N := ["one", "other"]) (k := 0) F g sc_common SpOf.mono (SpOf.len fun _ => rfl) (by decide) (fun cdv A outer s H E hr => (dss_cons (ds_while (passes_of rfl) (dt_gt (di_var 1) (DE.i de_int)) (dss_one (ds_par 0 1 rfl sc_common.nd (de_var 1) (de_mod (di_var 0) (di_var 1)))))
    (dss_one (ds_ret (de_var 0))))) pure_common
theorem fn_common {P : Program} {w : World} {K : Frag} {mg : Str → Option Value} {base : Heap} {f : Addr} {fd : FuncData} (F : FnP K "common" s_common f fd) (g : mg "common" = some (.ref f))  :
    FnD P w K mg base 1 "common" ["one", "other"] [] sp_common (0) := by
  exact ⟨SpOf.mono, f, fd, g, F.kp, fo_common F g , (F.bindsN fun _ _ _ _ _ _ us hl => match us, hl with | [_, _], _ => rfl), (fun h => absurd rfl h)⟩

/-! ### number -/
abbrev s_number : Stmt := top 6
theorem sc_number : FnScope ["over", "under", "part"] ["over", "under"] (defScope s_number) := ⟨rfl, rfl, rfl, by decide +kernel, rfl, by decide +kernel, by decide +kernel⟩
def sp_number : SpD := SpOf (fun x : Int × Int => [.fz (.int x.1), .fz (.int x.2)]) (fun x => Bd 8000 x.1 ∧ Bd 8000 x.2) (fun x r => x.2 ≠ 0 ∧ r = .fz (qR (Rat.divInt x.1 x.2))) (fun x c => x.2 = 0 ∧ c = "NoNumber")
theorem binds_number {K : Frag} {f : Addr} {fd : FuncData} (F : FunD K "number" "number" (defArgs s_number) (defBody s_number) (defScope s_number) [.int 1] [] f fd) : Binds K fd ["over", "under"] [] ∧ ([D.int 1] ≠ [] → ∃ dvs ds, RVs K (fun _ => False) (none, []) (fun _ => none) ([D.int 1].map .fz) dvs ∧ (∀ A Z H, RVs K A Z H ([D.int 1].map .fz) dvs) ∧ Vals dvs ds ∧ Binds K fd ["over", "under"] ds) := by
  obtain ⟨ds0, v0, b0⟩ := F.binds1 (ps := ["over", "under"]) 2 1 (by simp) rfl fun T kV doc pm an cdv ct us its h1 h2 => by
    match us, its, h1, h2 with
    | [u, v], [d], _, _ => exact ⟨_, rfl, rfl⟩
  obtain ⟨ds1, v1, b1⟩ := F.binds1 (ps := ["over", "under"]) 1 0 (by simp) rfl fun T kV doc pm an cdv ct us its h1 h2 => by
    match us, its, h1, h2 with
    | [u], [d], _, _ => exact ⟨_, rfl, rfl⟩
  have e : ds0 = [] := by cases v0; rfl
  subst e
  exact ⟨b0, fun _ => ⟨[.int 1], ds1, rvs_int, fun A Z H => rvs_int, v1, b1⟩⟩

def m_number_k0 : MS := (mSeq (mSet 2 (mCall sp_common (mCons (mCB fAbs (jCons (mPeek 0) jNil)) (mCons (mVar 1) mNil))))
    (mRet (mTup (mCons (mOp fDiv (mPeek 0) (mPeek 2)) (mCons (mOp fDiv (mPeek 1) (mPeek 2)) mNil)))))
def m_number_k1 : MS := (mSeq (mIfS (mTest (mOp fLt (mPeek 1) (mDat (mC (.int 0))))) (mPar 0 1 (mUn fNeg (mPeek 0)) (mUn fNeg (mPeek 1))) mNext)
    m_number_k0)
def m_number : MS := (mSeq (mIfS (mTest (mOp (fEq false) (mPeek 1) (mDat (mC (.int 0))))) (mRaise "NoNumber") mNext)
    m_number_k1)
theorem num_tail {a b : Int} {Q : IV → Prop} (h : b ≠ 0) (q : Q (.fz (qD (red a b)))) (hb : Bd 8000 b) {a' b' : Int} (ea : a' = sg b * a) (eb : b' = sg b * b) :
    CDivD a' (Int.gcd a b) ∧ CDivD b' (Int.gcd a b) ∧ Q (.fz (.tup [.int (a'.fdiv (Int.gcd a b)), .int (b'.fdiv (Int.gcd a b))])) := by
  have g := gcd_pos (a := a) h
  have bg : Bd 8000 (Int.gcd a b : Nat) := hb.le (by
    rw [Int.natAbs_natCast]
    exact Int.gcd_le_natAbs_right _ h)
  have gz : ((Int.gcd a b : Nat) : Int) ≠ 0 := by omega
  refine ⟨bg.cdiv gz, bg.cdiv gz, ?_⟩
  obtain ⟨x, hx⟩ := dvd_ex (a := a) (b := b)
  obtain ⟨y, hy⟩ := dvd_ex2 (a := a) (b := b)
  have e1 : a'.fdiv (Int.gcd a b : Nat) = rn a b := by
    unfold rn
    rw [Int.fdiv_eq_ediv_of_nonneg _ (by omega), ea, Int.ediv_eq_of_eq_mul_right gz hx]
    exact Int.ediv_eq_of_eq_mul_right gz (by rw [Int.mul_left_comm, ← hx])
  have e2 : b'.fdiv (Int.gcd a b : Nat) = rd a b := by
    unfold rd
    rw [Int.fdiv_eq_ediv_of_nonneg _ (by omega), eb, Int.ediv_eq_of_eq_mul_right gz hy]
    exact Int.ediv_eq_of_eq_mul_right gz (by rw [Int.mul_left_comm, ← hy])
  rw [e1, e2]
  exact q
theorem pure_number : ∀ is Q E, ivsOk is → sp_number is Q E → m_number { nx := fun _ => Q (.fz .non), rt := Q, ex := fun c _ => E c } (startE is 3) := by
  rintro is Q E _ ⟨⟨a, b⟩, rfl, ⟨ha, hb⟩, q, qe⟩
  refine ⟨.inl rfl, ?_⟩
  show if decide (b = 0) = true then _ else _
  by_cases h : b = 0
  · rw [if_pos (decide_eq_true h)]
    exact qe _ ⟨h, rfl⟩
  rw [if_neg (by simpa using h)]
  have q : Q (.fz (qR (Rat.divInt a b))) := q _ ⟨h, rfl⟩
  rw [← qD_red h] at q
  show if decide (b < 0) = true then _ else _
  have eg : ∀ x y : Int, Int.gcd x.natAbs y = Int.gcd x y := fun x y => by simp [Int.gcd]
  by_cases hn : b < 0
  · rw [if_pos (decide_eq_true hn)]
    have es : sg b = -1 := if_pos hn
    obtain ⟨k1, k2, k3⟩ := num_tail h q hb (a' := -a) (b' := -b) (by rw [es]; omega) (by rw [es]; omega)
    refine ⟨(if (-a) < 0 then -(-a) else -a, -b), rfl, ⟨by simp only; split <;> omega, by simp only; omega⟩, ?_, fun _ h => h.elim⟩
    rintro r rfl _
    have e : Int.gcd (if (-a) < 0 then -(-a) else -a) (-b) = Int.gcd a b := by
      rw [Int.gcd_neg]
      split
      · rw [Int.neg_neg]
      · rw [Int.neg_gcd]
    simp only [e]
    exact ⟨k1, k2, by show 2 ≤ sizeLine; decide, k3⟩
  · rw [if_neg (by simpa using hn)]
    have es : sg b = 1 := if_neg hn
    obtain ⟨k1, k2, k3⟩ := num_tail h q hb (a' := a) (b' := b) (by rw [es]; omega) (by rw [es]; omega)
    refine ⟨(if a < 0 then -a else a, b), rfl, ⟨by simp only; split <;> omega, by simp only; omega⟩, ?_, fun _ h => h.elim⟩
    rintro r rfl _
    have e : Int.gcd (if a < 0 then -a else a) b = Int.gcd a b := by
      split
      · rw [Int.neg_gcd]
      · rfl
    simp only [e]
    exact ⟨k1, k2, by show 2 ≤ sizeLine; decide, k3⟩


theorem fo_number {P : Program} {w : World} {K : Frag} {mg : Str → Option Value} {base : Heap} {f : Addr} {fd : FuncData} (F : FunD K "number" "number" (defArgs s_number) (defBody s_number) (defScope s_number) [.int 1] [] f fd) (g : mg "number" = some (.ref f)) (h_abs : mg "abs" = none) (e_NoNumber : ExC' K mg "NoNumber") (c_common : FnD P w K mg base 1 "common" ["one", "other"] [] sp_common 0) :
    FnOk P w K mg base (L2.CX P w) 2 f fd ["over", "under"] (Lf K mg sp_number (0)) := by
  exact fn_okD (m := m_number) (N := ["over", "under", "part"]) (k := 1) F g sc_number SpOf.mono (SpOf.len fun _ => rfl) (by decide) (fun cdv A outer s H E hr => (dss_cons (ds_if (dt_eq (di_var 1) (DE.i de_int) hr) (dss_one (ds_raise e_NoNumber rfl takesE)) dss_nil)
    (dss_cons (ds_if (dt_lt (di_var 1) (DE.i de_int)) (dss_one (ds_par 0 1 rfl sc_number.nd (de_neg (di_var 0)) (de_neg (di_var 1)))) dss_nil)
    (dss_cons (ds_set 2 sc_number.nd (de_call c_common takesE hr (da_cons (de_abs h_abs (dj_cons (di_var 0) dj_nil)) (da_cons (de_var 1) da_nil))))
    (dss_one (ds_ret (de_tup (da_cons (de_div (di_var 0) (di_var 2)) (da_cons (de_div (di_var 1) (di_var 2)) da_nil))))))))) pure_number
theorem fn_number {P : Program} {w : World} {K : Frag} {mg : Str → Option Value} {base : Heap} {f : Addr} {fd : FuncData} (F : FunD K "number" "number" (defArgs s_number) (defBody s_number) (defScope s_number) [.int 1] [] f fd) (g : mg "number" = some (.ref f)) (h_abs : mg "abs" = none) (e_NoNumber : ExC' K mg "NoNumber") (c_common : FnD P w K mg base 1 "common" ["one", "other"] [] sp_common 0) :
    FnD P w K mg base 2 "number" ["over", "under"] [.int 1] sp_number (0) := by
  obtain ⟨bN, bD⟩ := binds_number F
  exact ⟨SpOf.mono, f, fd, g, F.kp, fo_number F g h_abs e_NoNumber c_common, bN, bD⟩

/-! ### plus -/
abbrev s_plus : Stmt := top 7
theorem sc_plus : FnScope ["one", "other"] ["one", "other"] (defScope s_plus) := ⟨rfl, rfl, rfl, by decide +kernel, rfl, by decide +kernel, by decide +kernel⟩
def sp_plus : SpD := SpOf (fun x : Rat × Rat => [.fz (qR x.1), .fz (qR x.2)]) (fun x => BR 3000 x.1 ∧ BR 3000 x.2) (val fun x => qR (x.1 + x.2))

def m_plus : MS := (mRet (mCall sp_number (mCons (mOp fAdd (mDat (mOp fMul (mDat (mOp fIx (mPeek 0) (mDat (mC (.int 0))))) (mDat (mOp fIx (mPeek 1) (mDat (mC (.int 1))))))) (mDat (mOp fMul (mDat (mOp fIx (mPeek 1) (mDat (mC (.int 0))))) (mDat (mOp fIx (mPeek 0) (mDat (mC (.int 1)))))))) (mCons (mOp fMul (mDat (mOp fIx (mPeek 0) (mDat (mC (.int 1))))) (mDat (mOp fIx (mPeek 1) (mDat (mC (.int 1)))))) mNil))))
theorem pure_plus : ∀ is Q E, ivsOk is → sp_plus is Q E → m_plus { nx := fun _ => Q (.fz .non), rt := Q, ex := fun c _ => E c } (startE is 2) := by
  rintro is Q E _ ⟨⟨p, q⟩, rfl, ⟨hp, hq⟩, k, _⟩
  have k : Q (.fz (qR (Rat.divInt (p.num * q.den + q.num * p.den) (p.den * q.den)))) := by rw [add_di]; exact k _ rfl
  refine ⟨_, rfl, _, rfl, hp.1.cmul hq.2, _, rfl, _, rfl, hq.1.cmul hp.2, _, rfl, _, rfl, hp.2.cmul hq.2, ⟨(_, _), rfl, ⟨((hp.1.mul hq.2).add (hq.1.mul hp.2)).mono (by decide), (hp.2.mul hq.2).mono (by decide)⟩, ?_, ?_⟩⟩
  · rintro r ⟨_, rfl⟩ _
    exact k
  · intro c h
    exact absurd h.1 (dens_ne p q)


theorem fo_plus {P : Program} {w : World} {K : Frag} {mg : Str → Option Value} {base : Heap} {f : Addr} {fd : FuncData} (F : FnP K "plus" s_plus f fd) (g : mg "plus" = some (.ref f)) (c_number : FnD P w K mg base 2 "number" ["over", "under"] [.int 1] sp_number 0) :
    FnOk P w K mg base (L2.CX P w) 3 f fd ["one", "other"] (Lf K mg sp_plus (0)) := by
  exact fn_okD (m := m_plus) (N := ["one", "other"]) (k := 2) F g sc_plus SpOf.mono (SpOf.len fun _ => rfl) (by decide) (fun cdv A outer s H E hr => (dss_one (ds_ret (de_call c_number takesE hr (da_cons (de_add (DE.i (de_mul (DE.i (de_ix (di_var 0) (DE.i de_int) hr)) (DE.i (de_ix (di_var 1) (DE.i de_int) hr)))) (DE.i (de_mul (DE.i (de_ix (di_var 1) (DE.i de_int) hr)) (DE.i (de_ix (di_var 0) (DE.i de_int) hr))))) (da_cons (de_mul (DE.i (de_ix (di_var 0) (DE.i de_int) hr)) (DE.i (de_ix (di_var 1) (DE.i de_int) hr))) da_nil)))))) pure_plus
theorem fn_plus {P : Program} {w : World} {K : Frag} {mg : Str → Option Value} {base : Heap} {f : Addr} {fd : FuncData} (F : FnP K "plus" s_plus f fd) (g : mg "plus" = some (.ref f)) (c_number : FnD P w K mg base 2 "number" ["over", "under"] [.int 1] sp_number 0) :
    FnD P w K mg base 3 "plus" ["one", "other"] [] sp_plus (0) := by
  exact ⟨SpOf.mono, f, fd, g, F.kp, fo_plus F g c_number, (F.bindsN fun _ _ _ _ _ _ us hl => match us, hl with | [_, _], _ => rfl), (fun h => absurd rfl h)⟩

/-! ### times -/
abbrev s_times : Stmt := top 8
theorem sc_times : FnScope ["one", "other"] ["one", "other"] (defScope s_times) := ⟨rfl, rfl, rfl, by decide +kernel, rfl, by decide +kernel, by decide +kernel⟩
def sp_times : SpD := SpOf (fun x : Rat × Rat => [.fz (qR x.1), .fz (qR x.2)]) (fun x => BR 3000 x.1 ∧ BR 3000 x.2) (val fun x => qR (x.1 * x.2))

def m_times : MS := (mRet (mCall sp_number (mCons (mOp fMul (mDat (mOp fIx (mPeek 0) (mDat (mC (.int 0))))) (mDat (mOp fIx (mPeek 1) (mDat (mC (.int 0)))))) (mCons (mOp fMul (mDat (mOp fIx (mPeek 0) (mDat (mC (.int 1))))) (mDat (mOp fIx (mPeek 1) (mDat (mC (.int 1)))))) mNil))))
theorem pure_times : ∀ is Q E, ivsOk is → sp_times is Q E → m_times { nx := fun _ => Q (.fz .non), rt := Q, ex := fun c _ => E c } (startE is 2) := by
  rintro is Q E _ ⟨⟨p, q⟩, rfl, ⟨hp, hq⟩, k, _⟩
  have k : Q (.fz (qR (Rat.divInt (p.num * q.num) (p.den * q.den)))) := by rw [mul_di]; exact k _ rfl
  refine ⟨_, rfl, _, rfl, hp.1.cmul hq.1, _, rfl, _, rfl, hp.2.cmul hq.2, ⟨(_, _), rfl, ⟨(hp.1.mul hq.1).mono (by decide), (hp.2.mul hq.2).mono (by decide)⟩, ?_, ?_⟩⟩
  · rintro r ⟨_, rfl⟩ _
    exact k
  · intro c h
    exact absurd h.1 (dens_ne p q)


theorem fo_times {P : Program} {w : World} {K : Frag} {mg : Str → Option Value} {base : Heap} {f : Addr} {fd : FuncData} (F : FnP K "times" s_times f fd) (g : mg "times" = some (.ref f)) (c_number : FnD P w K mg base 2 "number" ["over", "under"] [.int 1] sp_number 0) :
    FnOk P w K mg base (L2.CX P w) 3 f fd ["one", "other"] (Lf K mg sp_times (0)) := by
  exact fn_okD (m := m_times) (N := ["one", "other"]) (k := 2) F g sc_times SpOf.mono (SpOf.len fun _ => rfl) (by decide) (fun cdv A outer s H E hr => (dss_one (ds_ret (de_call c_number takesE hr (da_cons (de_mul (DE.i (de_ix (di_var 0) (DE.i de_int) hr)) (DE.i (de_ix (di_var 1) (DE.i de_int) hr))) (da_cons (de_mul (DE.i (de_ix (di_var 0) (DE.i de_int) hr)) (DE.i (de_ix (di_var 1) (DE.i de_int) hr))) da_nil)))))) pure_times
theorem fn_times {P : Program} {w : World} {K : Frag} {mg : Str → Option Value} {base : Heap} {f : Addr} {fd : FuncData} (F : FnP K "times" s_times f fd) (g : mg "times" = some (.ref f)) (c_number : FnD P w K mg base 2 "number" ["over", "under"] [.int 1] sp_number 0) :
    FnD P w K mg base 3 "times" ["one", "other"] [] sp_times (0) := by
  exact ⟨SpOf.mono, f, fd, g, F.kp, fo_times F g c_number, (F.bindsN fun _ _ _ _ _ _ us hl => match us, hl with | [_, _], _ => rfl), (fun h => absurd rfl h)⟩

/-! ### far -/
abbrev s_far : Stmt := top 9
theorem sc_far : FnScope ["one"] ["one"] (defScope s_far) := ⟨rfl, rfl, rfl, by decide +kernel, rfl, by decide +kernel, by decide +kernel⟩
def sp_far : SpD := SpOf (fun x : Rat => [.fz (qR x)]) (fun _ => True) (val fun x => qR (absR x))

def m_far : MS := (mRet (mTup (mCons (mCB fAbs (jCons (mDat (mOp fIx (mPeek 0) (mDat (mC (.int 0))))) jNil)) (mCons (mOp fIx (mPeek 0) (mDat (mC (.int 1)))) mNil))))
theorem pure_far : ∀ is Q E, ivsOk is → sp_far is Q E → m_far { nx := fun _ => Q (.fz .non), rt := Q, ex := fun c _ => E c } (startE is 1) := by
  rintro is Q E _ ⟨p, rfl, _, k, _⟩
  have k : Q (.fz (qR (absR p))) := k _ rfl
  rw [qR_abs] at k
  exact ⟨_, rfl, _, rfl, sz 2, k⟩


theorem fo_far {P : Program} {w : World} {K : Frag} {mg : Str → Option Value} {base : Heap} {f : Addr} {fd : FuncData} (F : FnP K "far" s_far f fd) (g : mg "far" = some (.ref f)) (h_abs : mg "abs" = none) :
    FnOk P w K mg base (L2.CX P w) 1 f fd ["one"] (Lf K mg sp_far (0)) := by
  exact fn_okD (m := m_far) (N := ["one"]) (k := 0) F g sc_far SpOf.mono (SpOf.len fun _ => rfl) (by decide) (fun cdv A outer s H E hr => (dss_one (ds_ret (de_tup (da_cons (de_abs h_abs (dj_cons (DE.i (de_ix (di_var 0) (DE.i de_int) hr)) dj_nil)) (da_cons (de_ix (di_var 0) (DE.i de_int) hr) da_nil)))))) pure_far
theorem fn_far {P : Program} {w : World} {K : Frag} {mg : Str → Option Value} {base : Heap} {f : Addr} {fd : FuncData} (F : FnP K "far" s_far f fd) (g : mg "far" = some (.ref f)) (h_abs : mg "abs" = none) :
    FnD P w K mg base 1 "far" ["one"] [] sp_far (0) := by
  exact ⟨SpOf.mono, f, fd, g, F.kp, fo_far F g h_abs, (F.bindsN fun _ _ _ _ _ _ us hl => match us, hl with | [_], _ => rfl), (fun h => absurd rfl h)⟩

/-! ### value_of -/
abbrev s_value_of : Stmt := top 11
theorem sc_value_of : FnScope ["form", "point", "found", "name", "some"] ["form", "point"] (defScope s_value_of) := ⟨rfl, rfl, rfl, by decide +kernel, rfl, by decide +kernel, by decide +kernel⟩
def lendD (b : Bool) (d : D) : IV := if b then .bo d else .fz d
def sp_value_of : SpD := SpOf (fun x : Bool × Form × List Str × (Str → Rat) => [.fz (formD x.2.1), lendD x.1 (ptD x.2.2.1 x.2.2.2)]) (fun x => FitV x.2.2.2 x.2.1) (fun x r => (∀ p ∈ x.2.1.1, p.1 ∈ x.2.2.1) ∧ r = .fz (qR (valF x.2.2.2 x.2.1))) (fun x c => (¬ ∀ p ∈ x.2.1.1, p.1 ∈ x.2.2.1) ∧ c = "NoPoint")

def m_value_of_k0 : MS := (mSet 2 (mCall sp_plus (mCons (mVar 2) (mCons (mCall sp_times (mCons (mVar 4) (mCons (mOp fIx (mPeek 1) (mPeek 3)) mNil))) mNil))))
def m_value_of_k1 : MS := (mRet (mVar 2))
def m_value_of : MS := (mSeq (mSet 2 (mOp fIx (mPeek 0) (mDat (mC (.int 1)))))
    (mSeq (mFor (wPeek (mDat (mOp fIx (mPeek 0) (mDat (mC (.int 0)))))) (gT 2 (gsCons (gN 3) (gsCons (gN 4) gsNil))) (mSeq (mIfS (mTest (mOp (fIn true) (mPeek 3) (mPeek 1))) (mRaise "NoPoint") mNext)
    m_value_of_k0))
    m_value_of_k1))
theorem pure_value_of : ∀ is Q E, ivsOk is → sp_value_of is Q E → m_value_of { nx := fun _ => Q (.fz .non), rt := Q, ex := fun c _ => E c } (startE is 5) := by
  rintro is Q E _ ⟨⟨b, f, ks, v⟩, rfl, fit, k, kx⟩
  have fit : FitV v f := fit
  have k : (∀ p ∈ f.1, p.1 ∈ ks) → Q (.fz (qR (valF v f))) := fun h => k _ ⟨h, rfl⟩
  have kx : (¬ ∀ p ∈ f.1, p.1 ∈ ks) → E "NoPoint" := fun h => kx _ ⟨h, rfl⟩
  refine ⟨qR f.2, rfl, .tup (partsD f.1), rfl, ?_⟩
  have key : ∀ pt : SV, (pt = .fz (ptD ks v) ∨ pt = .bo (ptD ks v)) → forD (gT 2 (gsCons (gN 3) (gsCons (gN 4) gsNil))) (mSeq (mIfS (mTest (mOp (fIn true) (mPeek 3) (mPeek 1))) (mRaise "NoPoint") mNext) m_value_of_k0)
      { nx := m_value_of_k1 { nx := fun _ => Q (.fz .non), rt := Q, ex := fun c _ => E c }, rt := Q, ex := fun c _ => E c } (partsD f.1) [.fz (formD f), pt, .fz (qR f.2), .un, .un] := by
    intro pt hpt
    refine forD_on partD' (fun pre ε => (∀ p ∈ pre, p.1 ∈ ks) ∧ ∃ x y, ε = [.fz (formD f), pt, .fz (qR (f.2 + evalP v pre)), x, y]) f.1 _ ⟨by simp, _, _, by show _ = [_, _, SV.fz (qR (f.2 + 0)), _, _]; rw [Rat.add_zero]⟩ ?_ ?_
    · rintro pre p post ε F e ⟨hk, x, y, rfl⟩ hF
      obtain ⟨o1, o2, o3⟩ := fit.one p (by rw [e]; simp)
      have s := fit.sum pre (p :: post) e
      have step : p.1 ∈ ks → F [.fz (formD f), pt, .fz (qR (f.2 + evalP v pre + p.2 * v p.1)), .fz (.str p.1), .fz (qR p.2)] := fun hp => by
        refine hF _ ⟨fun q hq => ?_, .fz (.str p.1), .fz (qR p.2), by rw [evalP_snoc]⟩
        rcases List.mem_append.mp hq with hq | hq
        · exact hk q hq
        · rw [List.mem_singleton.mp hq]; exact hp
      rcases hpt with rfl | rfl
      all_goals
        refine ⟨rfl, rfl, Sum.inr p.1, rfl, ?_⟩
        by_cases hp : p.1 ∈ ks
        · refine cF (by rw [ptD_get hp]; rfl) ?_
          refine ⟨_, _, rfl, ptD_get hp, (p.2, v p.1), rfl, ⟨o1, o2⟩, ?_, fun _ h => h.elim⟩
          rintro r rfl _
          refine ⟨(f.2 + evalP v pre, p.2 * v p.1), rfl, ⟨s, o3⟩, ?_, fun _ h => h.elim⟩
          rintro r rfl _
          exact step hp
        · refine cT (by rw [ptD_none hp]; rfl) ?_
          exact kx fun h => hp (h p (by rw [e]; simp))
    · rintro ε ⟨hk, x, y, rfl⟩
      exact k hk
  cases b with
  | true => exact key _ (.inr rfl)
  | false => exact key _ (.inl rfl)


theorem fo_value_of {P : Program} {w : World} {K : Frag} {mg : Str → Option Value} {base : Heap} {f : Addr} {fd : FuncData} (F : FnP K "value_of" s_value_of f fd) (g : mg "value_of" = some (.ref f)) (e_NoPoint : ExC' K mg "NoPoint") (c_plus : FnD P w K mg base 3 "plus" ["one", "other"] [] sp_plus 0) (c_times : FnD P w K mg base 3 "times" ["one", "other"] [] sp_times 0) :
    FnOk P w K mg base (L2.CX P w) 4 f fd ["form", "point"] (Lf K mg sp_value_of (0)) := by
  exact fn_okD (m := m_value_of) (N := ["form", "point", "found", "name", "some"]) (k := 3) F g sc_value_of SpOf.mono (SpOf.len fun _ => rfl) (by decide) (fun cdv A outer s H E hr => (dss_cons (ds_set 2 sc_value_of.nd (de_ix (di_var 0) (DE.i de_int) hr))
    (dss_cons (ds_for (passes_of rfl) rfl (dk_any (de_ix (di_var 0) (DE.i de_int) hr)) (dg_tup rfl (dgs_cons (dg_name 3 sc_value_of.nd) (dgs_cons (dg_name 4 sc_value_of.nd) dgs_nil))) (dss_cons (ds_if (dt_notin (di_var 3) (di_var 1) hr) (dss_one (ds_raise e_NoPoint rfl takesE)) dss_nil)
    (dss_one (ds_set 2 sc_value_of.nd (de_call c_plus takesE hr (da_cons (de_var 2) (da_cons (de_call c_times takesE hr (da_cons (de_var 4) (da_cons (de_ix (di_var 1) (di_var 3) hr) da_nil))) da_nil)))))))
    (dss_one (ds_ret (de_var 2)))))) pure_value_of
theorem fn_value_of {P : Program} {w : World} {K : Frag} {mg : Str → Option Value} {base : Heap} {f : Addr} {fd : FuncData} (F : FnP K "value_of" s_value_of f fd) (g : mg "value_of" = some (.ref f)) (e_NoPoint : ExC' K mg "NoPoint") (c_plus : FnD P w K mg base 3 "plus" ["one", "other"] [] sp_plus 0) (c_times : FnD P w K mg base 3 "times" ["one", "other"] [] sp_times 0) :
    FnD P w K mg base 4 "value_of" ["form", "point"] [] sp_value_of (0) := by
  exact ⟨SpOf.mono, f, fd, g, F.kp, fo_value_of F g e_NoPoint c_plus c_times, (F.bindsN fun _ _ _ _ _ _ us hl => match us, hl with | [_, _], _ => rfl), (fun h => absurd rfl h)⟩

/-! ### is_met -/
abbrev s_is_met : Stmt := top 13
theorem sc_is_met : FnScope ["sign", "value"] ["sign", "value"] (defScope s_is_met) := ⟨rfl, rfl, rfl, by decide +kernel, rfl, by decide +kernel, by decide +kernel⟩
def metB (eq : Bool) (r : Rat) : Bool := decide (r = 0) || (!eq && decide (r < 0))
def holdsL (v : Str → Rat) (l : Line) : Bool := metB l.2 (valF v l.1)
def missL (v : Str → Rat) (l : Line) : Rat := if holdsL v l then 0 else absR (valF v l.1)
def sp_is_met : SpD := SpOf (fun x : Bool × Rat => [.fz (signD x.1), .fz (qR x.2)]) (fun _ => True) (val fun x => .bl (metB x.1 x.2))

def m_is_met : MS := (mRet (mOrV (mOp (fEq false) (mDat (mOp fIx (mPeek 1) (mDat (mC (.int 0))))) (mDat (mC (.int 0)))) (mAndV (mOp (fEq false) (mPeek 0) (mDat (mC (.str "<=")))) (mOp fLt (mDat (mOp fIx (mPeek 1) (mDat (mC (.int 0))))) (mDat (mC (.int 0)))))))
theorem pure_is_met : ∀ is Q E, ivsOk is → sp_is_met is Q E → m_is_met { nx := fun _ => Q (.fz .non), rt := Q, ex := fun c _ => E c } (startE is 2) := by
  rintro is Q E _ ⟨⟨b, r⟩, rfl, _, k, _⟩
  have k : Q (.fz (.bl (metB b r))) := k _ rfl
  refine ⟨.int r.num, rfl, .inl rfl, ?_⟩
  by_cases h0 : r = 0
  · have n0 : r.num = 0 := by rw [h0]; rfl
    have e : metB b r = true := by simp [metB, h0]
    rw [e] at k
    refine cT (by simp [pyEq, n0]) ?_
    exact k
  · have n0 : r.num ≠ 0 := num_ne h0
    refine cF (by simp [pyEq, n0]) ?_
    cases b with
    | true =>
      have e : metB true r = false := by simp [metB, h0]
      rw [e] at k
      exact ⟨.inl rfl, k⟩
    | false =>
      have e : metB false r = decide (r.num < 0) := by simp [metB, h0, num_neg_iff]
      rw [e] at k
      exact ⟨.inl rfl, _, rfl, k⟩


theorem fo_is_met {P : Program} {w : World} {K : Frag} {mg : Str → Option Value} {base : Heap} {f : Addr} {fd : FuncData} (F : FnP K "is_met" s_is_met f fd) (g : mg "is_met" = some (.ref f))  :
    FnOk P w K mg base (L2.CX P w) 1 f fd ["sign", "value"] (Lf K mg sp_is_met (0)) := by
  exact fn_okD (m := m_is_met) (N := ["sign", "value"]) (k := 0) F g sc_is_met SpOf.mono (SpOf.len fun _ => rfl) (by decide) (fun cdv A outer s H E hr => (dss_one (ds_ret (de_or (de_eq (DE.i (de_ix (di_var 1) (DE.i de_int) hr)) (DE.i de_int) hr) (de_one (de_and (de_eq (di_var 0) (DE.i (de_str)) hr) (de_one (de_lt (DE.i (de_ix (di_var 1) (DE.i de_int) hr)) (DE.i de_int))))))))) pure_is_met
theorem fn_is_met {P : Program} {w : World} {K : Frag} {mg : Str → Option Value} {base : Heap} {f : Addr} {fd : FuncData} (F : FnP K "is_met" s_is_met f fd) (g : mg "is_met" = some (.ref f))  :
    FnD P w K mg base 1 "is_met" ["sign", "value"] [] sp_is_met (0) := by
  exact ⟨SpOf.mono, f, fd, g, F.kp, fo_is_met F g , (F.bindsN fun _ _ _ _ _ _ us hl => match us, hl with | [_, _], _ => rfl), (fun h => absurd rfl h)⟩

/-! ### holds -/
abbrev s_holds : Stmt := top 14
theorem sc_holds : FnScope ["line", "point", "form", "sign"] ["line", "point"] (defScope s_holds) := ⟨rfl, rfl, rfl, by decide +kernel, rfl, by decide +kernel, by decide +kernel⟩
def sp_holds : SpD := SpOf (fun x : Bool × Line × List Str × (Str → Rat) => [.fz (lineD x.2.1), lendD x.1 (ptD x.2.2.1 x.2.2.2)]) (fun x => FitV x.2.2.2 x.2.1.1) (fun x r => (∀ p ∈ x.2.1.1.1, p.1 ∈ x.2.2.1) ∧ r = .fz (.bl (holdsL x.2.2.2 x.2.1))) (fun x c => (¬ ∀ p ∈ x.2.1.1.1, p.1 ∈ x.2.2.1) ∧ c = "NoPoint")

def m_holds : MS := (mSeq (mAsgT (mVar 0) (gT 2 (gsCons (gN 2) (gsCons (gN 3) gsNil))))
    (mRet (mCall sp_is_met (mCons (mVar 3) (mCons (mCall sp_value_of (mCons (mVar 2) (mCons (mArg 1) mNil))) mNil)))))
theorem pure_holds : ∀ is Q E, ivsOk is → sp_holds is Q E → m_holds { nx := fun _ => Q (.fz .non), rt := Q, ex := fun c _ => E c } (startE is 4) := by
  rintro is Q E _ ⟨⟨b, l, ks, v⟩, rfl, fit, k, kx⟩
  refine ⟨rfl, rfl, ?_⟩
  cases b with
  | true =>
    refine ⟨(true, l.1, ks, v), rfl, fit, ?_, fun c h => kx c h⟩
    rintro r ⟨hk, rfl⟩ _
    refine ⟨(l.2, valF v l.1), rfl, trivial, ?_, fun _ h => h.elim⟩
    rintro r rfl _
    exact k _ ⟨hk, rfl⟩
  | false =>
    refine ⟨(false, l.1, ks, v), rfl, fit, ?_, fun c h => kx c h⟩
    rintro r ⟨hk, rfl⟩ _
    refine ⟨(l.2, valF v l.1), rfl, trivial, ?_, fun _ h => h.elim⟩
    rintro r rfl _
    exact k _ ⟨hk, rfl⟩


theorem fo_holds {P : Program} {w : World} {K : Frag} {mg : Str → Option Value} {base : Heap} {f : Addr} {fd : FuncData} (F : FnP K "holds" s_holds f fd) (g : mg "holds" = some (.ref f)) (c_is_met : FnD P w K mg base 1 "is_met" ["sign", "value"] [] sp_is_met 0) (c_value_of : FnD P w K mg base 4 "value_of" ["form", "point"] [] sp_value_of 0) :
    FnOk P w K mg base (L2.CX P w) 5 f fd ["line", "point"] (Lf K mg sp_holds (0)) := by
  exact fn_okD (m := m_holds) (N := ["line", "point", "form", "sign"]) (k := 4) F g sc_holds SpOf.mono (SpOf.len fun _ => rfl) (by decide) (fun cdv A outer s H E hr => (dss_cons (ds_asgT (de_var 0) (dg_tup rfl (dgs_cons (dg_name 2 sc_holds.nd) (dgs_cons (dg_name 3 sc_holds.nd) dgs_nil))))
    (dss_one (ds_ret (de_call c_is_met takesE hr (da_cons (de_var 3) (da_cons (de_call c_value_of takesE hr (da_cons (de_var 2) (da_cons (de_arg 1) da_nil))) da_nil))))))) pure_holds
theorem fn_holds {P : Program} {w : World} {K : Frag} {mg : Str → Option Value} {base : Heap} {f : Addr} {fd : FuncData} (F : FnP K "holds" s_holds f fd) (g : mg "holds" = some (.ref f)) (c_is_met : FnD P w K mg base 1 "is_met" ["sign", "value"] [] sp_is_met 0) (c_value_of : FnD P w K mg base 4 "value_of" ["form", "point"] [] sp_value_of 0) :
    FnD P w K mg base 5 "holds" ["line", "point"] [] sp_holds (0) := by
  exact ⟨SpOf.mono, f, fd, g, F.kp, fo_holds F g c_is_met c_value_of, (F.bindsN fun _ _ _ _ _ _ us hl => match us, hl with | [_, _], _ => rfl), (fun h => absurd rfl h)⟩

/-! ### miss -/
abbrev s_miss : Stmt := top 15
theorem sc_miss : FnScope ["line", "point", "form", "sign", "value"] ["line", "point"] (defScope s_miss) := ⟨rfl, rfl, rfl, by decide +kernel, rfl, by decide +kernel, by decide +kernel⟩
def sp_miss : SpD := SpOf (fun x : Bool × Line × List Str × (Str → Rat) => [.fz (lineD x.2.1), lendD x.1 (ptD x.2.2.1 x.2.2.2)]) (fun x => FitV x.2.2.2 x.2.1.1) (fun x r => (∀ p ∈ x.2.1.1.1, p.1 ∈ x.2.2.1) ∧ r = .fz (qR (missL x.2.2.2 x.2.1))) (fun x c => (¬ ∀ p ∈ x.2.1.1.1, p.1 ∈ x.2.2.1) ∧ c = "NoPoint")

def m_miss : MS := (mSeq (mAsgT (mVar 0) (gT 2 (gsCons (gN 2) (gsCons (gN 3) gsNil))))
    (mSeq (mSet 4 (mCall sp_value_of (mCons (mVar 2) (mCons (mArg 1) mNil))))
    (mRet (mIf (mTest (mCall sp_is_met (mCons (mVar 3) (mCons (mVar 4) mNil)))) (mCallD sp_number [.int 1] (mCons (mC (.int 0)) mNil)) (mCall sp_far (mCons (mVar 4) mNil))))))
theorem pure_miss : ∀ is Q E, ivsOk is → sp_miss is Q E → m_miss { nx := fun _ => Q (.fz .non), rt := Q, ex := fun c _ => E c } (startE is 5) := by
  rintro is Q E _ ⟨⟨b, l, ks, v⟩, rfl, fit, k, kx⟩
  refine ⟨rfl, rfl, ?_⟩
  cases b with
  | true =>
    refine ⟨(true, l.1, ks, v), rfl, fit, ?_, fun c h => kx c h⟩
    rintro r ⟨hk, rfl⟩ _
    have k : Q (.fz (qR (missL v l))) := k _ ⟨hk, rfl⟩
    refine ⟨(l.2, valF v l.1), rfl, trivial, ?_, fun _ h => h.elim⟩
    rintro r rfl _
    by_cases h : metB l.2 (valF v l.1) = true
    · have e : missL v l = 0 := by unfold missL holdsL; rw [if_pos h]
      rw [e] at k
      refine cT h ?_
      refine ⟨(0, 1), rfl, ⟨(show Bd 1 0 by unfold Bd; decide).mono (by decide), (show Bd 1 1 by unfold Bd; decide).mono (by decide)⟩, ?_, fun c h => absurd h.1 (show ¬ ((1 : Int) = 0) by decide)⟩
      rintro r ⟨_, hr⟩ _
      have hr : r = .fz (qR 0) := hr
      rw [hr]
      exact k
    · have e : missL v l = absR (valF v l.1) := by unfold missL holdsL; rw [if_neg h]
      rw [e] at k
      refine cF (by simpa using h) ?_
      refine ⟨valF v l.1, rfl, trivial, ?_, fun _ h => h.elim⟩
      rintro r rfl _
      exact k
  | false =>
    refine ⟨(false, l.1, ks, v), rfl, fit, ?_, fun c h => kx c h⟩
    rintro r ⟨hk, rfl⟩ _
    have k : Q (.fz (qR (missL v l))) := k _ ⟨hk, rfl⟩
    refine ⟨(l.2, valF v l.1), rfl, trivial, ?_, fun _ h => h.elim⟩
    rintro r rfl _
    by_cases h : metB l.2 (valF v l.1) = true
    · have e : missL v l = 0 := by unfold missL holdsL; rw [if_pos h]
      rw [e] at k
      refine cT h ?_
      refine ⟨(0, 1), rfl, ⟨(show Bd 1 0 by unfold Bd; decide).mono (by decide), (show Bd 1 1 by unfold Bd; decide).mono (by decide)⟩, ?_, fun c h => absurd h.1 (show ¬ ((1 : Int) = 0) by decide)⟩
      rintro r ⟨_, hr⟩ _
      have hr : r = .fz (qR 0) := hr
      rw [hr]
      exact k
    · have e : missL v l = absR (valF v l.1) := by unfold missL holdsL; rw [if_neg h]
      rw [e] at k
      refine cF (by simpa using h) ?_
      refine ⟨valF v l.1, rfl, trivial, ?_, fun _ h => h.elim⟩
      rintro r rfl _
      exact k


theorem fo_miss {P : Program} {w : World} {K : Frag} {mg : Str → Option Value} {base : Heap} {f : Addr} {fd : FuncData} (F : FnP K "miss" s_miss f fd) (g : mg "miss" = some (.ref f)) (c_is_met : FnD P w K mg base 1 "is_met" ["sign", "value"] [] sp_is_met 0) (c_number : FnD P w K mg base 2 "number" ["over", "under"] [.int 1] sp_number 0) (c_far : FnD P w K mg base 1 "far" ["one"] [] sp_far 0) (c_value_of : FnD P w K mg base 4 "value_of" ["form", "point"] [] sp_value_of 0) :
    FnOk P w K mg base (L2.CX P w) 5 f fd ["line", "point"] (Lf K mg sp_miss (0)) := by
  exact fn_okD (m := m_miss) (N := ["line", "point", "form", "sign", "value"]) (k := 4) F g sc_miss SpOf.mono (SpOf.len fun _ => rfl) (by decide) (fun cdv A outer s H E hr => (dss_cons (ds_asgT (de_var 0) (dg_tup rfl (dgs_cons (dg_name 2 sc_miss.nd) (dgs_cons (dg_name 3 sc_miss.nd) dgs_nil))))
    (dss_cons (ds_set 4 sc_miss.nd (de_call c_value_of takesE hr (da_cons (de_var 2) (da_cons (de_arg 1) da_nil))))
    (dss_one (ds_ret (de_if (dt_val (de_call c_is_met takesE hr (da_cons (de_var 3) (da_cons (de_var 4) da_nil)))) (de_callD c_number takesE hr (da_cons de_int da_nil) (by simp)) (de_call c_far takesE hr (da_cons (de_var 4) da_nil)))))))) pure_miss
theorem fn_miss {P : Program} {w : World} {K : Frag} {mg : Str → Option Value} {base : Heap} {f : Addr} {fd : FuncData} (F : FnP K "miss" s_miss f fd) (g : mg "miss" = some (.ref f)) (c_is_met : FnD P w K mg base 1 "is_met" ["sign", "value"] [] sp_is_met 0) (c_number : FnD P w K mg base 2 "number" ["over", "under"] [.int 1] sp_number 0) (c_far : FnD P w K mg base 1 "far" ["one"] [] sp_far 0) (c_value_of : FnD P w K mg base 4 "value_of" ["form", "point"] [] sp_value_of 0) :
    FnD P w K mg base 5 "miss" ["line", "point"] [] sp_miss (0) := by
  exact ⟨SpOf.mono, f, fd, g, F.kp, fo_miss F g c_is_met c_number c_far c_value_of, (F.bindsN fun _ _ _ _ _ _ us hl => match us, hl with | [_, _], _ => rfl), (fun h => absurd rfl h)⟩

/-! ### total -/
abbrev s_total : Stmt := top 16
theorem sc_total : FnScope ["rung", "point", "found", "weight", "line"] ["rung", "point"] (defScope s_total) := ⟨rfl, rfl, rfl, by decide +kernel, rfl, by decide +kernel, by decide +kernel⟩
abbrev Rung := List (Rat × Line)
def pairD (p : Rat × Line) : D := .tup [qR p.1, lineD p.2]
def rungD (g : Rung) : D := .tup (g.map pairD)
def totalL (v : Str → Rat) : Rung → Rat
  | [] => 0
  | p :: r => p.1 * missL v p.2 + totalL v r
theorem totalL_snoc (v : Str → Rat) : ∀ (pre : Rung) (p : Rat × Line), totalL v (pre ++ [p]) = totalL v pre + p.1 * missL v p.2
  | [], p => by show p.1 * missL v p.2 + 0 = 0 + _; rw [Rat.add_zero, Rat.zero_add]
  | q :: r, p => by
    show q.1 * missL v q.2 + totalL v (r ++ [p]) = q.1 * missL v q.2 + totalL v r + _
    rw [totalL_snoc v r p, Rat.add_assoc]
structure FitT (v : Str → Rat) (g : Rung) : Prop where
  one : ∀ p ∈ g, FitV v p.2.1 ∧ BR 3000 p.1 ∧ BR 3000 (missL v p.2) ∧ BR 3000 (p.1 * missL v p.2)
  sum : ∀ pre post, g = pre ++ post → BR 3000 (totalL v pre)
def allIn (ks : List Str) (g : Rung) : Prop := ∀ p ∈ g, ∀ q ∈ p.2.1.1, q.1 ∈ ks
def sp_total : SpD := SpOf (fun x : Bool × Rung × List Str × (Str → Rat) => [.fz (rungD x.2.1), lendD x.1 (ptD x.2.2.1 x.2.2.2)]) (fun x => FitT x.2.2.2 x.2.1) (fun x r => allIn x.2.2.1 x.2.1 ∧ r = .fz (qR (totalL x.2.2.2 x.2.1))) (fun x c => ¬ allIn x.2.2.1 x.2.1 ∧ c = "NoPoint")

def m_total_k0 : MS := (mRet (mVar 2))
def m_total : MS := (mSeq (mSet 2 (mCallD sp_number [.int 1] (mCons (mC (.int 0)) mNil)))
    (mSeq (mFor (wPeek (mDat (mVar 0))) (gT 2 (gsCons (gN 3) (gsCons (gN 4) gsNil))) (mSet 2 (mCall sp_plus (mCons (mVar 2) (mCons (mCall sp_times (mCons (mVar 3) (mCons (mCall sp_miss (mCons (mVar 4) (mCons (mArg 1) mNil))) mNil))) mNil)))))
    m_total_k0))
theorem pure_total : ∀ is Q E, ivsOk is → sp_total is Q E → m_total { nx := fun _ => Q (.fz .non), rt := Q, ex := fun c _ => E c } (startE is 5) := by
  rintro is Q E _ ⟨⟨b, g, ks, v⟩, rfl, fit, k, kx⟩
  have fit : FitT v g := fit
  have k : allIn ks g → Q (.fz (qR (totalL v g))) := fun h => k _ ⟨h, rfl⟩
  have kx : ¬ allIn ks g → E "NoPoint" := fun h => kx _ ⟨h, rfl⟩
  refine ⟨(0, 1), rfl, ⟨(show Bd 1 0 by unfold Bd; decide).mono (by decide), (show Bd 1 1 by unfold Bd; decide).mono (by decide)⟩, ?_, fun c h => absurd h.1 (show ¬ ((1 : Int) = 0) by decide)⟩
  rintro r ⟨_, hr⟩ _
  have hr : r = .fz (qR 0) := hr
  subst hr
  have key : ∀ (b : Bool) (pt : SV), (b = false ∧ pt = .fz (ptD ks v) ∨ b = true ∧ pt = .bo (ptD ks v)) → forD (gT 2 (gsCons (gN 3) (gsCons (gN 4) gsNil))) (mSet 2 (mCall sp_plus (mCons (mVar 2) (mCons (mCall sp_times (mCons (mVar 3) (mCons (mCall sp_miss (mCons (mVar 4) (mCons (mArg 1) mNil))) mNil))) mNil))))
      { nx := m_total_k0 { nx := fun _ => Q (.fz .non), rt := Q, ex := fun c _ => E c }, rt := Q, ex := fun c _ => E c } (g.map pairD) [.fz (rungD g), pt, .fz (qR 0), .un, .un] := by
    intro b pt hpt
    refine forD_on pairD (fun pre ε => allIn ks pre ∧ ∃ x y, ε = [.fz (rungD g), pt, .fz (qR (totalL v pre)), x, y]) g _ ⟨fun p hp => absurd hp (by simp), _, _, rfl⟩ ?_ ?_
    · rintro pre p post ε F e ⟨hk, x, y, rfl⟩ hF
      have hp : p ∈ g := by rw [e]; simp
      obtain ⟨o1, o2, o3, o4⟩ := fit.one p hp
      have s := fit.sum pre (p :: post) e
      have step : (∀ q ∈ p.2.1.1, q.1 ∈ ks) → F [.fz (rungD g), pt, .fz (qR (totalL v pre + p.1 * missL v p.2)), .fz (qR p.1), .fz (lineD p.2)] := fun h => by
        refine hF _ ⟨fun q hq => ?_, .fz (qR p.1), .fz (lineD p.2), by rw [totalL_snoc]⟩
        rcases List.mem_append.mp hq with hq | hq
        · exact hk q hq
        · rw [List.mem_singleton.mp hq]; exact h
      rcases hpt with ⟨rfl, rfl⟩ | ⟨rfl, rfl⟩
      · refine ⟨rfl, rfl, (false, p.2, ks, v), rfl, o1, ?_, fun c h => ?_⟩
        · rintro r ⟨h, rfl⟩ _
          refine ⟨(p.1, missL v p.2), rfl, ⟨o2, o3⟩, ?_, fun _ h => h.elim⟩
          rintro r rfl _
          refine ⟨(totalL v pre, p.1 * missL v p.2), rfl, ⟨s, o4⟩, ?_, fun _ h => h.elim⟩
          rintro r rfl _
          exact step h
        · obtain ⟨h, rfl⟩ := h
          exact kx fun z => h (z p hp)
      · refine ⟨rfl, rfl, (true, p.2, ks, v), rfl, o1, ?_, fun c h => ?_⟩
        · rintro r ⟨h, rfl⟩ _
          refine ⟨(p.1, missL v p.2), rfl, ⟨o2, o3⟩, ?_, fun _ h => h.elim⟩
          rintro r rfl _
          refine ⟨(totalL v pre, p.1 * missL v p.2), rfl, ⟨s, o4⟩, ?_, fun _ h => h.elim⟩
          rintro r rfl _
          exact step h
        · obtain ⟨h, rfl⟩ := h
          exact kx fun z => h (z p hp)
    · rintro ε ⟨hk, x, y, rfl⟩
      exact k hk
  cases b with
  | true => exact key true _ (.inr ⟨rfl, rfl⟩)
  | false => exact key false _ (.inl ⟨rfl, rfl⟩)


theorem fo_total {P : Program} {w : World} {K : Frag} {mg : Str → Option Value} {base : Heap} {f : Addr} {fd : FuncData} (F : FnP K "total" s_total f fd) (g : mg "total" = some (.ref f)) (c_plus : FnD P w K mg base 3 "plus" ["one", "other"] [] sp_plus 0) (c_times : FnD P w K mg base 3 "times" ["one", "other"] [] sp_times 0) (c_miss : FnD P w K mg base 5 "miss" ["line", "point"] [] sp_miss 0) (c_number : FnD P w K mg base 2 "number" ["over", "under"] [.int 1] sp_number 0) :
    FnOk P w K mg base (L2.CX P w) 6 f fd ["rung", "point"] (Lf K mg sp_total (0)) := by
  exact fn_okD (m := m_total) (N := ["rung", "point", "found", "weight", "line"]) (k := 5) F g sc_total SpOf.mono (SpOf.len fun _ => rfl) (by decide) (fun cdv A outer s H E hr => (dss_cons (ds_set 2 sc_total.nd (de_callD c_number takesE hr (da_cons de_int da_nil) (by simp)))
    (dss_cons (ds_for (passes_of rfl) rfl (dk_any (de_var 0)) (dg_tup rfl (dgs_cons (dg_name 3 sc_total.nd) (dgs_cons (dg_name 4 sc_total.nd) dgs_nil))) (dss_one (ds_set 2 sc_total.nd (de_call c_plus takesE hr (da_cons (de_var 2) (da_cons (de_call c_times takesE hr (da_cons (de_var 3) (da_cons (de_call c_miss takesE hr (da_cons (de_var 4) (da_cons (de_arg 1) da_nil))) da_nil))) da_nil))))))
    (dss_one (ds_ret (de_var 2)))))) pure_total
theorem fn_total {P : Program} {w : World} {K : Frag} {mg : Str → Option Value} {base : Heap} {f : Addr} {fd : FuncData} (F : FnP K "total" s_total f fd) (g : mg "total" = some (.ref f)) (c_plus : FnD P w K mg base 3 "plus" ["one", "other"] [] sp_plus 0) (c_times : FnD P w K mg base 3 "times" ["one", "other"] [] sp_times 0) (c_miss : FnD P w K mg base 5 "miss" ["line", "point"] [] sp_miss 0) (c_number : FnD P w K mg base 2 "number" ["over", "under"] [.int 1] sp_number 0) :
    FnD P w K mg base 6 "total" ["rung", "point"] [] sp_total (0) := by
  exact ⟨SpOf.mono, f, fd, g, F.kp, fo_total F g c_plus c_times c_miss c_number, (F.bindsN fun _ _ _ _ _ _ us hl => match us, hl with | [_, _], _ => rfl), (fun h => absurd rfl h)⟩

/-! ### _law_begun -/
abbrev s__law_begun : Stmt := top 18
theorem sc__law_begun : FnScope ["script", "great", "cell"] ["script"] (defScope s__law_begun) := ⟨rfl, rfl, rfl, by decide +kernel, rfl, by decide +kernel, by decide +kernel⟩
theorem fn__law_begun {P : Program} {w : World} {K : Frag} {mg : Str → Option Value} {base : Heap} {f : Addr} {fd : FuncData} (F : FnP K "_law_begun" s__law_begun f fd) (g : mg "_law_begun" = some (.ref f)) (h_abs : mg "abs" = none) :
    FnOk P w K mg base (L2.CX P w) 1 f fd ["script"] (spBegun K) := by
  refine F.ok sc__law_begun (fun vs H Q E h => ?_) (fun cdv A outer s H vs Q E hr h => ⟨t_begun K, ?_, pure_begun vs H Q E h⟩)
  · obtain ⟨a, ns, rfl, _⟩ := h
    rfl
  · exact pss_cons (ps_setLc (own := [("cell", 2)]) rfl sc__law_begun.nd rfl rfl (sw_true rfl rfl rfl (by decide +kernel)) (pi_list (pv 0)) (blkOk_by (by show blkC ["script", "great", "cell"] (defScope s__law_begun) _ _ = true; decide +kernel)) (fun _ _ _ _ _ => pg_name sc__law_begun.nd rfl (Or.inl rfl) (.inr rfl))
        (fun _ _ _ _ _ => pts_one (pt_cmpR op_ge (pe_callB call_abs rfl h_abs boot_abs (pa_cons (pv 2) pa_nil)) (pe_op op_pow pe_int pe_int) (nomark _)))
        (fun _ _ _ _ _ => pe_op op_sub (pe_callB call_abs rfl h_abs boot_abs (pa_cons (pv 2) pa_nil)) (pe_op op_pow pe_int pe_int)))
      (pss_one (ps_ret (pe_disp (pps_cons pe_str (pv 1) (pps_cons pe_str (pe_lc (own := [("cell", 2)]) rfl sc__law_begun.nd (pi_list (pv 0)) (blkOk_by (by show blkC ["script", "great", "cell"] (defScope s__law_begun) _ _ = true; decide +kernel)) (fun _ _ _ _ _ => pg_name sc__law_begun.nd rfl (Or.inl rfl) (.inr rfl)) (fun _ _ _ _ _ => pts_nil)
        (fun _ _ _ _ _ => pe_callB call_abs rfl h_abs boot_abs (pa_cons (pv 2) pa_nil))) (pps_cons pe_str pe_int (pps_cons pe_str pe_int pps_nil)))) rfl rfl (by decide) (by decide))))

/-! ### _law_mixed -/
abbrev s__law_mixed : Stmt := top 19
theorem sc__law_mixed : FnScope ["state", "turn", "found", "prime", "blend", "cell"] ["state"] (defScope s__law_mixed) := ⟨rfl, rfl, rfl, by decide +kernel, rfl, by decide +kernel, by decide +kernel⟩
theorem fn__law_mixed {P : Program} {w : World} {K : Frag} {mg : Str → Option Value} {base : Heap} {f : Addr} {fd : FuncData} (F : FnP K "_law_mixed" s__law_mixed f fd) (g : mg "_law_mixed" = some (.ref f)) (h_int : mg "int" = none) :
    FnD P w K mg base 1 "_law_mixed" ["state"] [] spMixed 1 := by
  refine fn_hs (t := fun X => t_mixed X.K) F g sc__law_mixed spMixed_mono (fun is Q E h => by rw [h.1]; rfl) (F.bindsN fun _ _ _ _ _ _ us hl => match us, hl with | [_], _ => rfl) (fun cdv A outer s H E hr => ?_) (fun X e1 e2 vs H Q E h => by subst e1; subst e2; exact pure_mixed vs H Q E h)
  have hu := hu_of hr
  exact pss_cons (ps_par (i := 1) (j := 2) rfl sc__law_mixed.nd rfl rfl (by decide) rfl rfl (pa_cons (pe_op op_add (pe_dget hu (pv 0) pe_str (fun _ _ => rfl)) pe_int) (pa_cons pe_int pa_nil)) rfl rfl)
    (pss_cons (ps_dput hu (pv 0) pe_str (pv 1) rfl)
    (pss_cons (ps_for (passes_of rfl) rfl (pi_list (pe_lst (pa_cons pe_int (pa_cons pe_int (pa_cons pe_int (pa_cons pe_int pa_nil)))))) (pg_name sc__law_mixed.nd rfl (Or.inl rfl) (.inl rfl))
      (pss_cons (ps_set (i := 4) sc__law_mixed.nd rfl (Or.inl rfl) (pe_op op_add (pe_op op_mul pe_int (pv 1)) (pe_op op_fdivW (pv 3) pe_int)))
      (pss_cons (ps_for (passes_of rfl) rfl (pi_list (pe_dget hu (pv 0) pe_str (fun _ _ => rfl))) (pg_name sc__law_mixed.nd rfl (Or.inl rfl) (.inl rfl))
        (pss_one (ps_set (i := 4) sc__law_mixed.nd rfl (Or.inl rfl) (pe_op op_modN (pe_callTy call_intA rfl h_int boot_int (pa_cons (pe_op op_add (pe_op op_add (pe_op op_mul (pv 4) pe_int) (pv 5)) (pv 1)) pa_nil)) (pv 3)))))
      (pss_one (ps_set (i := 2) sc__law_mixed.nd rfl (Or.inl rfl) (pe_op op_add (pe_op op_mul (pv 2) pe_int) (pe_op op_modN (pe_callTy call_intA rfl h_int boot_int (pa_cons (pe_op op_powW (pv 4) pe_int) pa_nil)) (pv 3))))))))
    (pss_one (ps_ret (pv 2)))))

/-! ### _law_draw -/
abbrev s__law_draw : Stmt := top 20
theorem sc__law_draw : FnScope ["state", "room", "found"] ["state", "room"] (defScope s__law_draw) := ⟨rfl, rfl, rfl, by decide +kernel, rfl, by decide +kernel, by decide +kernel⟩
theorem fn__law_draw {P : Program} {w : World} {K : Frag} {mg : Str → Option Value} {base : Heap} {f : Addr} {fd : FuncData} (F : FnP K "_law_draw" s__law_draw f fd) (g : mg "_law_draw" = some (.ref f)) (h_int : mg "int" = none) (c__law_mixed : FnD P w K mg base 1 "_law_mixed" ["state"] [] spMixed 1) :
    FnD P w K mg base 2 "_law_draw" ["state", "room"] [] spDraw 1 := by
  obtain ⟨fm, fdm, m1, m2, m3, m4, _⟩ := c__law_mixed.ex
  refine fn_hs (t := fun X => t_draw X.K X.mg (fun u s _ _ => False)) F g sc__law_draw spDraw_mono (fun is Q E h => by obtain ⟨r, e, _⟩ := h; rw [e]; rfl) (F.bindsN fun _ _ _ _ _ _ us hl => match us, hl with | [_, _], _ => rfl) (fun cdv A outer s H E hr => ?_) (fun X e1 e2 vs H Q E h => by subst e1; subst e2; exact pure_draw vs H Q E h)
  have hu := hu_of hr
  exact pss_cons (ps_if (pt_cmpR op_eq (pe_dget hu (pv 0) pe_str (fun _ _ => rfl)) pe_int (nomark _))
      (pss_one (ps_dput hu (pv 0) pe_str (pe_ifExp (pt_cmpR (op_neD (Nat.lt_of_succ_lt (room65 hr))) (pe_dget hu (pv 0) pe_str (fun _ _ => rfl)) (pe_lst pa_nil) (nomark _))
        (pe_bm PySem.F.plainAttrs_list PySem.F.slot_list_pop PySem.F.type_list_pop mt_popAt (pe_dget hu (pv 0) pe_str (fun _ _ => rfl)) (pa_cons pe_int pa_nil))
        (pe_callSD m3 (hr.mono (by decide)) rfl m1 m2 m4 .nil (fun σ => passAt takes0 σ) (pa_cons (pv 0) pa_nil))) rfl)) pss_nil)
    (pss_cons (ps_set (i := 2) sc__law_draw.nd rfl (Or.inl rfl) (pe_op op_modN (pe_callTy call_intA rfl h_int boot_int (pa_cons (pe_dget hu (pv 0) pe_str (fun _ _ => rfl)) pa_nil)) (pv 1)))
    (pss_cons (ps_dput hu (pv 0) pe_str (pe_op op_fdivW (pe_dget hu (pv 0) pe_str (fun _ _ => rfl)) (pv 1)) rfl)
    (pss_one (ps_ret (pv 2)))))

/-! ### _law_pick -/
abbrev s__law_pick : Stmt := top 21
theorem sc__law_pick : FnScope ["state", "some"] ["state", "some"] (defScope s__law_pick) := ⟨rfl, rfl, rfl, by decide +kernel, rfl, by decide +kernel, by decide +kernel⟩
def pickA : Option Bool → List D → IV
  | none, ds => .bo (.lst ds)
  | some true, ds => .fz (.tup ds)
  | some false, ds => .fz (.lst ds)
def sp__law_pick : SpD := SpOf (fun x : Option Bool × List D => [.st, pickA x.1 x.2]) (fun x => x.2 ≠ []) (fun x r => ∃ d ∈ x.2, r = .fz d)

def m__law_pick : MS := (mRet (mOp fIx (mPeek 1) (mDat (mCall spDraw (mCons (mVar 0) (mCons (mCB fLen (jCons (mPeek 1) jNil)) mNil))))))
theorem pick_at {ds : List D} {n : Int} (h0 : 0 ≤ n) (h1 : n < ds.length) : ∃ d ∈ ds, L2.atI ds n = some d := ⟨_, List.getElem_mem _, atI_pos h0 h1⟩
theorem pure__law_pick : ∀ is Q E, ivsOk is → sp__law_pick is Q E → m__law_pick { nx := fun _ => Q (.fz .non), rt := Q, ex := fun c _ => E c } (startE is 2) := by
  rintro is Q E ok ⟨⟨b, ds⟩, rfl, hne, k, _⟩
  have hpos : 0 < ds.length := List.length_pos_iff.mpr hne
  have hlen : ds.length ≤ sizeLine := by
    have h : (pickA b ds).ok := ok.2.1
    match b, h with
    | none, h => simp only [pickA, IV.ok, D.ok] at h; exact h.1
    | some true, h => simp only [pickA, IV.ok, D.ok] at h; exact h.1
    | some false, h => simp only [pickA, IV.ok, D.ok] at h; exact h.1
  rw [sizeLine_eq] at hlen
  have fin : ∀ n : Int, 0 ≤ n → n < ds.length → ∃ d, L2.atI ds n = some d ∧ Q (.fz d) := fun n h0 h1 => by
    obtain ⟨d, hd, e⟩ := pick_at h0 h1
    exact ⟨d, e, k _ ⟨d, hd, rfl⟩⟩
  match b with
  | none => exact ⟨(ds.length : Nat), rfl, ⟨by omega, log_lt (by omega)⟩, fun n h0 h1 _ => fin n h0 h1⟩
  | some true => exact ⟨(ds.length : Nat), rfl, ⟨by omega, log_lt (by omega)⟩, fun n h0 h1 _ => fin n h0 h1⟩
  | some false => exact ⟨(ds.length : Nat), rfl, ⟨by omega, log_lt (by omega)⟩, fun n h0 h1 _ => fin n h0 h1⟩

theorem fo__law_pick {P : Program} {w : World} {K : Frag} {mg : Str → Option Value} {base : Heap} {f : Addr} {fd : FuncData} (F : FnP K "_law_pick" s__law_pick f fd) (g : mg "_law_pick" = some (.ref f)) (h_len : mg "len" = none) (c__law_draw : FnD P w K mg base 2 "_law_draw" ["state", "room"] [] spDraw 1) :
    FnOk P w K mg base (L2.CX P w) 3 f fd ["state", "some"] (Lf K mg sp__law_pick (1)) := by
  exact fn_okD (m := m__law_pick) (N := ["state", "some"]) (k := 2) F g sc__law_pick SpOf.mono (SpOf.len fun _ => rfl) (by decide) (fun cdv A outer s H E hr => (dss_one (ds_ret (de_ix (di_var 1) (DE.i (de_call c__law_draw takesE hr (da_cons (de_var 0) (da_cons (de_len h_len (dj_cons (di_var 1) dj_nil)) da_nil)))) hr)))) pure__law_pick
theorem fn__law_pick {P : Program} {w : World} {K : Frag} {mg : Str → Option Value} {base : Heap} {f : Addr} {fd : FuncData} (F : FnP K "_law_pick" s__law_pick f fd) (g : mg "_law_pick" = some (.ref f)) (h_len : mg "len" = none) (c__law_draw : FnD P w K mg base 2 "_law_draw" ["state", "room"] [] spDraw 1) :
    FnD P w K mg base 3 "_law_pick" ["state", "some"] [] sp__law_pick (1) := by
  exact ⟨SpOf.mono, f, fd, g, F.kp, fo__law_pick F g h_len c__law_draw, (F.bindsN fun _ _ _ _ _ _ us hl => match us, hl with | [_, _], _ => rfl), (fun h => absurd rfl h)⟩

/-! ### _law_is -/
abbrev s__law_is : Stmt := top 22
theorem sc__law_is : FnScope ["found", "due", "one", "other"] ["found", "due"] (defScope s__law_is) := ⟨rfl, rfl, rfl, by decide +kernel, rfl, by decide +kernel, by decide +kernel⟩
/-- the same twice: what a law compares -/
def sp__law_is (n : Nat) : SpD := SpOf (fun d : D => [.fz d, .fz d]) (fun d => 1 ≤ n ∧ D.pl (n - 1) d) (val fun _ => .bl true)

def m__law_is_k0 (n : Nat) : MS := (mRet (mAndV (mIs "int" (mPeek 0)) (mAndV (mOp (fEq false) (mPeek 0) (mPeek 1)) (mAndV (mOp (fEq false) (mDat (mOp (fIs false) (mPeek 0) (mDat (mC (.bl true))))) (mDat (mOp (fIs false) (mPeek 1) (mDat (mC (.bl true)))))) (mOp (fEq false) (mDat (mOp (fIs false) (mPeek 0) (mDat (mC (.bl false))))) (mDat (mOp (fIs false) (mPeek 1) (mDat (mC (.bl false))))))))))
def m__law_is_k1 (n : Nat) : MS := (mSeq (mIfS (mOr (mTest (mOp (fIs false) (mPeek 1) (mDat (mC .non)))) (mTest (mIs "str" (mPeek 1)))) (mRet (mAndV (mOp (fEq false) (mDat (mIs "str" (mPeek 0))) (mDat (mIs "str" (mPeek 1)))) (mOp (fEq false) (mPeek 0) (mPeek 1)))) mNext)
    (m__law_is_k0 n))
def m__law_is_k2 (n : Nat) : MS := (mRet (mOp (fEq false) (mDat (mLC [2, 3] (wZip (jCons (mPeek 0) (jCons (mPeek 1) jNil))) (gT 2 (gsCons (gN 2) (gsCons (gN 3) gsNil))) (mNot (mTest (mCall (sp__law_is n) (mCons (mVar 2) (mCons (mVar 3) mNil))))) (mC (.int 1)))) (mDat (mLst mNil))))
def m__law_is_k3 (n : Nat) : MS := (mSeq (mIfS (mTest (mIs "dict" (mPeek 1))) mDeadS mNext)
    (m__law_is_k1 n))
def m__law_is (n : Nat) : MS := (mSeq (mIfS (mTest (mIs2 "tuple" "list" (mPeek 1))) (mSeq (mIfS (mOr (mTest (mOp (fEq true) (mDat (mIs "tuple" (mPeek 1))) (mDat (mIs "tuple" (mPeek 0))))) (mOr (mTest (mOp (fEq true) (mDat (mIs "list" (mPeek 1))) (mDat (mIs "list" (mPeek 0))))) (mTest (mOp (fEq true) (mDat (mCB fLen (jCons (mPeek 0) jNil))) (mDat (mCB fLen (jCons (mPeek 1) jNil))))))) (mRet (mC (.bl false))) mNext)
    (m__law_is_k2 n)) mNext)
    (m__law_is_k3 n))
theorem is_seq {mg : MG} {mt : MT} {me : ME} {ε : G.Env} {Q : List D → Prop} (ds : List D) (q : Q [])
    (hs : ∀ d ∈ ds, ∀ (K : D → Prop) (L : Prop), L → mg (.tup [d, d]) ε fun ε1 => mt ε1 (fun b => if b = true then me ε1 (onD K) (fun _ => False) else L) fun _ => False) : compD mg mt me ε Q (zipD ds ds) [] := by
  have e : zipD ds ds = ds.map fun d => .tup [d, d] := by
    have := zip_map id id ds ds
    simp only [List.map_id_fun, id_eq] at this
    rw [this]
    clear this hs q
    induction ds with
    | nil => rfl
    | cons d r ih => simp only [List.zip_cons_cons, List.map_cons, ih]
  rw [e]
  refine compD_sel (fun _ => false) id _ _ (fun x hx K L _ hL => ?_) ?_
  · obtain ⟨d, hd, rfl⟩ := List.mem_map.mp hx
    exact hs d hd K L (hL rfl)
  · rw [List.filter_eq_nil_iff.mpr (by simp)]
    exact q
theorem pure__law_is (n : Nat) : ∀ is Q E, ivsOk is → sp__law_is (n + 1) is Q E → m__law_is n { nx := fun _ => Q (.fz .non), rt := Q, ex := fun c _ => E c } (startE is 4) := by
  rintro is Q E ok ⟨d, rfl, ⟨_, hd0⟩, q0, _⟩
  have q : Q (.fz (.bl true)) := q0 _ rfl
  have hd : D.pl n d := hd0
  clear q0 hd0 ok
  cases d with
  | non => exact ⟨.inl rfl, .inl rfl, q⟩
  | int i =>
    refine ⟨.inl rfl, cT (by simp [pyEq]) ⟨.inl rfl, .inl rfl, q⟩⟩
  | bl b => cases b <;> exact ⟨.inl rfl, .inl rfl, .inl rfl, q⟩
  | str x =>
    refine ⟨.inl rfl, .inl rfl, ?_⟩
    have e : pyEq (.str x) (.str x) = true := by simp [pyEq]
    show Q (.fz (.bl (pyEq (.str x) (.str x))))
    rw [e]
    exact q
  | tup ds =>
    cases n with
    | zero => unfold D.pl at hd; exact hd.elim
    | succ n =>
      unfold D.pl at hd
      refine ⟨.inl rfl, ⟨.inl rfl, ⟨.inl rfl, cF (by simp [pyEq]) ?_⟩⟩⟩
      refine is_seq ds ⟨Nat.zero_le _, .inr ⟨(pl_lst (n := 0) (by simp)).ok (by decide), (pl_lst (n := 0) (by simp)).ok (by decide)⟩, q⟩ fun d h K L hL => ?_
      refine ⟨rfl, rfl, ⟨d, rfl, ⟨by omega, hd d h⟩, ?_, fun _ h => h.elim⟩⟩
      rintro r rfl _
      exact hL
  | lst ds =>
    cases n with
    | zero => unfold D.pl at hd; exact hd.elim
    | succ n =>
      unfold D.pl at hd
      refine ⟨.inl rfl, ⟨.inl rfl, ⟨.inl rfl, cF (by simp [pyEq]) ?_⟩⟩⟩
      refine is_seq ds ⟨Nat.zero_le _, .inr ⟨(pl_lst (n := 0) (by simp)).ok (by decide), (pl_lst (n := 0) (by simp)).ok (by decide)⟩, q⟩ fun d h K L hL => ?_
      refine ⟨rfl, rfl, ⟨d, rfl, ⟨by omega, hd d h⟩, ?_, fun _ h => h.elim⟩⟩
      rintro r rfl _
      exact hL
  | dic ks ds => unfold D.pl at hd; exact hd.elim
  | exc c => unfold D.pl at hd; exact hd.elim


theorem fo__law_is {P : Program} {w : World} {K : Frag} {mg : Str → Option Value} {base : Heap} {f : Addr} {fd : FuncData} (F : FnP K "_law_is" s__law_is f fd) (g : mg "_law_is" = some (.ref f)) (h_isinstance : mg "isinstance" = none) (h_int : mg "int" = none) (h_str : mg "str" = none) (h_dict : mg "dict" = none) (h_tuple : mg "tuple" = none) (h_list : mg "list" = none) (h_zip : mg "zip" = none) (h_len : mg "len" = none) {n : Nat} (c_self : FnD P w K mg base (n + 1) "_law_is" ["found", "due"] [] (sp__law_is n) (0)) :
    FnOk P w K mg base (L2.CX P w) (n + 1 + 1) f fd ["found", "due"] (Lf K mg (sp__law_is (n + 1)) (0)) := by
  exact fn_okD (m := (m__law_is n)) (N := ["found", "due", "one", "other"]) (k := (n + 1)) F g sc__law_is SpOf.mono (SpOf.len fun _ => rfl) (by decide) (fun cdv A outer s H E hr => (dss_cons (ds_if (dt_val (de_isi2 (S := "tuple") (S' := "list") h_isinstance h_tuple h_list (di_var 1) (by decide +kernel) (by decide +kernel) (by simp) (by simp))) (dss_cons (ds_if (DW.t (dw_or (dt_ne (DE.i (de_isi (S := "tuple") h_isinstance h_tuple (di_var 1) (by decide +kernel) (by simp))) (DE.i (de_isi (S := "tuple") h_isinstance h_tuple (di_var 0) (by decide +kernel) (by simp))) hr) (dw_or (dt_ne (DE.i (de_isi (S := "list") h_isinstance h_list (di_var 1) (by decide +kernel) (by simp))) (DE.i (de_isi (S := "list") h_isinstance h_list (di_var 0) (by decide +kernel) (by simp))) hr) (dw_or1 (dt_ne (DE.i (de_len h_len (dj_cons (di_var 0) dj_nil))) (DE.i (de_len h_len (dj_cons (di_var 1) dj_nil))) hr))))) (dss_one (ds_ret de_bl)) dss_nil)
    (dss_one (ds_ret (de_eq (DE.i (de_lc [("one", 2), ("other", 3)] rfl sc__law_is.nd (dk_zip h_zip (dj_cons (di_var 0) (dj_cons (di_var 1) dj_nil))) (fun _ _ _ _ _ => (dg_tup rfl (dgs_cons (dg_name 2 sc__law_is.nd) (dgs_cons (dg_name 3 sc__law_is.nd) dgs_nil)))) (fun _ _ _ _ _ => (dts_one (dt_not (dt_val (de_call c_self takes0 hr (da_cons (de_var 2) (da_cons (de_var 3) da_nil)) (hj := Nat.le_refl _)))))) (fun _ _ _ _ _ => de_int) (ok := by show blkC ["found", "due", "one", "other"] (defScope s__law_is) _ _ = true; decide +kernel))) (DE.i (de_lst da_nil)) hr)))) dss_nil)
    (dss_cons (ds_if (dt_val (de_isi (S := "dict") h_isinstance h_dict (di_var 1) (by decide +kernel) (by simp))) (dss_one ds_dead) dss_nil)
    (dss_cons (ds_if (DW.t (dw_or (dt_is (di_var 1) (DE.i de_non)) (dw_or1 (dt_val (de_isi (S := "str") h_isinstance h_str (di_var 1) (by decide +kernel) (by simp)))))) (dss_one (ds_ret (de_and (de_eq (DE.i (de_isi (S := "str") h_isinstance h_str (di_var 0) (by decide +kernel) (by simp))) (DE.i (de_isi (S := "str") h_isinstance h_str (di_var 1) (by decide +kernel) (by simp))) hr) (de_one (de_eq (di_var 0) (di_var 1) hr))))) dss_nil)
    (dss_one (ds_ret (de_and (de_isi (S := "int") h_isinstance h_int (di_var 0) (by decide +kernel) (by simp)) (de_and (de_eq (di_var 0) (di_var 1) hr) (de_and (de_eq (DE.i (de_is (di_var 0) (DE.i de_bl))) (DE.i (de_is (di_var 1) (DE.i de_bl))) hr) (de_one (de_eq (DE.i (de_is (di_var 0) (DE.i de_bl))) (DE.i (de_is (di_var 1) (DE.i de_bl))) hr))))))))))) (pure__law_is n) (by first | decide +kernel | omega)
theorem fn__law_is {P : Program} {w : World} {K : Frag} {mg : Str → Option Value} {base : Heap} {f : Addr} {fd : FuncData} (F : FnP K "_law_is" s__law_is f fd) (g : mg "_law_is" = some (.ref f)) (h_isinstance : mg "isinstance" = none) (h_int : mg "int" = none) (h_str : mg "str" = none) (h_dict : mg "dict" = none) (h_tuple : mg "tuple" = none) (h_list : mg "list" = none) (h_zip : mg "zip" = none) (h_len : mg "len" = none) {n : Nat} (c_self : FnD P w K mg base (n + 1) "_law_is" ["found", "due"] [] (sp__law_is n) (0)) :
    FnD P w K mg base (n + 1 + 1) "_law_is" ["found", "due"] [] (sp__law_is (n + 1)) (0) := by
  exact ⟨SpOf.mono, f, fd, g, F.kp, fo__law_is F g h_isinstance h_int h_str h_dict h_tuple h_list h_zip h_len c_self, (F.bindsN fun _ _ _ _ _ _ us hl => match us, hl with | [_, _], _ => rfl), (fun h => absurd rfl h)⟩

theorem fnr__law_is {P : Program} {w : World} {K : Frag} {mg : Str → Option Value} {base : Heap} {f : Addr} {fd : FuncData} (F : FnP K "_law_is" s__law_is f fd) (g : mg "_law_is" = some (.ref f)) (h_isinstance : mg "isinstance" = none) (h_int : mg "int" = none) (h_str : mg "str" = none) (h_dict : mg "dict" = none) (h_tuple : mg "tuple" = none) (h_list : mg "list" = none) (h_zip : mg "zip" = none) (h_len : mg "len" = none) : ∀ n : Nat, FnD P w K mg base (n + 1) "_law_is" ["found", "due"] [] (sp__law_is n) (0)
  | 0 => fn_void (k := 0) F g sc__law_is (F.bindsN fun _ _ _ _ _ _ us hl => match us, hl with | [_, _], _ => rfl) fun is Q E ⟨_, _, ⟨h, _⟩, _⟩ => absurd h (by omega)
  | n + 1 => fn__law_is F g h_isinstance h_int h_str h_dict h_tuple h_list h_zip h_len (fnr__law_is F g h_isinstance h_int h_str h_dict h_tuple h_list h_zip h_len n)

/-! ### _law_caught -/
abbrev s__law_caught : Stmt := top 23
theorem sc__law_caught : FnScope ["action", "found", "error"] ["action"] (defScope s__law_caught) := ⟨rfl, rfl, rfl, by decide +kernel, rfl, by decide +kernel, by decide +kernel⟩
theorem caught_ok {P : Program} {w : World} {K : Frag} {mg : Str → Option Value} {f CW : Addr} {fd : FuncData} (F : FnP K "_law_caught" s__law_caught f fd) (gm : mg "_law_caught" = some (.ref f)) (gW : mg "WishError" = some (.ref CW)) : CaughtF P w K mg CW := by
  have hb : Binds K fd ["action"] [] := F.bindsN fun _ _ _ _ _ _ us hl => match us, hl with | [_], _ => rfl
  obtain ⟨oc, od, dV, kV, doc, pm, an, cdv, ct, osl, rfl, lk, hcd, _, _⟩ := F.ex
  refine ⟨f, _, _, _, dV, kV, doc, pm, cdv, ct, oc, an, od, osl, ["action", "found", "error"], gm, F.kp, lk, hcd, hb, sc__law_caught, rfl, Or.inl rfl, fun X q k e1 e2 e3 e4 hr => ?_⟩
  subst e1 e2 e3 e4
  intro fa c' s H Q tl act mo hc h
  refine ⟨_, pss_cons (ps_set (i := 1) sc__law_caught.nd rfl (Or.inl rfl) (pe_lst pa_nil))
    (pss_cons (ps_try_trk (X := (cxOf C8.CX0 X.prog X.w X.K X.mg X.base ["action", "found", "error"] "_law_caught" (defScope s__law_caught) f cdv X.A X.stack s H C8.E0).nox) (c := .ref CW) (i := 2)
      (tb := fun W D σ H => ∃ E : XK, (∀ cls d H', E cls d H' → W cls d σ H') ∧ σ[0]? = some (some (.ref fa)) ∧ H c' = some (CodeO c' q) ∧ tl E H fun _ H' => D.nx σ H')
      (ts := fun _ _ _ => tDrop (tBM X.K "list" rAppend (tVar 1) (tCons (tVar 2) tNil)))
      rfl rfl rfl sc__law_caught.nd rfl rfl ⟨rfl, rfl, .inl gW⟩ takes0
      (fun W pn xe tk _ => ?_) (fun a oe cls d pn _ _ => pss_one (ps_expr (pe_bm PySem.F.plainAttrs_list PySem.F.slot_list_append PySem.F.type_list_append mt_append (pv 1) (pa_cons (pv 2) pa_nil)))))
    (pss_one (ps_ret (pe_ifExp (pt_cmpR (op_neL ?_) (pv 1) (pe_lst pa_nil) (nomark _)) (pe_ix ix_list (pv 1) pe_int (fun _ _ => rfl)) pe_non)))), ?_⟩
  · refine ⟨fun pins s' σ H' D I ⟨E, hW, h1, h2, h3⟩ => ?_⟩
    exact (pss_one (ps_expr (act W pn xe _ _ tk))).run pins s' σ H' D I ⟨E, hW, h1, h2, h3⟩
  · have hu := (hr.deeper (envOfC "_law_caught" (defScope s__law_caught) s.heap.objs.size f cdv)).un
    show (X.A.deeper (envOfC "_law_caught" (defScope s__law_caught) s.heap.objs.size f cdv)).units < cLine
    omega
  · refine ⟨by show 0 ≤ sizeLine; exact Nat.zero_le _, fun p hp => ?_⟩
    have hcp : c' ≠ p := fun z => by rw [z, hp] at hc; cases hc
    refine ⟨_, fun cls d H' e => ?_, rfl, by rw [upd_ne hcp]; exact hc, mo _ _ _ _ (fun v H' ⟨e1, e2⟩ => ?_) (h p hp)⟩
    · obtain ⟨e1, e2, C, rfl, rfl, e3⟩ := e
      refine ⟨true, e2, fun _ => ⟨C, rfl, rfl, fun a ha => ?_⟩, fun z => nomatch z⟩
      refine ⟨_, rfl, .inl ⟨rfl, _, .of e1⟩, _, rfl, p, [], .ref a, rfl, rfl, e1, by show 0 < sizeLine; decide, fun hn => ?_⟩
      have ap : a ≠ p := fun z => by rw [z, e1] at ha; cases ha
      have eF : (upd (upd H' p (.lst [.ref a])) a (ExcO a C)) p = some (.lst [.ref a]) := by rw [upd_ne (Ne.symm ap)]; exact upd_same
      refine ⟨_, rfl, by show 0 ≤ sizeLine; exact Nat.zero_le _, fun q hq => ?_⟩
      have hq : upd (upd H' p (.lst [.ref a])) a (ExcO a C) q = none := hq
      have pq : p ≠ q := fun z => by rw [← z, eF] at hq; cases hq
      have eG : (upd (upd (upd H' p (.lst [.ref a])) a (ExcO a C)) q (.lst [])) p = some (.lst [.ref a]) := by rw [upd_ne pq]; exact eF
      refine ⟨p, q, [.ref a], rfl, rfl, .of eG, .of upd_same, true, rfl, ?_⟩
      dsimp only
      rw [if_pos rfl]
      exact ⟨_, rfl, p, [.ref a], 0, .ref a, rfl, rfl, .of eG, rfl, e3 a ha q hq⟩
    · refine ⟨_, rfl, by show 0 ≤ sizeLine; exact Nat.zero_le _, fun q hq => ?_⟩
      have pq : p ≠ q := fun z => by rw [← z, e1] at hq; cases hq
      refine ⟨p, q, [], rfl, rfl, .of (by rw [upd_ne pq]; exact e1), .of upd_same, false, rfl, ?_⟩
      dsimp only
      rw [if_neg (by simp)]
      exact e2 q hq

/-! ### _law_common -/
abbrev s__law_common : Stmt := top 24
theorem sc__law_common : FnScope ["one", "other"] ["one", "other"] (defScope s__law_common) := ⟨rfl, rfl, rfl, by decide +kernel, rfl, by decide +kernel, by decide +kernel⟩
def sp__law_common : SpD := SpOf (fun x : Int × Int => [.fz (.int x.1), .fz (.int x.2)]) (fun x => 0 ≤ x.1 ∧ 0 ≤ x.2) (val fun x => .int (Int.gcd x.1 x.2))

def m__law_common_k0 : MS := (mRet (mVar 0))
def m__law_common : MS := (mSeq (mWhile (mTest (mOp (fEq true) (mPeek 1) (mDat (mC (.int 0))))) (mPar 0 1 (mVar 1) (mOp fMod (mDat (mCB fInt (jCons (mPeek 0) jNil))) (mPeek 1))))
    m__law_common_k0)
theorem pure__law_common : ∀ is Q E, ivsOk is → sp__law_common is Q E → m__law_common { nx := fun _ => Q (.fz .non), rt := Q, ex := fun c _ => E c } (startE is 2) := by
  rintro is Q E _ ⟨⟨a, b⟩, rfl, ⟨ha, hb⟩, q, _⟩
  refine ⟨fun n ε => ∃ x y : Int, ε = [.fz (.int x), .fz (.int y)] ∧ 0 ≤ x ∧ 0 ≤ y ∧ n = y.toNat ∧ Int.gcd x y = Int.gcd a b, ⟨_, a, b, rfl, ha, hb, rfl, rfl⟩, ?_⟩
  rintro n ε ⟨x, y, rfl, hx, hy, rfl, hg⟩
  refine ⟨.inl rfl, ?_⟩
  show if (!decide (y = 0)) = true then _ else _
  by_cases h : y = 0
  · rw [if_neg (by simp [h])]
    subst h
    refine q _ ?_
    show IV.fz (.int x) = .fz (.int (Int.gcd a b))
    rw [← hg, Int.gcd_zero_right, Int.natAbs_of_nonneg hx]
  · rw [if_pos (by simp [h])]
    have h : 0 < y := by omega
    refine ⟨by omega, _, ?_, y, x.fmod y, rfl, hy, Int.fmod_nonneg_of_pos _ h, rfl, ?_⟩
    · have := Int.fmod_lt_of_pos x h
      omega
    · rw [← hg, gcd_fmod]


theorem fo__law_common {P : Program} {w : World} {K : Frag} {mg : Str → Option Value} {base : Heap} {f : Addr} {fd : FuncData} (F : FnP K "_law_common" s__law_common f fd) (g : mg "_law_common" = some (.ref f)) (h_int : mg "int" = none) :
    FnOk P w K mg base (L2.CX P w) 1 f fd ["one", "other"] (Lf K mg sp__law_common (0)) := by
  exact fn_okD (m := m__law_common) (N := ["one", "other"]) (k := 0) F g sc__law_common SpOf.mono (SpOf.len fun _ => rfl) (by decide) (fun cdv A outer s H E hr => (dss_cons (ds_while (passes_of rfl) (dt_ne (di_var 1) (DE.i de_int) hr) (dss_one (ds_par 0 1 rfl sc__law_common.nd (de_var 1) (de_mod (DE.i (de_intc h_int (dj_cons (di_var 0) dj_nil))) (di_var 1)))))
    (dss_one (ds_ret (de_var 0))))) pure__law_common
theorem fn__law_common {P : Program} {w : World} {K : Frag} {mg : Str → Option Value} {base : Heap} {f : Addr} {fd : FuncData} (F : FnP K "_law_common" s__law_common f fd) (g : mg "_law_common" = some (.ref f)) (h_int : mg "int" = none) :
    FnD P w K mg base 1 "_law_common" ["one", "other"] [] sp__law_common (0) := by
  exact ⟨SpOf.mono, f, fd, g, F.kp, fo__law_common F g h_int, (F.bindsN fun _ _ _ _ _ _ us hl => match us, hl with | [_, _], _ => rfl), (fun h => absurd rfl h)⟩

/-! ### _law_no -/
abbrev s__law_no : Stmt := top 25
theorem sc__law_no : FnScope ["over", "under", "by"] ["over", "under"] (defScope s__law_no) := ⟨rfl, rfl, rfl, by decide +kernel, rfl, by decide +kernel, by decide +kernel⟩
def sp__law_no : SpD := SpOf (fun x : Int × Int => [.fz (.int x.1), .fz (.int x.2)]) (fun x => Bd 8000 x.1 ∧ Bd 8000 x.2 ∧ x.2 ≠ 0) (val fun x => qR (Rat.divInt x.1 x.2))

def m__law_no : MS := (mSeq (mSet 2 (mOp fMul (mDat (mCall sp__law_common (mCons (mCB fAbs (jCons (mPeek 0) jNil)) (mCons (mCB fAbs (jCons (mPeek 1) jNil)) mNil)))) (mDat (mIf (mTest (mOp fGt (mPeek 1) (mDat (mC (.int 0))))) (mC (.int 1)) (mOp fSub (mDat (mC (.int 0))) (mDat (mC (.int 1))))))))
    (mRet (mTup (mCons (mOp fDiv (mPeek 0) (mPeek 2)) (mCons (mOp fDiv (mPeek 1) (mPeek 2)) mNil)))))
theorem no_tail {a b : Int} {Q : IV → Prop} (h : b ≠ 0) (q : Q (.fz (qD (red a b)))) (hb : Bd 8000 b) {y : Int} (ey : y = (Int.gcd a b : Nat) * sg b) :
    CDivD a y ∧ CDivD b y ∧ Q (.fz (.tup [.int (a.fdiv y), .int (b.fdiv y)])) := by
  have g := gcd_pos (a := a) h
  have gz : ((Int.gcd a b : Nat) : Int) ≠ 0 := by omega
  have hs : sg b = 1 ∨ sg b = -1 := by unfold sg; split <;> simp
  have yz : y ≠ 0 := by rcases hs with e | e <;> rw [ey, e] <;> omega
  have by' : Bd 8000 y := hb.le (by
    have := Int.gcd_le_natAbs_right a h
    rcases hs with e | e <;> rw [ey, e] <;> omega)
  have ss : sg b * sg b = 1 := by rcases hs with e | e <;> rw [e] <;> rfl
  obtain ⟨u, hu⟩ := dvd_ex (a := a) (b := b)
  obtain ⟨v, hv⟩ := dvd_ex2 (a := a) (b := b)
  have key : ∀ w z : Int, w = (Int.gcd a b : Nat) * z → w.fdiv y = sg b * (w / (Int.gcd a b : Nat)) := fun w z e => by
    rw [Int.ediv_eq_of_eq_mul_right gz e]
    have e2 : w = y * (sg b * z) := by
      rw [ey, Int.mul_assoc, ← Int.mul_assoc (sg b), ss, Int.one_mul]; exact e
    conv => lhs; rw [e2]
    exact Int.mul_fdiv_cancel_left _ yz
  refine ⟨by'.cdiv yz, by'.cdiv yz, ?_⟩
  rw [key a u hu, key b v hv]
  exact q
theorem pure__law_no : ∀ is Q E, ivsOk is → sp__law_no is Q E → m__law_no { nx := fun _ => Q (.fz .non), rt := Q, ex := fun c _ => E c } (startE is 3) := by
  rintro is Q E _ ⟨⟨a, b⟩, rfl, ⟨ha, hb, h⟩, q, _⟩
  have q : Q (.fz (qR (Rat.divInt a b))) := q _ rfl
  rw [← qD_red h] at q
  refine ⟨(if a < 0 then -a else a, if b < 0 then -b else b), rfl, ⟨by simp only; split <;> omega, by simp only; split <;> omega⟩, ?_, fun _ h => h.elim⟩
  rintro r rfl _
  have e : Int.gcd (if a < 0 then -a else a) (if b < 0 then -b else b) = Int.gcd a b := by
    split <;> split <;> simp only [Int.neg_gcd, Int.gcd_neg]
  show if decide (0 < b) = true then _ else _
  by_cases hp : 0 < b
  · rw [if_pos (decide_eq_true hp)]
    have es : sg b = 1 := if_neg (by omega)
    obtain ⟨k1, k2, k3⟩ := no_tail h q hb rfl
    rw [es] at k1 k2 k3
    show CMulD _ _ ∧ _
    simp only [e]
    exact ⟨.inl (cmul_r (by decide) (by decide)), k1, k2, by show 2 ≤ sizeLine; decide, k3⟩
  · rw [if_neg (by simpa using hp)]
    have es : sg b = -1 := if_pos (by omega)
    obtain ⟨k1, k2, k3⟩ := no_tail h q hb rfl
    rw [es] at k1 k2 k3
    show CMulD _ _ ∧ _
    simp only [e]
    exact ⟨.inl (cmul_r (by decide) (by decide)), k1, k2, by show 2 ≤ sizeLine; decide, k3⟩


theorem fo__law_no {P : Program} {w : World} {K : Frag} {mg : Str → Option Value} {base : Heap} {f : Addr} {fd : FuncData} (F : FnP K "_law_no" s__law_no f fd) (g : mg "_law_no" = some (.ref f)) (h_abs : mg "abs" = none) (c__law_common : FnD P w K mg base 1 "_law_common" ["one", "other"] [] sp__law_common 0) :
    FnOk P w K mg base (L2.CX P w) 2 f fd ["over", "under"] (Lf K mg sp__law_no (0)) := by
  exact fn_okD (m := m__law_no) (N := ["over", "under", "by"]) (k := 1) F g sc__law_no SpOf.mono (SpOf.len fun _ => rfl) (by decide) (fun cdv A outer s H E hr => (dss_cons (ds_set 2 sc__law_no.nd (de_mul (DE.i (de_call c__law_common takesE hr (da_cons (de_abs h_abs (dj_cons (di_var 0) dj_nil)) (da_cons (de_abs h_abs (dj_cons (di_var 1) dj_nil)) da_nil)))) (DE.i (de_if (dt_gt (di_var 1) (DE.i de_int)) de_int (de_sub (DE.i de_int) (DE.i de_int))))))
    (dss_one (ds_ret (de_tup (da_cons (de_div (di_var 0) (di_var 2)) (da_cons (de_div (di_var 1) (di_var 2)) da_nil))))))) pure__law_no
theorem fn__law_no {P : Program} {w : World} {K : Frag} {mg : Str → Option Value} {base : Heap} {f : Addr} {fd : FuncData} (F : FnP K "_law_no" s__law_no f fd) (g : mg "_law_no" = some (.ref f)) (h_abs : mg "abs" = none) (c__law_common : FnD P w K mg base 1 "_law_common" ["one", "other"] [] sp__law_common 0) :
    FnD P w K mg base 2 "_law_no" ["over", "under"] [] sp__law_no (0) := by
  exact ⟨SpOf.mono, f, fd, g, F.kp, fo__law_no F g h_abs c__law_common, (F.bindsN fun _ _ _ _ _ _ us hl => match us, hl with | [_, _], _ => rfl), (fun h => absurd rfl h)⟩

/-! ### _law_plus -/
abbrev s__law_plus : Stmt := top 26
theorem sc__law_plus : FnScope ["one", "other"] ["one", "other"] (defScope s__law_plus) := ⟨rfl, rfl, rfl, by decide +kernel, rfl, by decide +kernel, by decide +kernel⟩
def sp__law_plus : SpD := SpOf (fun x : Rat × Rat => [.fz (qR x.1), .fz (qR x.2)]) (fun x => BR 3000 x.1 ∧ BR 3000 x.2) (val fun x => qR (x.1 + x.2))

def m__law_plus : MS := (mRet (mCall sp__law_no (mCons (mOp fAdd (mDat (mOp fMul (mDat (mOp fIx (mPeek 0) (mDat (mC (.int 0))))) (mDat (mOp fIx (mPeek 1) (mDat (mC (.int 1))))))) (mDat (mOp fMul (mDat (mOp fIx (mPeek 1) (mDat (mC (.int 0))))) (mDat (mOp fIx (mPeek 0) (mDat (mC (.int 1)))))))) (mCons (mOp fMul (mDat (mOp fIx (mPeek 0) (mDat (mC (.int 1))))) (mDat (mOp fIx (mPeek 1) (mDat (mC (.int 1)))))) mNil))))
theorem pure__law_plus : ∀ is Q E, ivsOk is → sp__law_plus is Q E → m__law_plus { nx := fun _ => Q (.fz .non), rt := Q, ex := fun c _ => E c } (startE is 2) := by
  rintro is Q E _ ⟨⟨p, q⟩, rfl, ⟨hp, hq⟩, k, _⟩
  have k : Q (.fz (qR (Rat.divInt (p.num * q.den + q.num * p.den) (p.den * q.den)))) := by rw [add_di]; exact k _ rfl
  refine ⟨_, rfl, _, rfl, hp.1.cmul hq.2, _, rfl, _, rfl, hq.1.cmul hp.2, _, rfl, _, rfl, hp.2.cmul hq.2, ⟨(_, _), rfl, ⟨((hp.1.mul hq.2).add (hq.1.mul hp.2)).mono (by decide), (hp.2.mul hq.2).mono (by decide), dens_ne p q⟩, ?_, ?_⟩⟩
  · rintro r rfl _
    exact k
  · intro c h
    exact h.elim


theorem fo__law_plus {P : Program} {w : World} {K : Frag} {mg : Str → Option Value} {base : Heap} {f : Addr} {fd : FuncData} (F : FnP K "_law_plus" s__law_plus f fd) (g : mg "_law_plus" = some (.ref f)) (c__law_no : FnD P w K mg base 2 "_law_no" ["over", "under"] [] sp__law_no 0) :
    FnOk P w K mg base (L2.CX P w) 3 f fd ["one", "other"] (Lf K mg sp__law_plus (0)) := by
  exact fn_okD (m := m__law_plus) (N := ["one", "other"]) (k := 2) F g sc__law_plus SpOf.mono (SpOf.len fun _ => rfl) (by decide) (fun cdv A outer s H E hr => (dss_one (ds_ret (de_call c__law_no takesE hr (da_cons (de_add (DE.i (de_mul (DE.i (de_ix (di_var 0) (DE.i de_int) hr)) (DE.i (de_ix (di_var 1) (DE.i de_int) hr)))) (DE.i (de_mul (DE.i (de_ix (di_var 1) (DE.i de_int) hr)) (DE.i (de_ix (di_var 0) (DE.i de_int) hr))))) (da_cons (de_mul (DE.i (de_ix (di_var 0) (DE.i de_int) hr)) (DE.i (de_ix (di_var 1) (DE.i de_int) hr))) da_nil)))))) pure__law_plus
theorem fn__law_plus {P : Program} {w : World} {K : Frag} {mg : Str → Option Value} {base : Heap} {f : Addr} {fd : FuncData} (F : FnP K "_law_plus" s__law_plus f fd) (g : mg "_law_plus" = some (.ref f)) (c__law_no : FnD P w K mg base 2 "_law_no" ["over", "under"] [] sp__law_no 0) :
    FnD P w K mg base 3 "_law_plus" ["one", "other"] [] sp__law_plus (0) := by
  exact ⟨SpOf.mono, f, fd, g, F.kp, fo__law_plus F g c__law_no, (F.bindsN fun _ _ _ _ _ _ us hl => match us, hl with | [_, _], _ => rfl), (fun h => absurd rfl h)⟩

/-! ### _law_times -/
abbrev s__law_times : Stmt := top 27
theorem sc__law_times : FnScope ["one", "other"] ["one", "other"] (defScope s__law_times) := ⟨rfl, rfl, rfl, by decide +kernel, rfl, by decide +kernel, by decide +kernel⟩
def sp__law_times : SpD := SpOf (fun x : Rat × Rat => [.fz (qR x.1), .fz (qR x.2)]) (fun x => BR 3000 x.1 ∧ BR 3000 x.2) (val fun x => qR (x.1 * x.2))

def m__law_times : MS := (mRet (mCall sp__law_no (mCons (mOp fMul (mDat (mOp fIx (mPeek 0) (mDat (mC (.int 0))))) (mDat (mOp fIx (mPeek 1) (mDat (mC (.int 0)))))) (mCons (mOp fMul (mDat (mOp fIx (mPeek 0) (mDat (mC (.int 1))))) (mDat (mOp fIx (mPeek 1) (mDat (mC (.int 1)))))) mNil))))
theorem pure__law_times : ∀ is Q E, ivsOk is → sp__law_times is Q E → m__law_times { nx := fun _ => Q (.fz .non), rt := Q, ex := fun c _ => E c } (startE is 2) := by
  rintro is Q E _ ⟨⟨p, q⟩, rfl, ⟨hp, hq⟩, k, _⟩
  have k : Q (.fz (qR (Rat.divInt (p.num * q.num) (p.den * q.den)))) := by rw [mul_di]; exact k _ rfl
  refine ⟨_, rfl, _, rfl, hp.1.cmul hq.1, _, rfl, _, rfl, hp.2.cmul hq.2, ⟨(_, _), rfl, ⟨(hp.1.mul hq.1).mono (by decide), (hp.2.mul hq.2).mono (by decide), dens_ne p q⟩, ?_, ?_⟩⟩
  · rintro r rfl _
    exact k
  · intro c h
    exact h.elim


theorem fo__law_times {P : Program} {w : World} {K : Frag} {mg : Str → Option Value} {base : Heap} {f : Addr} {fd : FuncData} (F : FnP K "_law_times" s__law_times f fd) (g : mg "_law_times" = some (.ref f)) (c__law_no : FnD P w K mg base 2 "_law_no" ["over", "under"] [] sp__law_no 0) :
    FnOk P w K mg base (L2.CX P w) 3 f fd ["one", "other"] (Lf K mg sp__law_times (0)) := by
  exact fn_okD (m := m__law_times) (N := ["one", "other"]) (k := 2) F g sc__law_times SpOf.mono (SpOf.len fun _ => rfl) (by decide) (fun cdv A outer s H E hr => (dss_one (ds_ret (de_call c__law_no takesE hr (da_cons (de_mul (DE.i (de_ix (di_var 0) (DE.i de_int) hr)) (DE.i (de_ix (di_var 1) (DE.i de_int) hr))) (da_cons (de_mul (DE.i (de_ix (di_var 0) (DE.i de_int) hr)) (DE.i (de_ix (di_var 1) (DE.i de_int) hr))) da_nil)))))) pure__law_times
theorem fn__law_times {P : Program} {w : World} {K : Frag} {mg : Str → Option Value} {base : Heap} {f : Addr} {fd : FuncData} (F : FnP K "_law_times" s__law_times f fd) (g : mg "_law_times" = some (.ref f)) (c__law_no : FnD P w K mg base 2 "_law_no" ["over", "under"] [] sp__law_no 0) :
    FnD P w K mg base 3 "_law_times" ["one", "other"] [] sp__law_times (0) := by
  exact ⟨SpOf.mono, f, fd, g, F.kp, fo__law_times F g c__law_no, (F.bindsN fun _ _ _ _ _ _ us hl => match us, hl with | [_, _], _ => rfl), (fun h => absurd rfl h)⟩

/-! ### _law_side -/
abbrev s__law_side : Stmt := top 28
theorem sc__law_side : FnScope ["one", "other", "gap"] ["one", "other"] (defScope s__law_side) := ⟨rfl, rfl, rfl, by decide +kernel, rfl, by decide +kernel, by decide +kernel⟩
def sp__law_side : SpD := SpOf (fun x : Rat × Rat => [.fz (qR x.1), .fz (qR x.2)]) (fun x => BR 3000 x.1 ∧ BR 3000 x.2) (val fun x => .int (cmpR x.1 x.2))

def m__law_side : MS := (mSeq (mSet 2 (mOp fSub (mDat (mOp fMul (mDat (mOp fIx (mPeek 0) (mDat (mC (.int 0))))) (mDat (mOp fIx (mPeek 1) (mDat (mC (.int 1))))))) (mDat (mOp fMul (mDat (mOp fIx (mPeek 1) (mDat (mC (.int 0))))) (mDat (mOp fIx (mPeek 0) (mDat (mC (.int 1)))))))))
    (mRet (mIf (mTest (mOp fGt (mPeek 2) (mDat (mC (.int 0))))) (mC (.int 1)) (mIf (mTest (mOp fLt (mPeek 2) (mDat (mC (.int 0))))) (mOp fSub (mDat (mC (.int 0))) (mDat (mC (.int 1)))) (mC (.int 0))))))
theorem pure__law_side : ∀ is Q E, ivsOk is → sp__law_side is Q E → m__law_side { nx := fun _ => Q (.fz .non), rt := Q, ex := fun c _ => E c } (startE is 3) := by
  rintro is Q E _ ⟨⟨p, q⟩, rfl, ⟨hp, hq⟩, k, _⟩
  have k : Q (.fz (.int (cmpR p q))) := k _ rfl
  refine ⟨_, rfl, _, rfl, hp.1.cmul hq.2, _, rfl, _, rfl, hq.1.cmul hp.2, ?_⟩
  rw [← gapR] at k
  unfold sgnI at k
  show if decide (0 < p.num * q.den - q.num * p.den) = true then _ else if decide (p.num * q.den - q.num * p.den < 0) = true then _ else _
  generalize p.num * q.den - q.num * p.den = g at k ⊢
  simp only [decide_eq_true_eq]
  by_cases h1 : 0 < g
  · rw [if_pos h1] at k ⊢
    exact k
  · rw [if_neg h1] at k ⊢
    by_cases h2 : g < 0
    · rw [if_pos h2] at k ⊢
      exact k
    · rw [if_neg h2] at k ⊢
      exact k


theorem fo__law_side {P : Program} {w : World} {K : Frag} {mg : Str → Option Value} {base : Heap} {f : Addr} {fd : FuncData} (F : FnP K "_law_side" s__law_side f fd) (g : mg "_law_side" = some (.ref f))  :
    FnOk P w K mg base (L2.CX P w) 1 f fd ["one", "other"] (Lf K mg sp__law_side (0)) := by
  exact fn_okD (m := m__law_side) (N := ["one", "other", "gap"]) (k := 0) F g sc__law_side SpOf.mono (SpOf.len fun _ => rfl) (by decide) (fun cdv A outer s H E hr => (dss_cons (ds_set 2 sc__law_side.nd (de_sub (DE.i (de_mul (DE.i (de_ix (di_var 0) (DE.i de_int) hr)) (DE.i (de_ix (di_var 1) (DE.i de_int) hr)))) (DE.i (de_mul (DE.i (de_ix (di_var 1) (DE.i de_int) hr)) (DE.i (de_ix (di_var 0) (DE.i de_int) hr))))))
    (dss_one (ds_ret (de_if (dt_gt (di_var 2) (DE.i de_int)) de_int (de_if (dt_lt (di_var 2) (DE.i de_int)) (de_sub (DE.i de_int) (DE.i de_int)) de_int)))))) pure__law_side
theorem fn__law_side {P : Program} {w : World} {K : Frag} {mg : Str → Option Value} {base : Heap} {f : Addr} {fd : FuncData} (F : FnP K "_law_side" s__law_side f fd) (g : mg "_law_side" = some (.ref f))  :
    FnD P w K mg base 1 "_law_side" ["one", "other"] [] sp__law_side (0) := by
  exact ⟨SpOf.mono, f, fd, g, F.kp, fo__law_side F g , (F.bindsN fun _ _ _ _ _ _ us hl => match us, hl with | [_, _], _ => rfl), (fun h => absurd rfl h)⟩

/-! ### _law_some_number -/
abbrev s__law_some_number : Stmt := top 29
theorem sc__law_some_number : FnScope ["state", "most"] ["state", "most"] (defScope s__law_some_number) := ⟨rfl, rfl, rfl, by decide +kernel, rfl, by decide +kernel, by decide +kernel⟩
def sp__law_some_number : SpD := SpOf (fun x : Int => [.st, .fz (.int x)]) (fun x => 0 ≤ x ∧ x ≤ 1000000) (fun _ r => ∃ p, BR 120 p ∧ r = .fz (qR p))

def m__law_some_number_k0 : MS := (mRet (mCall sp__law_no (mCons (mOp fSub (mDat (mCall spDraw (mCons (mVar 0) (mCons (mOp fAdd (mDat (mOp fMul (mDat (mC (.int 2))) (mPeek 1))) (mDat (mC (.int 1)))) mNil)))) (mPeek 1)) (mCons (mCall sp__law_pick (mCons (mVar 0) (mCons (mLst (mCons (mC (.int 1)) (mCons (mC (.int 1)) (mCons (mC (.int 1)) (mCons (mC (.int 2)) (mCons (mC (.int 3)) (mCons (mOp fAdd (mDat (mC (.int 1))) (mDat (mCall spDraw (mCons (mVar 0) (mCons (mC (.int 9)) mNil))))) mNil))))))) mNil))) mNil))))
def m__law_some_number : MS := (mSeq (mIfS (mTest (mOp (fEq false) (mDat (mCall spDraw (mCons (mVar 0) (mCons (mC (.int 12)) mNil)))) (mDat (mC (.int 0))))) (mRet (mCall sp__law_no (mCons (mOp fSub (mDat (mCall spDraw (mCons (mVar 0) (mCons (mOp fPow (mDat (mC (.int 10))) (mDat (mC (.int 30)))) mNil)))) (mDat (mOp fPow (mDat (mC (.int 10))) (mDat (mC (.int 29)))))) (mCons (mOp fAdd (mDat (mC (.int 1))) (mDat (mCall spDraw (mCons (mVar 0) (mCons (mOp fPow (mDat (mC (.int 10))) (mDat (mC (.int 20)))) mNil))))) mNil)))) mNext)
    m__law_some_number_k0)
theorem bd_of {n : Nat} {i : Int} {k : Nat} (h : i.natAbs ≤ k) (hk : k < 2 ^ n) : Bd n i := Nat.lt_of_le_of_lt h hk
theorem some_tail {R : IV → Prop} {E : XC → Prop} {a b : Int} (k : ∀ p, BR 120 p → R (.fz (qR p))) (ha : Bd 120 a) (hb : Bd 120 b) (h0 : b ≠ 0) : sp__law_no [.fz (.int a), .fz (.int b)] (fun r => r.ok → R r) E :=
  ⟨(a, b), rfl, ⟨ha.mono (by decide), hb.mono (by decide), h0⟩, fun r hr _ => by rw [hr]; exact k _ (BR.red h0 ha hb), fun _ h => h.elim⟩
theorem pure__law_some_number : ∀ is Q E, ivsOk is → sp__law_some_number is Q E → m__law_some_number { nx := fun _ => Q (.fz .non), rt := Q, ex := fun c _ => E c } (startE is 2) := by
  rintro is Q E _ ⟨most, rfl, ⟨h0, h1⟩, k, _⟩
  refine ⟨12, rfl, ⟨by decide, by decide +kernel⟩, fun n _ _ _ => ?_⟩
  refine ⟨.inl rfl, ?_⟩
  by_cases hn : n = 0
  · refine cT (by simp [pyEq, hn]) ?_
    refine ⟨⟨by decide, by decide, by decide +kernel⟩, (10 : Int) ^ 30, rfl, ⟨by decide +kernel, by decide +kernel⟩, fun a a0 a1 _ => ?_⟩
    refine ⟨⟨by decide, by decide, by decide +kernel⟩, ⟨⟨by decide, by decide, by decide +kernel⟩, (10 : Int) ^ 20, rfl, ⟨by decide +kernel, by decide +kernel⟩, fun b b0 b1 _ => ?_⟩⟩
    exact some_tail (a := a - 10 ^ 29) (b := 1 + b) (fun p hp => k _ ⟨p, hp, rfl⟩) (bd_of (k := 10 ^ 30) (by omega) (by decide +kernel)) (bd_of (k := 10 ^ 20) (by omega) (by decide +kernel)) (by omega)
  · refine cF (by simp [pyEq, hn]) ?_
    refine ⟨.inl (cmul_l (by decide) (by decide)), 2 * most + 1, rfl, ⟨by omega, ?_⟩, fun a a0 a1 _ => ?_⟩
    · have : Bd 30 (2 * most + 1) := bd_of (k := 2000001) (by omega) (by decide)
      exact Nat.lt_of_le_of_lt this.log (by decide)
    refine ⟨9, rfl, ⟨by decide, by decide +kernel⟩, fun c c0 c1 _ => ⟨by show 6 ≤ sizeLine; decide, ⟨(some false, [.int 1, .int 1, .int 1, .int 2, .int 3, .int (1 + c)]), rfl, by simp, ?_, fun _ h => h.elim⟩⟩⟩
    rintro r ⟨d, hd, rfl⟩ _
    have : ∃ b : Int, d = .int b ∧ 1 ≤ b ∧ b ≤ 10 := by
      simp only [List.mem_cons, List.not_mem_nil, or_false] at hd
      rcases hd with rfl | rfl | rfl | rfl | rfl | rfl
      · exact ⟨1, rfl, by decide, by decide⟩
      · exact ⟨1, rfl, by decide, by decide⟩
      · exact ⟨1, rfl, by decide, by decide⟩
      · exact ⟨2, rfl, by decide, by decide⟩
      · exact ⟨3, rfl, by decide, by decide⟩
      · exact ⟨1 + c, rfl, by omega, by omega⟩
    obtain ⟨b, rfl, b1, b2⟩ := this
    exact some_tail (a := a - most) (b := b) (fun p hp => k _ ⟨p, hp, rfl⟩) (bd_of (k := 3000000) (by omega) (by decide)) (bd_of (k := 10) (by omega) (by decide)) (by omega)

theorem fo__law_some_number {P : Program} {w : World} {K : Frag} {mg : Str → Option Value} {base : Heap} {f : Addr} {fd : FuncData} (F : FnP K "_law_some_number" s__law_some_number f fd) (g : mg "_law_some_number" = some (.ref f)) (c__law_no : FnD P w K mg base 2 "_law_no" ["over", "under"] [] sp__law_no 0) (c__law_pick : FnD P w K mg base 3 "_law_pick" ["state", "some"] [] sp__law_pick 1) (c__law_draw : FnD P w K mg base 2 "_law_draw" ["state", "room"] [] spDraw 1) :
    FnOk P w K mg base (L2.CX P w) 4 f fd ["state", "most"] (Lf K mg sp__law_some_number (8)) := by
  exact fn_okD (m := m__law_some_number) (N := ["state", "most"]) (k := 3) F g sc__law_some_number SpOf.mono (SpOf.len fun _ => rfl) (by decide) (fun cdv A outer s H E hr => (dss_cons (ds_if (dt_eq (DE.i (de_call c__law_draw takesE hr (da_cons (de_var 0) (da_cons de_int da_nil)))) (DE.i de_int) hr) (dss_one (ds_ret (de_call c__law_no takesE hr (da_cons (de_sub (DE.i (de_call c__law_draw takesE hr (da_cons (de_var 0) (da_cons (de_pow (DE.i de_int) (DE.i de_int)) da_nil)))) (DE.i (de_pow (DE.i de_int) (DE.i de_int)))) (da_cons (de_add (DE.i de_int) (DE.i (de_call c__law_draw takesE hr (da_cons (de_var 0) (da_cons (de_pow (DE.i de_int) (DE.i de_int)) da_nil))))) da_nil))))) dss_nil)
    (dss_one (ds_ret (de_call c__law_no takesE hr (da_cons (de_sub (DE.i (de_call c__law_draw takesE hr (da_cons (de_var 0) (da_cons (de_add (DE.i (de_mul (DE.i de_int) (di_var 1))) (DE.i de_int)) da_nil)))) (di_var 1)) (da_cons (de_call c__law_pick takesE hr (da_cons (de_var 0) (da_cons (de_lst (da_cons de_int (da_cons de_int (da_cons de_int (da_cons de_int (da_cons de_int (da_cons (de_add (DE.i de_int) (DE.i (de_call c__law_draw takesE hr (da_cons (de_var 0) (da_cons de_int da_nil))))) da_nil))))))) da_nil))) da_nil))))))) pure__law_some_number
theorem fn__law_some_number {P : Program} {w : World} {K : Frag} {mg : Str → Option Value} {base : Heap} {f : Addr} {fd : FuncData} (F : FnP K "_law_some_number" s__law_some_number f fd) (g : mg "_law_some_number" = some (.ref f)) (c__law_no : FnD P w K mg base 2 "_law_no" ["over", "under"] [] sp__law_no 0) (c__law_pick : FnD P w K mg base 3 "_law_pick" ["state", "some"] [] sp__law_pick 1) (c__law_draw : FnD P w K mg base 2 "_law_draw" ["state", "room"] [] spDraw 1) :
    FnD P w K mg base 4 "_law_some_number" ["state", "most"] [] sp__law_some_number (8) := by
  exact ⟨SpOf.mono, f, fd, g, F.kp, fo__law_some_number F g c__law_no c__law_pick c__law_draw, (F.bindsN fun _ _ _ _ _ _ us hl => match us, hl with | [_, _], _ => rfl), (fun h => absurd rfl h)⟩

/-! ### _law_small -/
abbrev s__law_small : Stmt := top 30
theorem sc__law_small : FnScope ["state", "most"] ["state", "most"] (defScope s__law_small) := ⟨rfl, rfl, rfl, by decide +kernel, rfl, by decide +kernel, by decide +kernel⟩
def sp__law_small : SpD := SpOf (fun x : Int => [.st, .fz (.int x)]) (fun x => 0 ≤ x ∧ x ≤ 1000) (fun _ r => ∃ p, BR 12 p ∧ r = .fz (qR p))

def m__law_small : MS := (mRet (mCall sp__law_no (mCons (mOp fSub (mDat (mCall spDraw (mCons (mVar 0) (mCons (mOp fAdd (mDat (mOp fMul (mDat (mC (.int 2))) (mPeek 1))) (mDat (mC (.int 1)))) mNil)))) (mPeek 1)) (mCons (mCall sp__law_pick (mCons (mVar 0) (mCons (mLst (mCons (mC (.int 1)) (mCons (mC (.int 1)) (mCons (mC (.int 1)) (mCons (mC (.int 2)) (mCons (mC (.int 3)) mNil)))))) mNil))) mNil))))
theorem pure__law_small : ∀ is Q E, ivsOk is → sp__law_small is Q E → m__law_small { nx := fun _ => Q (.fz .non), rt := Q, ex := fun c _ => E c } (startE is 2) := by
  rintro is Q E _ ⟨most, rfl, ⟨h0, h1⟩, k, _⟩
  refine ⟨.inl (cmul_l (by decide) (by decide)), 2 * most + 1, rfl, ⟨by omega, log_lt (by omega)⟩, fun a a0 a1 _ => ?_⟩
  refine ⟨sz 5, (some false, [.int 1, .int 1, .int 1, .int 2, .int 3]), rfl, by simp, ?_, fun _ h => h.elim⟩
  rintro r ⟨d, hd, rfl⟩ _
  have : ∃ b : Int, d = .int b ∧ 1 ≤ b ∧ b ≤ 3 := by
    simp only [List.mem_cons, List.not_mem_nil, or_false] at hd
    rcases hd with rfl | rfl | rfl | rfl | rfl
    · exact ⟨1, rfl, by decide, by decide⟩
    · exact ⟨1, rfl, by decide, by decide⟩
    · exact ⟨1, rfl, by decide, by decide⟩
    · exact ⟨2, rfl, by decide, by decide⟩
    · exact ⟨3, rfl, by decide, by decide⟩
  obtain ⟨b, rfl, b1, b2⟩ := this
  have ba : Bd 12 (a - most) := show _ < 2 ^ 12 by omega
  have bb : Bd 12 b := show _ < 2 ^ 12 by omega
  refine ⟨(a - most, b), rfl, ⟨ba.mono (by decide), bb.mono (by decide), by simp only; omega⟩, ?_, fun _ h => h.elim⟩
  rintro r rfl _
  exact k _ ⟨_, BR.red (by omega) ba bb, rfl⟩

theorem fo__law_small {P : Program} {w : World} {K : Frag} {mg : Str → Option Value} {base : Heap} {f : Addr} {fd : FuncData} (F : FnP K "_law_small" s__law_small f fd) (g : mg "_law_small" = some (.ref f)) (c__law_no : FnD P w K mg base 2 "_law_no" ["over", "under"] [] sp__law_no 0) (c__law_pick : FnD P w K mg base 3 "_law_pick" ["state", "some"] [] sp__law_pick 1) (c__law_draw : FnD P w K mg base 2 "_law_draw" ["state", "room"] [] spDraw 1) :
    FnOk P w K mg base (L2.CX P w) 4 f fd ["state", "most"] (Lf K mg sp__law_small (2)) := by
  exact fn_okD (m := m__law_small) (N := ["state", "most"]) (k := 3) F g sc__law_small SpOf.mono (SpOf.len fun _ => rfl) (by decide) (fun cdv A outer s H E hr => (dss_one (ds_ret (de_call c__law_no takesE hr (da_cons (de_sub (DE.i (de_call c__law_draw takesE hr (da_cons (de_var 0) (da_cons (de_add (DE.i (de_mul (DE.i de_int) (di_var 1))) (DE.i de_int)) da_nil)))) (di_var 1)) (da_cons (de_call c__law_pick takesE hr (da_cons (de_var 0) (da_cons (de_lst (da_cons de_int (da_cons de_int (da_cons de_int (da_cons de_int (da_cons de_int da_nil)))))) da_nil))) da_nil)))))) pure__law_small
theorem fn__law_small {P : Program} {w : World} {K : Frag} {mg : Str → Option Value} {base : Heap} {f : Addr} {fd : FuncData} (F : FnP K "_law_small" s__law_small f fd) (g : mg "_law_small" = some (.ref f)) (c__law_no : FnD P w K mg base 2 "_law_no" ["over", "under"] [] sp__law_no 0) (c__law_pick : FnD P w K mg base 3 "_law_pick" ["state", "some"] [] sp__law_pick 1) (c__law_draw : FnD P w K mg base 2 "_law_draw" ["state", "room"] [] spDraw 1) :
    FnD P w K mg base 4 "_law_small" ["state", "most"] [] sp__law_small (2) := by
  exact ⟨SpOf.mono, f, fd, g, F.kp, fo__law_small F g c__law_no c__law_pick c__law_draw, (F.bindsN fun _ _ _ _ _ _ us hl => match us, hl with | [_, _], _ => rfl), (fun h => absurd rfl h)⟩

/-! ### _law_form -/
abbrev s__law_form : Stmt := top 31
theorem sc__law_form : FnScope ["pairs", "constant", "found", "name", "some"] ["pairs", "constant"] (defScope s__law_form) := ⟨rfl, rfl, rfl, by decide +kernel, rfl, by decide +kernel, by decide +kernel⟩
def sp__law_form : SpD := SpOf (fun x : Bool × Parts × D => [.fz (seqD x.1 (partsD x.2.1)), .fz x.2.2]) (fun x => FitP x.2.1) (val fun x => .tup [.tup (partsD (formOf x.2.1)), x.2.2])

def m__law_form_k0 : MS := (mRet (mTup (mCons (mCB fTuple (jCons (mDat (mLC [3] (wPeek (mDat (mCB fSorted (jCons (mPeek 2) jNil)))) (gN 3) (mTest (mOp (fEq true) (mDat (mOp fIx (mPeek 2) (mPeek 3))) (mDat (mTup (mCons (mC (.int 0)) (mCons (mC (.int 1)) mNil)))))) (mTup (mCons (mVar 3) (mCons (mOp fIx (mPeek 2) (mPeek 3)) mNil))))) jNil)) (mCons (mVar 1) mNil))))
def m__law_form : MS := (mSeq (mSet 2 mDNew)
    (mSeq (mFor (wPeek (mDat (mVar 0))) (gT 2 (gsCons (gN 3) (gsCons (gN 4) gsNil))) (mDPut 2 (mPeek 3) (mCall sp__law_plus (mCons (mGet2 (mPeek 2) (mPeek 3) (mTup (mCons (mC (.int 0)) (mCons (mC (.int 1)) mNil)))) (mCons (mVar 4) mNil)))))
    m__law_form_k0))
theorem pure__law_form : ∀ is Q E, ivsOk is → sp__law_form is Q E → m__law_form { nx := fun _ => Q (.fz .non), rt := Q, ex := fun c _ => E c } (startE is 5) := by
  rintro is Q E ok ⟨⟨b, ps, c⟩, rfl, fit, k, _⟩
  have k : Q (.fz (.tup [.tup (partsD (formOf ps)), c])) := k _ rfl
  have fit : FitP ps := fit
  have hlen : ∀ p ∈ ps, p.1.length ≤ sizeLine := partsD_ok (b := b) ok.1
  have key : forD (gT 2 (gsCons (gN 3) (gsCons (gN 4) gsNil))) (mDPut 2 (mPeek 3) (mCall sp__law_plus (mCons (mGet2 (mPeek 2) (mPeek 3) (mTup (mCons (mC (.int 0)) (mCons (mC (.int 1)) mNil)))) (mCons (mVar 4) mNil)))) { nx := m__law_form_k0 { nx := fun _ => Q (.fz .non), rt := Q, ex := fun c _ => E c }, rt := Q, ex := fun c _ => E c } (partsD ps) [.fz (seqD b (partsD ps)), .fz c, .ow (.dic [] []), .un, .un] := by
    refine forD_on partD' (fun pre ε => ∃ ks x y, ε = [.fz (seqD b (partsD ps)), .fz c, .ow (dictN ks fun n => qR (coef pre n)), x, y] ∧ ks.Nodup ∧ (∀ n, n ∈ ks ↔ n ∈ pre.map (·.1)) ∧ ks.length ≤ pre.length) ps _ ⟨[], _, _, rfl, List.nodup_nil, by simp, Nat.le_refl _⟩ ?_ ?_
    · rintro pre p post ε F e ⟨ks, x, y, rfl, hn, hm, hl⟩ hF
      have hp : p ∈ ps := by rw [e]; simp
      have lp : pre.length < 64 := by have := fit.1; rw [e] at this; simp at this; omega
      refine ⟨rfl, rfl, sz 2, _, rfl, (coef pre p.1, p.2), ?_, ⟨fit.coef e _, fit.num hp⟩, ?_, fun _ h => h.elim⟩
      · show [IV.fz ((lookD (ks.map Sum.inr) (ks.map fun n => qR (coef pre n)) (Sum.inr p.1)).getD (.tup [.int 0, .int 1])), IV.fz (qR p.2)] = _
        rw [get_coef hm]
      · rintro r rfl _
        have e2 := sizeLine_eq
        refine ⟨_, rfl, by rw [List.length_map]; omega, hF _ ⟨addN ks p.1, .fz (.str p.1), .fz (qR p.2), ?_, addN_nodup hn, fun n => ?_, ?_⟩⟩
        · rw [← dict_step]
          rfl
        · rw [addN_mem, hm]; simp
        · have := @addN_len ks p.1
          simp only [List.length_append, List.length_cons, List.length_nil]
          omega
    · rintro ε ⟨ks, x, y, rfl, hn, hm, hl⟩
      refine .inl ⟨ks, .inr ⟨_, rfl⟩, by have := fit.1; omega, fun n hn' => ?_, fun ys hp hs => ?_⟩
      · obtain ⟨p, hp, rfl⟩ := List.mem_map.mp ((hm n).mp hn')
        exact hlen p hp
      have ey := names_of hn hm hp hs
      show compD _ _ _ _ _ (ys.map D.str) []
      refine compD_selOn D.str (fun n => decide (coef ps n ≠ 0)) (fun n => .tup [.str n, qR (coef ps n)]) ys (fun n hy K L h1 h2 => ?_) ?_
      · have hk : lookD (ks.map Sum.inr) (ks.map fun n => qR (coef ps n)) (Sum.inr n) = some (qR (coef ps n)) := by
          rw [lookD_str (f := fun n => qR (coef ps n)), if_pos ((hp.mem_iff).mp hy)]
        refine ⟨_, _, rfl, hk, sz 2, .inr ⟨qR_ok, qR_ok (r := 0)⟩, ?_⟩
        show if (!pyEq (qR (coef ps n)) (qR 0)) = true then _ else _
        rw [pyEq_qR]
        by_cases h0 : coef ps n = 0
        · exact cF (by simp [h0]) (h2 (by simp [h0]))
        · exact cT (by simp [h0]) ⟨_, _, rfl, hk, sz 2, h1 (by simp [h0])⟩
      · rw [ey, ← partsD_formOf]
        exact ⟨sz 2, k⟩
  cases b with
  | true => exact key
  | false => exact key


theorem fo__law_form {P : Program} {w : World} {K : Frag} {mg : Str → Option Value} {base : Heap} {f : Addr} {fd : FuncData} (F : FnP K "_law_form" s__law_form f fd) (g : mg "_law_form" = some (.ref f)) (h_tuple : mg "tuple" = none) (h_sorted : mg "sorted" = none) (c__law_plus : FnD P w K mg base 3 "_law_plus" ["one", "other"] [] sp__law_plus 0) :
    FnOk P w K mg base (L2.CX P w) 4 f fd ["pairs", "constant"] (Lf K mg sp__law_form (0)) := by
  exact fn_okD (m := m__law_form) (N := ["pairs", "constant", "found", "name", "some"]) (k := 3) F g sc__law_form SpOf.mono (SpOf.len fun _ => rfl) (by decide) (fun cdv A outer s H E hr => (dss_cons (ds_set 2 sc__law_form.nd de_dnew)
    (dss_cons (ds_for (passes_of rfl) rfl (dk_any (de_var 0)) (dg_tup rfl (dgs_cons (dg_name 3 sc__law_form.nd) (dgs_cons (dg_name 4 sc__law_form.nd) dgs_nil))) (dss_one (ds_dput 2 hr (de_call c__law_plus takesE hr (da_cons (de_get2 hr (di_var 2) (di_var 3) (de_tup (da_cons de_int (da_cons de_int da_nil)))) (da_cons (de_var 4) da_nil))) (di_var 3))))
    (dss_one (ds_ret (de_tup (da_cons (de_tuple h_tuple (dj_cons (DE.i (de_lc [("name", 3)] rfl sc__law_form.nd (dk_anyI (DE.i (de_sorted rfl h_sorted (dj_cons (di_var 2) dj_nil)))) (fun _ _ _ _ _ => (dg_name 3 sc__law_form.nd)) (fun _ _ _ _ _ => (dts_one (dt_ne (DE.i (de_ix (di_var 2) (di_var 3) hr)) (DE.i (de_tup (da_cons de_int (da_cons de_int da_nil)))) hr))) (fun _ _ _ _ _ => (de_tup (da_cons (de_var 3) (da_cons (de_ix (di_var 2) (di_var 3) hr) da_nil)))) (ok := by show blkC ["pairs", "constant", "found", "name", "some"] (defScope s__law_form) _ _ = true; decide +kernel))) dj_nil)) (da_cons (de_var 1) da_nil)))))))) pure__law_form
theorem fn__law_form {P : Program} {w : World} {K : Frag} {mg : Str → Option Value} {base : Heap} {f : Addr} {fd : FuncData} (F : FnP K "_law_form" s__law_form f fd) (g : mg "_law_form" = some (.ref f)) (h_tuple : mg "tuple" = none) (h_sorted : mg "sorted" = none) (c__law_plus : FnD P w K mg base 3 "_law_plus" ["one", "other"] [] sp__law_plus 0) :
    FnD P w K mg base 4 "_law_form" ["pairs", "constant"] [] sp__law_form (0) := by
  exact ⟨SpOf.mono, f, fd, g, F.kp, fo__law_form F g h_tuple h_sorted c__law_plus, (F.bindsN fun _ _ _ _ _ _ us hl => match us, hl with | [_, _], _ => rfl), (fun h => absurd rfl h)⟩

/-! ### _law_value -/
abbrev s__law_value : Stmt := top 32
theorem sc__law_value : FnScope ["form", "point", "found", "name", "some"] ["form", "point"] (defScope s__law_value) := ⟨rfl, rfl, rfl, by decide +kernel, rfl, by decide +kernel, by decide +kernel⟩
def sp__law_value : SpD := SpOf (fun x : Form × List Str × (Str → Rat) => [.fz (formD x.1), .fz (ptD x.2.1 x.2.2)]) (fun x => FitV x.2.2 x.1 ∧ ∀ p ∈ x.1.1, p.1 ∈ x.2.1) (val fun x => qR (valF x.2.2 x.1))

def m__law_value_k0 : MS := (mRet (mVar 2))
def m__law_value : MS := (mSeq (mSet 2 (mOp fIx (mPeek 0) (mDat (mC (.int 1)))))
    (mSeq (mFor (wPeek (mDat (mOp fIx (mPeek 0) (mDat (mC (.int 0)))))) (gT 2 (gsCons (gN 3) (gsCons (gN 4) gsNil))) (mSet 2 (mCall sp__law_plus (mCons (mVar 2) (mCons (mCall sp__law_times (mCons (mVar 4) (mCons (mOp fIx (mPeek 1) (mPeek 3)) mNil))) mNil)))))
    m__law_value_k0))
theorem pure__law_value : ∀ is Q E, ivsOk is → sp__law_value is Q E → m__law_value { nx := fun _ => Q (.fz .non), rt := Q, ex := fun c _ => E c } (startE is 5) := by
  rintro is Q E _ ⟨⟨f, ks, v⟩, rfl, ⟨fit, hks⟩, k, _⟩
  have fit : FitV v f := fit
  have hks : ∀ p ∈ f.1, p.1 ∈ ks := hks
  have k : Q (.fz (qR (valF v f))) := k _ rfl
  refine ⟨qR f.2, rfl, .tup (partsD f.1), rfl, ?_⟩
  refine forD_on partD' (fun pre ε => ∃ x y, ε = [.fz (formD f), .fz (ptD ks v), .fz (qR (f.2 + evalP v pre)), x, y]) f.1 _ ⟨_, _, by show _ = [_, _, SV.fz (qR (f.2 + 0)), _, _]; rw [Rat.add_zero]; rfl⟩ ?_ ?_
  · rintro pre p post ε F e ⟨x, y, rfl⟩ hF
    have hp : p ∈ f.1 := by rw [e]; simp
    obtain ⟨o1, o2, o3⟩ := fit.one p hp
    have s := fit.sum pre (p :: post) e
    refine ⟨rfl, rfl, _, _, rfl, ptD_get (hks p hp), (p.2, v p.1), rfl, ⟨o1, o2⟩, ?_, fun _ h => h.elim⟩
    rintro r rfl _
    refine ⟨(f.2 + evalP v pre, p.2 * v p.1), rfl, ⟨s, o3⟩, ?_, fun _ h => h.elim⟩
    rintro r rfl _
    exact hF _ ⟨.fz (.str p.1), .fz (qR p.2), by rw [evalP_snoc]; rfl⟩
  · rintro ε ⟨x, y, rfl⟩
    exact k


theorem fo__law_value {P : Program} {w : World} {K : Frag} {mg : Str → Option Value} {base : Heap} {f : Addr} {fd : FuncData} (F : FnP K "_law_value" s__law_value f fd) (g : mg "_law_value" = some (.ref f)) (c__law_plus : FnD P w K mg base 3 "_law_plus" ["one", "other"] [] sp__law_plus 0) (c__law_times : FnD P w K mg base 3 "_law_times" ["one", "other"] [] sp__law_times 0) :
    FnOk P w K mg base (L2.CX P w) 4 f fd ["form", "point"] (Lf K mg sp__law_value (0)) := by
  exact fn_okD (m := m__law_value) (N := ["form", "point", "found", "name", "some"]) (k := 3) F g sc__law_value SpOf.mono (SpOf.len fun _ => rfl) (by decide) (fun cdv A outer s H E hr => (dss_cons (ds_set 2 sc__law_value.nd (de_ix (di_var 0) (DE.i de_int) hr))
    (dss_cons (ds_for (passes_of rfl) rfl (dk_any (de_ix (di_var 0) (DE.i de_int) hr)) (dg_tup rfl (dgs_cons (dg_name 3 sc__law_value.nd) (dgs_cons (dg_name 4 sc__law_value.nd) dgs_nil))) (dss_one (ds_set 2 sc__law_value.nd (de_call c__law_plus takesE hr (da_cons (de_var 2) (da_cons (de_call c__law_times takesE hr (da_cons (de_var 4) (da_cons (de_ix (di_var 1) (di_var 3) hr) da_nil))) da_nil))))))
    (dss_one (ds_ret (de_var 2)))))) pure__law_value
theorem fn__law_value {P : Program} {w : World} {K : Frag} {mg : Str → Option Value} {base : Heap} {f : Addr} {fd : FuncData} (F : FnP K "_law_value" s__law_value f fd) (g : mg "_law_value" = some (.ref f)) (c__law_plus : FnD P w K mg base 3 "_law_plus" ["one", "other"] [] sp__law_plus 0) (c__law_times : FnD P w K mg base 3 "_law_times" ["one", "other"] [] sp__law_times 0) :
    FnD P w K mg base 4 "_law_value" ["form", "point"] [] sp__law_value (0) := by
  exact ⟨SpOf.mono, f, fd, g, F.kp, fo__law_value F g c__law_plus c__law_times, (F.bindsN fun _ _ _ _ _ _ us hl => match us, hl with | [_, _], _ => rfl), (fun h => absurd rfl h)⟩

/-! ### _law_some_form -/
abbrev s__law_some_form : Stmt := top 33
theorem sc__law_some_form : FnScope ["state", "names", "most", "at"] ["state", "names", "most"] (defScope s__law_some_form) := ⟨rfl, rfl, rfl, by decide +kernel, rfl, by decide +kernel, by decide +kernel⟩
def sp__law_some_form : SpD := SpOf (fun x : List Str × Int => [.st, .fz (.lst (x.1.map .str)), .fz (.int x.2)]) (fun x => (x.1 ≠ [] ∧ x.1.length ≤ 20) ∧ 0 ≤ x.2 ∧ x.2 ≤ 1000) (fun x r => ∃ f : Form, GF x.1 (14 * x.1.length + 15) f ∧ r = .fz (formD f))

def m__law_some_form : MS := (mRet (mCall sp__law_form (mCons (mLC [3] (wRange1 (jCons (mDat (mCall spDraw (mCons (mVar 0) (mCons (mOp fAdd (mDat (mCB fLen (jCons (mPeek 1) jNil))) (mDat (mC (.int 2)))) mNil)))) jNil)) (gN 3) mYes (mTup (mCons (mCall sp__law_pick (mCons (mVar 0) (mCons (mVar 1) mNil))) (mCons (mCall sp__law_small (mCons (mVar 0) (mCons (mVar 2) mNil))) mNil)))) (mCons (mCall sp__law_small (mCons (mVar 0) (mCons (mVar 2) mNil))) mNil))))
theorem pure__law_some_form : ∀ is Q E, ivsOk is → sp__law_some_form is Q E → m__law_some_form { nx := fun _ => Q (.fz .non), rt := Q, ex := fun c _ => E c } (startE is 4) := by
  rintro is Q E ok ⟨⟨ns, most⟩, rfl, ⟨⟨hne, hl⟩, h0, h1⟩, k0, _⟩
  have k : ∀ f, GF ns (14 * ns.length + 15) f → Q (.fz (formD f)) := fun f hf => k0 _ ⟨f, hf, rfl⟩
  clear k0
  have hl : ns.length ≤ 20 := hl
  refine ⟨((ns.map D.str).length : Int) + 2, rfl, ⟨by omega, log_lt (by rw [List.length_map]; omega)⟩, fun m m0 m1 _ => ?_⟩
  rw [List.length_map] at m1
  refine ⟨m, rfl, ⟨by omega, by rw [sizeLine_eq]; omega⟩, ?_⟩
  refine compD_made partD' (fun p : Str × Rat => p.1 ∈ ns ∧ BR 12 p.2) _ (fun d _ K hK => ?_) fun ps hps hP => ?_
  · refine ⟨(some false, ns.map D.str), rfl, by simpa using hne, ?_, fun _ h => h⟩
    rintro r ⟨d, hd, rfl⟩ _
    obtain ⟨n, hn, rfl⟩ := List.mem_map.mp hd
    refine ⟨most, rfl, ⟨h0, h1⟩, ?_, fun _ h => h⟩
    rintro r ⟨p, hp, rfl⟩ _
    exact ⟨sz 2, hK (n, p) ⟨hn, hp⟩⟩
  · have hps : ps.length ≤ ns.length + 1 := by
      rw [hps]
      unfold rangeD
      rw [List.length_map, List.length_range]
      omega
    refine ⟨most, rfl, ⟨h0, h1⟩, ?_, fun _ h => h.elim⟩
    rintro r ⟨c, hc, rfl⟩ _
    refine ⟨(false, ps, qR c), rfl, FitP.of 12 (fun p hp => (hP p hp).2) 21 (show ps.length ≤ 21 by omega), ?_, fun _ h => h.elim⟩
    rintro r rfl _
    exact k (formOf ps, c) (GF.of (fun p hp => (hP p hp).1) (fun p hp => (hP p hp).2) hps (hc.mono (by omega)) (by omega))

theorem fo__law_some_form {P : Program} {w : World} {K : Frag} {mg : Str → Option Value} {base : Heap} {f : Addr} {fd : FuncData} (F : FnP K "_law_some_form" s__law_some_form f fd) (g : mg "_law_some_form" = some (.ref f)) (h_range : mg "range" = none) (h_len : mg "len" = none) (c__law_form : FnD P w K mg base 4 "_law_form" ["pairs", "constant"] [] sp__law_form 0) (c__law_small : FnD P w K mg base 4 "_law_small" ["state", "most"] [] sp__law_small 2) (c__law_draw : FnD P w K mg base 2 "_law_draw" ["state", "room"] [] spDraw 1) (c__law_pick : FnD P w K mg base 3 "_law_pick" ["state", "some"] [] sp__law_pick 1) :
    FnOk P w K mg base (L2.CX P w) 5 f fd ["state", "names", "most"] (Lf K mg sp__law_some_form (100000000)) := by
  exact fn_okD (m := m__law_some_form) (N := ["state", "names", "most", "at"]) (k := 4) F g sc__law_some_form SpOf.mono (SpOf.len fun _ => rfl) (by decide) (fun cdv A outer s H E hr => (dss_one (ds_ret (de_call c__law_form takesE hr (da_cons (de_lc [("at", 3)] rfl sc__law_some_form.nd (dk_range1 h_range (dj_cons (DE.i (de_call c__law_draw takesE hr (da_cons (de_var 0) (da_cons (de_add (DE.i (de_len h_len (dj_cons (di_var 1) dj_nil))) (DE.i de_int)) da_nil)))) dj_nil)) (fun _ _ _ _ _ => (dg_name 3 sc__law_some_form.nd)) (fun _ _ _ _ _ => dts_nil) (fun _ _ _ _ _ => (de_tup (da_cons (de_call c__law_pick takes0 hr (da_cons (de_var 0) (da_cons (de_var 1) da_nil))) (da_cons (de_call c__law_small takes0 hr (da_cons (de_var 0) (da_cons (de_var 2) da_nil))) da_nil)))) (ok := by show blkC ["state", "names", "most", "at"] (defScope s__law_some_form) _ _ = true; decide +kernel)) (da_cons (de_call c__law_small takesE hr (da_cons (de_var 0) (da_cons (de_var 2) da_nil))) da_nil)))))) pure__law_some_form
theorem fn__law_some_form {P : Program} {w : World} {K : Frag} {mg : Str → Option Value} {base : Heap} {f : Addr} {fd : FuncData} (F : FnP K "_law_some_form" s__law_some_form f fd) (g : mg "_law_some_form" = some (.ref f)) (h_range : mg "range" = none) (h_len : mg "len" = none) (c__law_form : FnD P w K mg base 4 "_law_form" ["pairs", "constant"] [] sp__law_form 0) (c__law_small : FnD P w K mg base 4 "_law_small" ["state", "most"] [] sp__law_small 2) (c__law_draw : FnD P w K mg base 2 "_law_draw" ["state", "room"] [] spDraw 1) (c__law_pick : FnD P w K mg base 3 "_law_pick" ["state", "some"] [] sp__law_pick 1) :
    FnD P w K mg base 5 "_law_some_form" ["state", "names", "most"] [] sp__law_some_form (100000000) := by
  exact ⟨SpOf.mono, f, fd, g, F.kp, fo__law_some_form F g h_range h_len c__law_form c__law_small c__law_draw c__law_pick, (F.bindsN fun _ _ _ _ _ _ us hl => match us, hl with | [_, _, _], _ => rfl), (fun h => absurd rfl h)⟩

/-! ### _law_some_line -/
abbrev s__law_some_line : Stmt := top 34
theorem sc__law_some_line : FnScope ["state", "names", "most"] ["state", "names", "most"] (defScope s__law_some_line) := ⟨rfl, rfl, rfl, by decide +kernel, rfl, by decide +kernel, by decide +kernel⟩
def sp__law_some_line : SpD := SpOf (fun x : List Str × Int => [.st, .fz (.lst (x.1.map .str)), .fz (.int x.2)]) (fun x => (x.1 ≠ [] ∧ x.1.length ≤ 20) ∧ 0 ≤ x.2 ∧ x.2 ≤ 1000) (fun x r => ∃ l : Line, GL x.1 (14 * x.1.length + 15) l ∧ r = .fz (lineD l))

def m__law_some_line : MS := (mRet (mTup (mCons (mCall sp__law_some_form (mCons (mVar 0) (mCons (mVar 1) (mCons (mVar 2) mNil)))) (mCons (mCall sp__law_pick (mCons (mVar 0) (mCons (mLst (mCons (mC (.str "<=")) (mCons (mC (.str "<=")) (mCons (mC (.str "<=")) (mCons (mC (.str "=")) mNil))))) mNil))) mNil))))
theorem pure__law_some_line : ∀ is Q E, ivsOk is → sp__law_some_line is Q E → m__law_some_line { nx := fun _ => Q (.fz .non), rt := Q, ex := fun c _ => E c } (startE is 3) := by
  rintro is Q E ok ⟨⟨ns, most⟩, rfl, h, k0, _⟩
  have k : ∀ l, GL ns (14 * ns.length + 15) l → Q (.fz (lineD l)) := fun f hf => k0 _ ⟨f, hf, rfl⟩
  clear k0
  refine ⟨(ns, most), rfl, h, ?_, fun _ h => h.elim⟩
  rintro r ⟨f, hf, rfl⟩ _
  refine ⟨sz 4, (some false, _), rfl, by simp, ?_, fun _ h => h.elim⟩
  rintro r ⟨d, hd, rfl⟩ _
  simp only [List.mem_cons, List.not_mem_nil, or_false] at hd
  have h1 := k (f, false) hf
  have h2 := k (f, true) hf
  rcases hd with rfl | rfl | rfl | rfl
  · exact ⟨sz 2, h1⟩
  · exact ⟨sz 2, h1⟩
  · exact ⟨sz 2, h1⟩
  · exact ⟨sz 2, h2⟩

theorem fo__law_some_line {P : Program} {w : World} {K : Frag} {mg : Str → Option Value} {base : Heap} {f : Addr} {fd : FuncData} (F : FnP K "_law_some_line" s__law_some_line f fd) (g : mg "_law_some_line" = some (.ref f)) (c__law_pick : FnD P w K mg base 3 "_law_pick" ["state", "some"] [] sp__law_pick 1) (c__law_some_form : FnD P w K mg base 5 "_law_some_form" ["state", "names", "most"] [] sp__law_some_form 100000000) :
    FnOk P w K mg base (L2.CX P w) 6 f fd ["state", "names", "most"] (Lf K mg sp__law_some_line (100000010)) := by
  exact fn_okD (m := m__law_some_line) (N := ["state", "names", "most"]) (k := 5) F g sc__law_some_line SpOf.mono (SpOf.len fun _ => rfl) (by decide) (fun cdv A outer s H E hr => (dss_one (ds_ret (de_tup (da_cons (de_call c__law_some_form takesE hr (da_cons (de_var 0) (da_cons (de_var 1) (da_cons (de_var 2) da_nil)))) (da_cons (de_call c__law_pick takesE hr (da_cons (de_var 0) (da_cons (de_lst (da_cons (de_str) (da_cons (de_str) (da_cons (de_str) (da_cons (de_str) da_nil))))) da_nil))) da_nil)))))) pure__law_some_line
theorem fn__law_some_line {P : Program} {w : World} {K : Frag} {mg : Str → Option Value} {base : Heap} {f : Addr} {fd : FuncData} (F : FnP K "_law_some_line" s__law_some_line f fd) (g : mg "_law_some_line" = some (.ref f)) (c__law_pick : FnD P w K mg base 3 "_law_pick" ["state", "some"] [] sp__law_pick 1) (c__law_some_form : FnD P w K mg base 5 "_law_some_form" ["state", "names", "most"] [] sp__law_some_form 100000000) :
    FnD P w K mg base 6 "_law_some_line" ["state", "names", "most"] [] sp__law_some_line (100000010) := by
  exact ⟨SpOf.mono, f, fd, g, F.kp, fo__law_some_line F g c__law_pick c__law_some_form, (F.bindsN fun _ _ _ _ _ _ us hl => match us, hl with | [_, _, _], _ => rfl), (fun h => absurd rfl h)⟩

/-! ### _law_holds -/
abbrev s__law_holds : Stmt := top 35
theorem sc__law_holds : FnScope ["line", "point", "value"] ["line", "point"] (defScope s__law_holds) := ⟨rfl, rfl, rfl, by decide +kernel, rfl, by decide +kernel, by decide +kernel⟩
def sp__law_holds : SpD := SpOf (fun x : Line × List Str × (Str → Rat) => [.fz (lineD x.1), .fz (ptD x.2.1 x.2.2)]) (fun x => FitV x.2.2 x.1.1 ∧ ∀ p ∈ x.1.1.1, p.1 ∈ x.2.1) (val fun x => .bl (holdsL x.2.2 x.1))

def m__law_holds : MS := (mSeq (mSet 2 (mCall sp__law_value (mCons (mOp fIx (mPeek 0) (mDat (mC (.int 0)))) (mCons (mVar 1) mNil))))
    (mRet (mOrV (mOp (fEq false) (mDat (mOp fIx (mPeek 2) (mDat (mC (.int 0))))) (mDat (mC (.int 0)))) (mAndV (mOp (fEq false) (mDat (mOp fIx (mPeek 0) (mDat (mC (.int 1))))) (mDat (mC (.str "<=")))) (mOp fLt (mDat (mOp fIx (mPeek 2) (mDat (mC (.int 0))))) (mDat (mC (.int 0))))))))
theorem pure__law_holds : ∀ is Q E, ivsOk is → sp__law_holds is Q E → m__law_holds { nx := fun _ => Q (.fz .non), rt := Q, ex := fun c _ => E c } (startE is 3) := by
  rintro is Q E _ ⟨⟨l, ks, v⟩, rfl, ⟨fit, hks⟩, k, _⟩
  have k : Q (.fz (.bl (holdsL v l))) := k _ rfl
  refine ⟨formD l.1, rfl, ?_⟩
  (refine ⟨(l.1, ks, v), rfl, ⟨fit, hks⟩, ?_, fun _ h => h.elim⟩; intro r' hr' _; cases hr')
  obtain ⟨r, hr⟩ : ∃ r, r = valF v l.1 := ⟨_, rfl⟩
  refine ⟨.int (valF v l.1).num, rfl, .inl rfl, ?_⟩
  unfold holdsL at k
  by_cases h0 : valF v l.1 = 0
  · have n0 : (valF v l.1).num = 0 := by rw [h0]; rfl
    have e : metB l.2 (valF v l.1) = true := by simp [metB, h0]
    rw [e] at k
    refine cT (by simp [pyEq, n0]) ?_
    exact k
  · have n0 : (valF v l.1).num ≠ 0 := num_ne h0
    refine cF (by simp [pyEq, n0]) ?_
    refine ⟨signD l.2, rfl, ?_⟩
    cases hl : l.2 with
    | true =>
      rw [hl] at k
      have e : metB true (valF v l.1) = false := by simp [metB, h0]
      rw [e] at k
      exact ⟨.inl rfl, k⟩
    | false =>
      rw [hl] at k
      have e : metB false (valF v l.1) = decide ((valF v l.1).num < 0) := by simp [metB, h0, num_neg_iff]
      rw [e] at k
      exact ⟨.inl rfl, _, rfl, k⟩


theorem fo__law_holds {P : Program} {w : World} {K : Frag} {mg : Str → Option Value} {base : Heap} {f : Addr} {fd : FuncData} (F : FnP K "_law_holds" s__law_holds f fd) (g : mg "_law_holds" = some (.ref f)) (c__law_value : FnD P w K mg base 4 "_law_value" ["form", "point"] [] sp__law_value 0) :
    FnOk P w K mg base (L2.CX P w) 5 f fd ["line", "point"] (Lf K mg sp__law_holds (0)) := by
  exact fn_okD (m := m__law_holds) (N := ["line", "point", "value"]) (k := 4) F g sc__law_holds SpOf.mono (SpOf.len fun _ => rfl) (by decide) (fun cdv A outer s H E hr => (dss_cons (ds_set 2 sc__law_holds.nd (de_call c__law_value takesE hr (da_cons (de_ix (di_var 0) (DE.i de_int) hr) (da_cons (de_var 1) da_nil))))
    (dss_one (ds_ret (de_or (de_eq (DE.i (de_ix (di_var 2) (DE.i de_int) hr)) (DE.i de_int) hr) (de_one (de_and (de_eq (DE.i (de_ix (di_var 0) (DE.i de_int) hr)) (DE.i (de_str)) hr) (de_one (de_lt (DE.i (de_ix (di_var 2) (DE.i de_int) hr)) (DE.i de_int)))))))))) pure__law_holds
theorem fn__law_holds {P : Program} {w : World} {K : Frag} {mg : Str → Option Value} {base : Heap} {f : Addr} {fd : FuncData} (F : FnP K "_law_holds" s__law_holds f fd) (g : mg "_law_holds" = some (.ref f)) (c__law_value : FnD P w K mg base 4 "_law_value" ["form", "point"] [] sp__law_value 0) :
    FnD P w K mg base 5 "_law_holds" ["line", "point"] [] sp__law_holds (0) := by
  exact ⟨SpOf.mono, f, fd, g, F.kp, fo__law_holds F g c__law_value, (F.bindsN fun _ _ _ _ _ _ us hl => match us, hl with | [_, _], _ => rfl), (fun h => absurd rfl h)⟩

/-! ### _law_miss -/
abbrev s__law_miss : Stmt := top 36
theorem sc__law_miss : FnScope ["line", "point", "value"] ["line", "point"] (defScope s__law_miss) := ⟨rfl, rfl, rfl, by decide +kernel, rfl, by decide +kernel, by decide +kernel⟩
def sp__law_miss : SpD := SpOf (fun x : Line × List Str × (Str → Rat) => [.fz (lineD x.1), .fz (ptD x.2.1 x.2.2)]) (fun x => FitV x.2.2 x.1.1 ∧ ∀ p ∈ x.1.1.1, p.1 ∈ x.2.1) (val fun x => qR (missL x.2.2 x.1))

def m__law_miss : MS := (mSeq (mSet 2 (mCall sp__law_value (mCons (mOp fIx (mPeek 0) (mDat (mC (.int 0)))) (mCons (mVar 1) mNil))))
    (mRet (mIf (mTest (mCall sp__law_holds (mCons (mVar 0) (mCons (mVar 1) mNil)))) (mTup (mCons (mC (.int 0)) (mCons (mC (.int 1)) mNil))) (mTup (mCons (mCB fAbs (jCons (mDat (mOp fIx (mPeek 2) (mDat (mC (.int 0))))) jNil)) (mCons (mOp fIx (mPeek 2) (mDat (mC (.int 1)))) mNil))))))
theorem pure__law_miss : ∀ is Q E, ivsOk is → sp__law_miss is Q E → m__law_miss { nx := fun _ => Q (.fz .non), rt := Q, ex := fun c _ => E c } (startE is 3) := by
  rintro is Q E _ ⟨⟨l, ks, v⟩, rfl, ⟨fit, hks⟩, k, _⟩
  have k : Q (.fz (qR (missL v l))) := k _ rfl
  refine ⟨formD l.1, rfl, ?_⟩
  (refine ⟨(l.1, ks, v), rfl, ⟨fit, hks⟩, ?_, fun _ h => h.elim⟩; intro r' hr' _; cases hr')
  (refine ⟨(l, ks, v), rfl, ⟨fit, hks⟩, ?_, fun _ h => h.elim⟩; intro r' hr' _; cases hr')
  by_cases h : holdsL v l = true
  · have e : missL v l = 0 := by unfold missL; rw [if_pos h]
    rw [e] at k
    exact cT h ⟨sz 2, k⟩
  · have e : missL v l = absR (valF v l.1) := by unfold missL; rw [if_neg h]
    rw [e, qR_abs] at k
    exact cF (by simpa using h) ⟨_, rfl, _, rfl, sz 2, k⟩


theorem fo__law_miss {P : Program} {w : World} {K : Frag} {mg : Str → Option Value} {base : Heap} {f : Addr} {fd : FuncData} (F : FnP K "_law_miss" s__law_miss f fd) (g : mg "_law_miss" = some (.ref f)) (h_abs : mg "abs" = none) (c__law_holds : FnD P w K mg base 5 "_law_holds" ["line", "point"] [] sp__law_holds 0) (c__law_value : FnD P w K mg base 4 "_law_value" ["form", "point"] [] sp__law_value 0) :
    FnOk P w K mg base (L2.CX P w) 6 f fd ["line", "point"] (Lf K mg sp__law_miss (0)) := by
  exact fn_okD (m := m__law_miss) (N := ["line", "point", "value"]) (k := 5) F g sc__law_miss SpOf.mono (SpOf.len fun _ => rfl) (by decide) (fun cdv A outer s H E hr => (dss_cons (ds_set 2 sc__law_miss.nd (de_call c__law_value takesE hr (da_cons (de_ix (di_var 0) (DE.i de_int) hr) (da_cons (de_var 1) da_nil))))
    (dss_one (ds_ret (de_if (dt_val (de_call c__law_holds takesE hr (da_cons (de_var 0) (da_cons (de_var 1) da_nil)))) (de_tup (da_cons de_int (da_cons de_int da_nil))) (de_tup (da_cons (de_abs h_abs (dj_cons (DE.i (de_ix (di_var 2) (DE.i de_int) hr)) dj_nil)) (da_cons (de_ix (di_var 2) (DE.i de_int) hr) da_nil)))))))) pure__law_miss
theorem fn__law_miss {P : Program} {w : World} {K : Frag} {mg : Str → Option Value} {base : Heap} {f : Addr} {fd : FuncData} (F : FnP K "_law_miss" s__law_miss f fd) (g : mg "_law_miss" = some (.ref f)) (h_abs : mg "abs" = none) (c__law_holds : FnD P w K mg base 5 "_law_holds" ["line", "point"] [] sp__law_holds 0) (c__law_value : FnD P w K mg base 4 "_law_value" ["form", "point"] [] sp__law_value 0) :
    FnD P w K mg base 6 "_law_miss" ["line", "point"] [] sp__law_miss (0) := by
  exact ⟨SpOf.mono, f, fd, g, F.kp, fo__law_miss F g h_abs c__law_holds c__law_value, (F.bindsN fun _ _ _ _ _ _ us hl => match us, hl with | [_, _], _ => rfl), (fun h => absurd rfl h)⟩

/-! ### _law_times_line -/
abbrev s__law_times_line : Stmt := top 37
theorem sc__law_times_line : FnScope ["by", "line", "name", "some"] ["by", "line"] (defScope s__law_times_line) := ⟨rfl, rfl, rfl, by decide +kernel, rfl, by decide +kernel, by decide +kernel⟩
def timesL (r : Rat) (l : Line) : Line := ((formOf (scaleP r l.1.1), r * l.1.2), l.2)
def sp__law_times_line : SpD := SpOf (fun x : Rat × Line => [.fz (qR x.1), .fz (lineD x.2)]) (fun x => (BR 3000 x.1 ∧ BR 3000 x.2.1.2 ∧ ∀ p ∈ x.2.1.1, BR 3000 p.2) ∧ FitP (scaleP x.1 x.2.1.1)) (val fun x => lineD (timesL x.1 x.2))

def m__law_times_line : MS := (mRet (mTup (mCons (mCall sp__law_form (mCons (mLC [2, 3] (wPeek (mDat (mOp fIx (mDat (mOp fIx (mPeek 1) (mDat (mC (.int 0))))) (mDat (mC (.int 0)))))) (gT 2 (gsCons (gN 2) (gsCons (gN 3) gsNil))) mYes (mTup (mCons (mVar 2) (mCons (mCall sp__law_times (mCons (mVar 0) (mCons (mVar 3) mNil))) mNil)))) (mCons (mCall sp__law_times (mCons (mVar 0) (mCons (mOp fIx (mDat (mOp fIx (mPeek 1) (mDat (mC (.int 0))))) (mDat (mC (.int 1)))) mNil))) mNil))) (mCons (mOp fIx (mPeek 1) (mDat (mC (.int 1)))) mNil))))
theorem pure__law_times_line : ∀ is Q E, ivsOk is → sp__law_times_line is Q E → m__law_times_line { nx := fun _ => Q (.fz .non), rt := Q, ex := fun c _ => E c } (startE is 4) := by
  rintro is Q E _ ⟨⟨r, l⟩, rfl, ⟨⟨b1, b2, b3⟩, fit⟩, k, _⟩
  have k : Q (.fz (lineD (timesL r l))) := k _ rfl
  refine ⟨formD l.1, rfl, .tup (partsD l.1.1), rfl, ?_⟩
  show compD _ _ _ _ _ (l.1.1.map partD') []
  refine compD_on partD' (fun p => partD' (p.1, r * p.2)) l.1.1 (fun p hp K hK => ?_) ?_
  · refine ⟨rfl, rfl, (r, p.2), rfl, ⟨b1, b3 p hp⟩, ?_, fun _ h => h⟩
    rintro _ rfl _
    exact ⟨sz 2, hK⟩
  rw [← partsD_scale]
  refine ⟨formD l.1, rfl, qR l.1.2, rfl, ?_⟩
  (refine ⟨(r, l.1.2), rfl, ⟨b1, b2⟩, ?_, fun _ h => h.elim⟩; intro r' hr' _; cases hr')
  (refine ⟨(false, scaleP r l.1.1, qR (r * l.1.2)), rfl, fit, ?_, fun _ h => h.elim⟩; intro r' hr' _; cases hr')
  exact ⟨signD l.2, rfl, sz 2, k⟩


theorem fo__law_times_line {P : Program} {w : World} {K : Frag} {mg : Str → Option Value} {base : Heap} {f : Addr} {fd : FuncData} (F : FnP K "_law_times_line" s__law_times_line f fd) (g : mg "_law_times_line" = some (.ref f)) (c__law_form : FnD P w K mg base 4 "_law_form" ["pairs", "constant"] [] sp__law_form 0) (c__law_times : FnD P w K mg base 3 "_law_times" ["one", "other"] [] sp__law_times 0) :
    FnOk P w K mg base (L2.CX P w) 5 f fd ["by", "line"] (Lf K mg sp__law_times_line (0)) := by
  exact fn_okD (m := m__law_times_line) (N := ["by", "line", "name", "some"]) (k := 4) F g sc__law_times_line SpOf.mono (SpOf.len fun _ => rfl) (by decide) (fun cdv A outer s H E hr => (dss_one (ds_ret (de_tup (da_cons (de_call c__law_form takesE hr (da_cons (de_lc [("name", 2), ("some", 3)] rfl sc__law_times_line.nd (dk_anyI (DE.i (de_ix (DE.i (de_ix (di_var 1) (DE.i de_int) hr)) (DE.i de_int) hr))) (fun _ _ _ _ _ => (dg_tup rfl (dgs_cons (dg_name 2 sc__law_times_line.nd) (dgs_cons (dg_name 3 sc__law_times_line.nd) dgs_nil)))) (fun _ _ _ _ _ => dts_nil) (fun _ _ _ _ _ => (de_tup (da_cons (de_var 2) (da_cons (de_call c__law_times takes0 hr (da_cons (de_var 0) (da_cons (de_var 3) da_nil))) da_nil)))) (ok := by show blkC ["by", "line", "name", "some"] (defScope s__law_times_line) _ _ = true; decide +kernel)) (da_cons (de_call c__law_times takesE hr (da_cons (de_var 0) (da_cons (de_ix (DE.i (de_ix (di_var 1) (DE.i de_int) hr)) (DE.i de_int) hr) da_nil))) da_nil))) (da_cons (de_ix (di_var 1) (DE.i de_int) hr) da_nil)))))) pure__law_times_line
theorem fn__law_times_line {P : Program} {w : World} {K : Frag} {mg : Str → Option Value} {base : Heap} {f : Addr} {fd : FuncData} (F : FnP K "_law_times_line" s__law_times_line f fd) (g : mg "_law_times_line" = some (.ref f)) (c__law_form : FnD P w K mg base 4 "_law_form" ["pairs", "constant"] [] sp__law_form 0) (c__law_times : FnD P w K mg base 3 "_law_times" ["one", "other"] [] sp__law_times 0) :
    FnD P w K mg base 5 "_law_times_line" ["by", "line"] [] sp__law_times_line (0) := by
  exact ⟨SpOf.mono, f, fd, g, F.kp, fo__law_times_line F g c__law_form c__law_times, (F.bindsN fun _ _ _ _ _ _ us hl => match us, hl with | [_, _], _ => rfl), (fun h => absurd rfl h)⟩

/-! ### law -/
abbrev s_law : Stmt := top 38
theorem sc_law : FnScope ["script", "state", "names", "turn", "point", "name", "lines", "lap", "rung", "line", "due", "weight", "by", "more", "bare", "errors", "error"] ["script"] (defScope s_law) := ⟨rfl, rfl, rfl, by decide +kernel, rfl, by decide +kernel, by decide +kernel⟩
def m_law_k0 : MS := (mIfS (mTest (mOp (fEq true) (mDat (mOp fIx (mDat (mOp fIx (mPeek 9) (mDat (mC (.int 0))))) (mDat (mC (.int 0))))) (mDat (mTup mNil)))) (mSeq (mSet 14 (mCB fDictC (jCons (mPeek 4) jNil)))
    (mSeq (mDropX (mDPop 14 (mDat (mOp fIx (mDat (mCall sp__law_pick (mCons (mVar 1) (mCons (mOp fIx (mDat (mOp fIx (mPeek 9) (mDat (mC (.int 0))))) (mDat (mC (.int 0)))) mNil)))) (mDat (mC (.int 0)))))))
    (mSeq (mSet 15 (mLst (mCons (mCaught cs_exc (mCall sp_holds (mCons (mVar 9) (mCons (mArg 14) mNil)))) mNil)))
    (mSeq (mAppend 15 (mCaught cs_exc (mCall sp_miss (mCons (mVar 9) (mCons (mArg 14) mNil)))))
    (mSeq (mAppend 15 (mCaught cs_exc (mCall sp_total (mCons (mVar 8) (mCons (mArg 14) mNil)))))
    (mIfS (mTest (mOp (fEq true) (mDat (mLC [16] (wPeek (mPeek 15)) (gN 16) (mNot (mTest (mIsE "NoPoint" (mPeek 16)))) (mC (.int 1)))) (mDat (mLst mNil)))) (mRet (mC (.bl false))) mNext)))))) mNext)
def m_law_k1 : MS := (mSeq (mIfS (mAnd (mTest (mOp (fEq false) (mDat (mOp fIx (mPeek 9) (mDat (mC (.int 1))))) (mDat (mC (.str "="))))) (mAnd (mTest (mOp (fIs true) (mDat (mCall sp_holds (mCons (mVar 9) (mCons (mVar 4) mNil)))) (mDat (mC (.bl true))))) (mTest (mOp fLt (mDat (mCall sp__law_side (mCons (mCall sp_miss (mCons (mVar 9) (mCons (mVar 4) mNil))) (mCons (mTup (mCons (mC (.int 0)) (mCons (mC (.int 1)) mNil))) mNil)))) (mDat (mC (.int 1))))))) (mRet (mC (.bl false))) mNext)
    m_law_k0)
def m_law_k2 : MS := (mSeq (mIfS (mNot (mTest (mCall (sp__law_is 6) (mCons (mLst (mCons (mCall sp_holds (mCons (mVar 9) (mCons (mVar 4) mNil))) (mCons (mCall sp_miss (mCons (mVar 9) (mCons (mVar 4) mNil))) (mCons (mCall sp_holds (mCons (mVar 13) (mCons (mVar 4) mNil))) (mCons (mCall sp_miss (mCons (mVar 13) (mCons (mVar 4) mNil))) mNil))))) (mCons (mLst (mCons (mCall sp__law_holds (mCons (mVar 9) (mCons (mVar 4) mNil))) (mCons (mCall sp__law_miss (mCons (mVar 9) (mCons (mVar 4) mNil))) (mCons (mCall sp__law_holds (mCons (mVar 9) (mCons (mVar 4) mNil))) (mCons (mCall sp__law_times (mCons (mVar 12) (mCons (mCall sp__law_miss (mCons (mVar 9) (mCons (mVar 4) mNil))) mNil))) mNil))))) mNil))))) (mRet (mC (.bl false))) mNext)
    m_law_k1)
def m_law_k3 : MS := (mIfS (mNot (mTest (mCall (sp__law_is 6) (mCons (mLst (mCons (mCall sp_total (mCons (mVar 8) (mCons (mVar 4) mNil))) (mCons (mCall sp_total (mCons (mTup mNil) (mCons (mVar 4) mNil))) (mCons (mCall sp_total (mCons (mTup mNil) (mCons mDNew mNil))) mNil)))) (mCons (mLst (mCons (mVar 10) (mCons (mTup (mCons (mC (.int 0)) (mCons (mC (.int 1)) mNil))) (mCons (mTup (mCons (mC (.int 0)) (mCons (mC (.int 1)) mNil))) mNil)))) mNil))))) (mRet (mC (.bl false))) mNext)
def m_law_k4 : MS := (mSeq (mSet 10 (mTup (mCons (mC (.int 0)) (mCons (mC (.int 1)) mNil))))
    (mSeq (mFor (wPeek (mDat (mVar 8))) (gT 2 (gsCons (gN 11) (gsCons (gN 9) gsNil))) (mSeq (mSet 10 (mCall sp__law_plus (mCons (mVar 10) (mCons (mCall sp__law_times (mCons (mVar 11) (mCons (mCall sp__law_miss (mCons (mVar 9) (mCons (mVar 4) mNil))) mNil))) mNil))))
    (mSeq (mSet 12 (mCall sp__law_no (mCons (mOp fAdd (mDat (mC (.int 1))) (mDat (mCall spDraw (mCons (mVar 1) (mCons (mC (.int 7)) mNil))))) (mCons (mOp fAdd (mDat (mC (.int 1))) (mDat (mCall spDraw (mCons (mVar 1) (mCons (mC (.int 7)) mNil))))) mNil))))
    (mSeq (mSet 13 (mCall sp__law_times_line (mCons (mVar 12) (mCons (mVar 9) mNil))))
    m_law_k2))))
    m_law_k3))
def m_law_k5 : MS := (mRet (mC (.bl true)))
def m_law : MS := (mSeq (mSet 2 (mFz (mLst (mCons (mC (.str "a")) (mCons (mC (.str "b")) (mCons (mC (.str "c")) mNil))))))
    (mSeq (mFor (wRange1 (jCons (mDat (mOp fAdd (mDat (mC (.int 10))) (mDat (mCB fMin (jCons (mDat (mLenS 0)) (jCons (mDat (mC (.int 10))) jNil)))))) jNil)) (gN 3) (mSeq (mSet 4 (mFz (mCB fDictC (jCons (mDat (mLC [5] (wPeek (mDat (mOp fAdd (mPeek 2) (mDat (mLst (mCons (mC (.str "zz")) mNil)))))) (gN 5) mYes (mTup (mCons (mVar 5) (mCons (mCall sp__law_some_number (mCons (mVar 1) (mCons (mC (.int 6)) mNil))) mNil))))) jNil))))
    (mSeq (mSet 6 (mFz (mLC [7] (wRange1 (jCons (mDat (mC (.int 4))) jNil)) (gN 7) mYes (mCall sp__law_some_line (mCons (mVar 1) (mCons (mVar 2) (mCons (mC (.int 6)) mNil)))))))
    (mSeq (mSet 8 (mCB fTuple (jCons (mDat (mLC [9] (wPeek (mPeek 6)) (gN 9) mYes (mTup (mCons (mCall sp__law_no (mCons (mOp fAdd (mDat (mC (.int 1))) (mDat (mCall spDraw (mCons (mVar 1) (mCons (mC (.int 5)) mNil))))) (mCons (mOp fAdd (mDat (mC (.int 1))) (mDat (mCall spDraw (mCons (mVar 1) (mCons (mC (.int 3)) mNil))))) mNil))) (mCons (mVar 9) mNil))))) jNil)))
    m_law_k4))))
    m_law_k5))
abbrev nms : List Str := ["a", "b", "c"]
theorem nms_ok : ∀ x ∈ nms, goodT x := by
  intro x hx
  simp only [nms, List.mem_cons, List.not_mem_nil, or_false] at hx
  unfold goodT
  rcases hx with rfl | rfl | rfl <;> decide +kernel
theorem cs_no : ("NoPoint" : Str) ∈ cs_exc := by decide
theorem same6 {Q : IV → Prop} {E : XC → Prop} (d : D) (h : D.pl 5 d) (q : Q (.fz (.bl true))) : sp__law_is 6 [.fz d, .fz d] (fun r => r.ok → Q r) E :=
  ⟨d, rfl, ⟨by decide, h⟩, fun r hr _ => by cases hr; exact q, fun _ h => h.elim⟩
theorem metB_scale {b : Bool} {r x : Rat} (h : 0 < r) : metB b (r * x) = metB b x := by
  unfold metB
  have e1 : r * x = 0 ↔ x = 0 := by
    constructor
    · intro z
      rcases Rat.mul_eq_zero.mp z with z | z
      · rw [z] at h; exact absurd h (by decide)
      · exact z
    · intro z; rw [z, Rat.mul_zero]
  have e2 : r * x < 0 ↔ x < 0 := by
    constructor
    · intro z
      apply Classical.byContradiction
      intro hx
      have hx : 0 ≤ x := Rat.not_lt.mp hx
      have := Rat.mul_nonneg (Rat.le_of_lt h) hx
      exact absurd z (Rat.not_lt.mpr this)
    · intro z
      have z' : 0 < -x := by grind
      have := Rat.mul_pos h z'
      grind
  simp only [e1, e2]
theorem abs_scale {r x : Rat} (h : 0 < r) : absR (r * x) = r * absR x := by
  unfold absR
  by_cases z : x < 0
  · have z2 : r * x < 0 := by
      have z' : 0 < -x := by grind
      have := Rat.mul_pos h z'
      grind
    rw [if_pos z, if_pos z2]
    grind
  · have z2 : ¬ r * x < 0 := Rat.not_lt.mpr (Rat.mul_nonneg (Rat.le_of_lt h) (Rat.not_lt.mp z))
    rw [if_neg z, if_neg z2]
theorem val_timesL {v : Str → Rat} {r : Rat} {l : Line} : valF v (timesL r l).1 = r * valF v l.1 := by
  unfold valF timesL
  simp only [evalP_formOf, evalP_scale]
  grind
theorem holds_scale {v : Str → Rat} {r : Rat} {l : Line} (h : 0 < r) : holdsL v (timesL r l) = holdsL v l := by
  unfold holdsL
  rw [val_timesL]
  exact metB_scale h
theorem miss_scale {v : Str → Rat} {r : Rat} {l : Line} (h : 0 < r) : missL v (timesL r l) = r * missL v l := by
  unfold missL
  rw [holds_scale h, val_timesL]
  split
  · rw [Rat.mul_zero]
  · exact abs_scale h
section
variable {De : EndsD} {ns : List Int} {x2 x3 x5 x6 x7 x14 x15 x16 : SV} {xs : List Str} {v : Str → Rat} {g : Rung} {l : Line} {w r : Rat}
theorem fit_line (h : GL nms 57 l) (hv : ∀ n, BR 120 (v n)) : FitV v l.1 := fitV_gf h (k := 3) (by decide) (fun p _ => hv _) (by decide)
theorem miss_br (h : GL nms 57 l) (hv : ∀ n, BR 120 (v n)) : BR 591 (missL v l) := by
  unfold missL
  split
  · exact BR.zero
  · exact (valF_br h (k := 3) (m := 591) (by decide) (fun p _ => hv _) (by decide)).abs
theorem gl_times (h : GL nms 57 l) (hr : BR 3 r) : GL nms 60 (timesL r l) := gf_of (fun p hp => by obtain ⟨q, hq, e1, _⟩ := scaleP_mem hp; rw [e1]; exact h.nm q hq) (fun n => by rw [coef_scale]; exact (hr.mul (coef_brF h.ok h.br (by decide) n)).mono (by decide)) ((hr.mul h.bc).mono (by decide))
structure GR (g : Rung) : Prop where
  len : g.length ≤ 4
  each : ∀ p ∈ g, BR 3 p.1 ∧ GL nms 57 p.2
theorem total_br (hv : ∀ n, BR 120 (v n)) : ∀ {pre : Rung}, (∀ p ∈ pre, BR 3 p.1 ∧ GL nms 57 p.2) → BR (595 * pre.length + 1) (totalL v pre)
  | [], _ => BR.zero
  | p :: q, h => by
    obtain ⟨h1, h2⟩ := h p (List.mem_cons_self ..)
    have z := total_br hv (pre := q) fun x hx => h x (List.mem_cons_of_mem _ hx)
    refine ((h1.mul (miss_br h2 hv)).add z).mono ?_
    show 3 + 591 + (595 * q.length + 1) + 1 ≤ 595 * (q.length + 1) + 1
    rw [Nat.mul_succ]
    omega
theorem fit_rung (h : GR g) (hv : ∀ n, BR 120 (v n)) : FitT v g := by
  refine ⟨fun p hp => ?_, fun pre post e => ?_⟩
  · obtain ⟨h1, h2⟩ := h.each p hp
    exact ⟨fit_line h2 hv, h1.mono (by decide), (miss_br h2 hv).mono (by decide), (h1.mul (miss_br h2 hv)).mono (by decide)⟩
  · refine (total_br hv (pre := pre) fun p hp => h.each p (by rw [e]; exact List.mem_append_left _ hp)).mono ?_
    have := h.len
    rw [e, List.length_append] at this
    have := Nat.mul_le_mul_left 595 (show pre.length ≤ 4 by omega)
    omega
theorem rung_in (h : GR g) (hnx : ∀ n ∈ nms, n ∈ xs) : allIn xs g := fun p hp q hq => hnx _ ((h.each p hp).2.nm q hq)
theorem line_in (h : GL nms 57 l) (hnx : ∀ n ∈ nms, n ∈ xs) : ∀ p ∈ l.1.1, p.1 ∈ xs := fun p hp => hnx _ (h.nm p hp)
def inE (ns : List Int) (x2 x3 x5 x6 x7 : SV) (xs : List Str) (v : Str → Rat) (g : Rung) (l : Line) (due : Rat) (x11 x12 x13 x14 x15 x16 : SV) : G.Env :=
  [.sc ns, .st, x2, x3, .fz (ptD xs v), x5, x6, x7, .fz (rungD g), .fz (lineD l), .fz (qR due), x11, x12, x13, x14, x15, x16]
theorem k0_ok {due : Rat} {x11 x12 x13 : SV} (hg : GR g) (hl : ∃ w, (w, l) ∈ g) (hv : ∀ n, BR 120 (v n)) (hnx : ∀ n ∈ nms, n ∈ xs)
    (next : ∀ x14 x15 x16, De.nx (inE ns x2 x3 x5 x6 x7 xs v g l due x11 x12 x13 x14 x15 x16)) : m_law_k0 De (inE ns x2 x3 x5 x6 x7 xs v g l due x11 x12 x13 x14 x15 x16) := by
  obtain ⟨w, hw⟩ := hl
  have h1 : GL nms 57 l := (hg.each _ hw).2
  have fl := fit_line h1 hv
  have okp : (D.tup (partsD l.1.1)).eqOk := (pl_tup (n := 2) fun d hd => by
    obtain ⟨p, hp, rfl⟩ := List.mem_map.mp hd
    exact pl_part (nms_ok _ (h1.nm p hp))).ok (by decide)
  have ok0 : (D.tup []).eqOk := (pl_tup (n := 0) (by simp)).ok (by decide)
  refine ⟨formD l.1, rfl, .tup (partsD l.1.1), rfl, sz 0, .inr ⟨okp, ok0⟩, ?_⟩
  cases hone : l.1.1 with
  | nil => exact next _ _ _
  | cons p0 ps =>
    refine ⟨formD l.1, rfl, .tup (partsD l.1.1), rfl, ?_⟩
    refine ⟨(some true, partsD l.1.1), rfl, by rw [hone]; simp [partsD], ?_, fun _ h => h.elim⟩
    rintro r ⟨d, hd, rfl⟩ _
    obtain ⟨p, hp, rfl⟩ := List.mem_map.mp hd
    have hpx : p.1 ∈ xs := hnx _ (h1.nm p hp)
    have nin : p.1 ∉ xs.filter fun k => decide (k ≠ p.1) := fun z => by simpa using (List.mem_filter.mp z).2
    refine ⟨.str p.1, rfl, Sum.inr p.1, _, rfl, ptD_get hpx, ?_⟩
    rw [ptD_drop]
    refine ⟨(true, l, xs.filter fun k => decide (k ≠ p.1), v), rfl, fl, fun r h => absurd (h.1 p hp) nin, ?_⟩
    rintro c ⟨_, rfl⟩
    refine ⟨cs_no, ?_⟩
    repeat (refine And.intro (by first | exact sz 2 | exact sz 1 | exact sz 0 | exact sz 3 | exact sz 4 | exact sz 5 | exact sz 6 | exact sz 7 | exact sz 8 | exact sz 9 | exact sz 10 | exact sz 11 | exact sz 12 | exact sz 13 | exact sz 14 | exact sz 15 | exact sz 16 | exact sz 17 | exact sz 18 | exact sz 19 | exact sz 20) ?_)
    refine ⟨(true, l, xs.filter fun k => decide (k ≠ p.1), v), rfl, fl, fun r h => absurd (h.1 p hp) nin, ?_⟩
    rintro c ⟨_, rfl⟩
    refine ⟨cs_no, by rw [sizeLine_eq]; simp, ?_⟩
    refine ⟨(true, g, xs.filter fun k => decide (k ≠ p.1), v), rfl, fit_rung hg hv, fun r h => absurd (h.1 _ hw p hp) nin, ?_⟩
    rintro c ⟨_, rfl⟩
    refine ⟨cs_no, by rw [sizeLine_eq]; simp, ?_⟩
    refine compD_none _ (fun d hd K L hL => ?_) ?_
    · have hd : d = .exc "NoPoint" := by
        simp only [List.nil_append, List.cons_append, List.mem_cons, List.not_mem_nil, or_false] at hd
        rcases hd with rfl | rfl | rfl <;> rfl
      subst hd
      exact hL
    refine ⟨Nat.zero_le _, .inr ⟨nil_ok, nil_ok⟩, ?_⟩
    exact next _ _ _
theorem k1_ok {due : Rat} {x11 x12 x13 : SV} (hg : GR g) (hl : ∃ w, (w, l) ∈ g) (hv : ∀ n, BR 120 (v n)) (hnx : ∀ n ∈ nms, n ∈ xs)
    (next : ∀ x14 x15 x16, De.nx (inE ns x2 x3 x5 x6 x7 xs v g l due x11 x12 x13 x14 x15 x16)) : m_law_k1 De (inE ns x2 x3 x5 x6 x7 xs v g l due x11 x12 x13 x14 x15 x16) := by
  have h1 : GL nms 57 l := let ⟨w, hw⟩ := hl; (hg.each _ hw).2
  have fl := fit_line h1 hv
  have lin := line_in h1 hnx
  have k0 : ∀ De : EndsD, (∀ x14 x15 x16, De.nx (inE ns x2 x3 x5 x6 x7 xs v g l due x11 x12 x13 x14 x15 x16)) → m_law_k0 De (inE ns x2 x3 x5 x6 x7 xs v g l due x11 x12 x13 x14 x15 x16) := fun De next => k0_ok hg hl hv hnx next
  refine ⟨signD l.2, rfl, ?_⟩
  cases h2 : l.2 with
  | false => exact ⟨.inl rfl, k0 _ next⟩
  | true =>
    refine ⟨.inl rfl, ?_⟩
    refine ⟨(false, l, xs, v), rfl, fl, ?_, fun c h => absurd lin h.1⟩
    rintro r ⟨_, rfl⟩ _
    by_cases hh : holdsL v l = true
    · refine cF (by simp [hh]) ?_
      exact k0 _ next
    · have hh : holdsL v l = false := by simpa using hh
      refine cT (by simp [hh]) ?_
      refine ⟨(false, l, xs, v), rfl, fl, ?_, fun c h => absurd lin h.1⟩
      rintro r ⟨_, rfl⟩ _
      repeat (refine And.intro (by first | exact sz 2 | exact sz 1 | exact sz 0 | exact sz 3 | exact sz 4 | exact sz 5 | exact sz 6 | exact sz 7 | exact sz 8 | exact sz 9 | exact sz 10 | exact sz 11 | exact sz 12 | exact sz 13 | exact sz 14 | exact sz 15 | exact sz 16 | exact sz 17 | exact sz 18 | exact sz 19 | exact sz 20) ?_)
      refine ⟨(missL v l, 0), rfl, ⟨(miss_br h1 hv).mono (by decide), BR.zero⟩, ?_, fun _ h => h.elim⟩
      rintro r rfl _
      have nz : valF v l.1 ≠ 0 := fun z => by
        unfold holdsL metB at hh
        rw [z] at hh
        simp at hh
      have e1 : cmpR (missL v l) 0 = 1 := by
        have : missL v l = absR (valF v l.1) := by unfold missL; rw [hh]; rfl
        rw [this]
        unfold cmpR absR
        grind
      refine cF ?_ (k0 _ next)
      show decide (cmpR (missL v l) 0 < 1) = false
      rw [e1]
      rfl
theorem k2_ok {due : Rat} {x11 x14 x15 x16 : SV} (hg : GR g) (hl : ∃ w, (w, l) ∈ g) (hr : BR 3 r) (hr0 : 0 < r) (hv : ∀ n, BR 120 (v n)) (hnx : ∀ n ∈ nms, n ∈ xs)
    (next : ∀ x14 x15 x16, De.nx (inE ns x2 x3 x5 x6 x7 xs v g l due x11 (.fz (qR r)) (.fz (lineD (timesL r l))) x14 x15 x16)) : m_law_k2 De (inE ns x2 x3 x5 x6 x7 xs v g l due x11 (.fz (qR r)) (.fz (lineD (timesL r l))) x14 x15 x16) := by
  have h1 : GL nms 57 l := let ⟨w, hw⟩ := hl; (hg.each _ hw).2
  have fl := fit_line h1 hv
  have lin := line_in h1 hnx
  have ht := gl_times h1 hr
  have ft : FitV v (timesL r l).1 := fitV_gf ht (k := 3) (by decide) (fun p _ => hv _) (by decide)
  have tin : ∀ p ∈ (timesL r l).1.1, p.1 ∈ xs := fun p hp => hnx _ (ht.nm p hp)
  have bm := miss_br h1 hv
  refine ⟨(false, l, xs, v), rfl, fl, ?_, fun c h => absurd lin h.1⟩
  rintro r1 ⟨_, rfl⟩ _
  refine ⟨(false, l, xs, v), rfl, fl, ?_, fun c h => absurd lin h.1⟩
  rintro r1 ⟨_, rfl⟩ _
  refine ⟨(false, timesL r l, xs, v), rfl, ft, ?_, fun c h => absurd tin h.1⟩
  rintro r1 ⟨_, h⟩ _
  have h : r1 = .fz (.bl (holdsL v l)) := h.trans (congrArg (fun b => IV.fz (.bl b)) (holds_scale hr0))
  subst h
  refine ⟨(false, timesL r l, xs, v), rfl, ft, ?_, fun c h => absurd tin h.1⟩
  rintro r1 ⟨_, h⟩ _
  have h : r1 = .fz (qR (r * missL v l)) := h.trans (congrArg (fun q => IV.fz (qR q)) (miss_scale hr0))
  subst h
  repeat (refine And.intro (by first | exact sz 2 | exact sz 1 | exact sz 0 | exact sz 3 | exact sz 4 | exact sz 5 | exact sz 6 | exact sz 7 | exact sz 8 | exact sz 9 | exact sz 10 | exact sz 11 | exact sz 12 | exact sz 13 | exact sz 14 | exact sz 15 | exact sz 16 | exact sz 17 | exact sz 18 | exact sz 19 | exact sz 20) ?_)
  (refine ⟨(l, xs, v), rfl, ⟨fl, lin⟩, ?_, fun _ h => h.elim⟩; intro r' hr' _; cases hr')
  (refine ⟨(l, xs, v), rfl, ⟨fl, lin⟩, ?_, fun _ h => h.elim⟩; intro r' hr' _; cases hr')
  (refine ⟨(l, xs, v), rfl, ⟨fl, lin⟩, ?_, fun _ h => h.elim⟩; intro r' hr' _; cases hr')
  (refine ⟨(l, xs, v), rfl, ⟨fl, lin⟩, ?_, fun _ h => h.elim⟩; intro r' hr' _; cases hr')
  (refine ⟨(r, missL v l), rfl, ⟨hr.mono (by decide), bm.mono (by decide)⟩, ?_, fun _ h => h.elim⟩; intro r' hr' _; cases hr')
  repeat (refine And.intro (by first | exact sz 2 | exact sz 1 | exact sz 0 | exact sz 3 | exact sz 4 | exact sz 5 | exact sz 6 | exact sz 7 | exact sz 8 | exact sz 9 | exact sz 10 | exact sz 11 | exact sz 12 | exact sz 13 | exact sz 14 | exact sz 15 | exact sz 16 | exact sz 17 | exact sz 18 | exact sz 19 | exact sz 20) ?_)
  refine same6 (Q := onB fun b => _) (.lst [.bl (holdsL v l), qR (missL v l), .bl (holdsL v l), qR (r * missL v l)]) (pl_lst fun d hd => ?_) ?_
  · simp only [List.mem_cons, List.not_mem_nil, or_false] at hd
    rcases hd with rfl | rfl | rfl | rfl
    · exact pl_bl
    · exact pl_qR
    · exact pl_bl
    · exact pl_qR
  exact k1_ok hg hl hv hnx next
theorem k3_ok {x9 x11 x12 x13 : SV} (hg : GR g) (hv : ∀ n, BR 120 (v n)) (hnx : ∀ n ∈ nms, n ∈ xs)
    (next : De.nx [.sc ns, .st, x2, x3, .fz (ptD xs v), x5, x6, x7, .fz (rungD g), x9, .fz (qR (totalL v g)), x11, x12, x13, x14, x15, x16]) : m_law_k3 De [.sc ns, .st, x2, x3, .fz (ptD xs v), x5, x6, x7, .fz (rungD g), x9, .fz (qR (totalL v g)), x11, x12, x13, x14, x15, x16] := by
  have f0 : ∀ v, FitT v [] := fun v => ⟨fun p hp => absurd hp (by simp), fun pre post e => by
    have : pre = [] := (List.append_eq_nil_iff.mp e.symm).1
    rw [this]
    exact BR.zero⟩
  have a0 : ∀ ks, allIn ks [] := fun ks p hp => absurd hp (by simp)
  refine ⟨(false, g, xs, v), rfl, fit_rung hg hv, ?_, fun c h => absurd (rung_in hg hnx) h.1⟩
  rintro r1 ⟨_, rfl⟩ _
  repeat (refine And.intro (by first | exact sz 2 | exact sz 1 | exact sz 0 | exact sz 3 | exact sz 4 | exact sz 5 | exact sz 6 | exact sz 7 | exact sz 8 | exact sz 9 | exact sz 10 | exact sz 11 | exact sz 12 | exact sz 13 | exact sz 14 | exact sz 15 | exact sz 16 | exact sz 17 | exact sz 18 | exact sz 19 | exact sz 20) ?_)
  refine ⟨(false, [], xs, v), rfl, f0 v, ?_, fun c h => absurd (a0 _) h.1⟩
  rintro r1 ⟨_, rfl⟩ _
  repeat (refine And.intro (by first | exact sz 2 | exact sz 1 | exact sz 0 | exact sz 3 | exact sz 4 | exact sz 5 | exact sz 6 | exact sz 7 | exact sz 8 | exact sz 9 | exact sz 10 | exact sz 11 | exact sz 12 | exact sz 13 | exact sz 14 | exact sz 15 | exact sz 16 | exact sz 17 | exact sz 18 | exact sz 19 | exact sz 20) ?_)
  refine ⟨(false, [], [], v), rfl, f0 v, ?_, fun c h => absurd (a0 _) h.1⟩
  rintro r1 ⟨_, rfl⟩ _
  repeat (refine And.intro (by first | exact sz 2 | exact sz 1 | exact sz 0 | exact sz 3 | exact sz 4 | exact sz 5 | exact sz 6 | exact sz 7 | exact sz 8 | exact sz 9 | exact sz 10 | exact sz 11 | exact sz 12 | exact sz 13 | exact sz 14 | exact sz 15 | exact sz 16 | exact sz 17 | exact sz 18 | exact sz 19 | exact sz 20) ?_)
  refine same6 (Q := onB fun b => _) (.lst [qR (totalL v g), qR 0, qR 0]) (pl_lst fun d hd => ?_) ?_
  · simp only [List.mem_cons, List.not_mem_nil, or_false] at hd
    rcases hd with rfl | rfl | rfl <;> exact pl_qR
  exact next
theorem k4_ok {x9 x10 x11 x12 x13 : SV} (hg : GR g) (hv : ∀ n, BR 120 (v n)) (hnx : ∀ n ∈ nms, n ∈ xs)
    (next : ∀ x9 x10 x11 x12 x13 x14 x15 x16, De.nx [.sc ns, .st, x2, x3, .fz (ptD xs v), x5, x6, x7, .fz (rungD g), x9, x10, x11, x12, x13, x14, x15, x16]) : m_law_k4 De [.sc ns, .st, x2, x3, .fz (ptD xs v), x5, x6, x7, .fz (rungD g), x9, x10, x11, x12, x13, x14, x15, x16] := by
  repeat (refine And.intro (by first | exact sz 2 | exact sz 1 | exact sz 0 | exact sz 3 | exact sz 4 | exact sz 5 | exact sz 6 | exact sz 7 | exact sz 8 | exact sz 9 | exact sz 10 | exact sz 11 | exact sz 12 | exact sz 13 | exact sz 14 | exact sz 15 | exact sz 16 | exact sz 17 | exact sz 18 | exact sz 19 | exact sz 20) ?_)
  refine forD_on pairD (fun pre ε => ∃ x9 x11 x12 x13 x14 x15 x16, ε = [.sc ns, .st, x2, x3, .fz (ptD xs v), x5, x6, x7, .fz (rungD g), x9, .fz (qR (totalL v pre)), x11, x12, x13, x14, x15, x16]) g _ ⟨_, _, _, _, _, _, _, rfl⟩ ?_ ?_
  · rintro pre p post ε F e ⟨y9, y11, y12, y13, y14, y15, y16, rfl⟩ hF
    have hp : p ∈ g := by rw [e]; simp
    have ft := fit_rung hg hv
    obtain ⟨o1, o2, o3, o4⟩ := ft.one p hp
    have s := ft.sum pre (p :: post) e
    obtain ⟨g1, g2⟩ := hg.each p hp
    refine ⟨rfl, rfl, ?_⟩
    (refine ⟨(p.2, xs, v), rfl, ⟨o1, line_in g2 hnx⟩, ?_, fun _ h => h.elim⟩; intro r' hr' _; cases hr')
    (refine ⟨(p.1, missL v p.2), rfl, ⟨o2, o3⟩, ?_, fun _ h => h.elim⟩; intro r' hr' _; cases hr')
    (refine ⟨(totalL v pre, p.1 * missL v p.2), rfl, ⟨s, o4⟩, ?_, fun _ h => h.elim⟩; intro r' hr' _; cases hr')
    refine ⟨7, rfl, ⟨by decide, by decide⟩, fun a a0 a1 _ => ⟨7, rfl, ⟨by decide, by decide⟩, fun b b0 b1 _ => ?_⟩⟩
    have ba : Bd 3 (1 + a) := Nat.lt_of_le_of_lt (show (1 + a).natAbs ≤ 7 by omega) (by decide)
    have bb : Bd 3 (1 + b) := Nat.lt_of_le_of_lt (show (1 + b).natAbs ≤ 7 by omega) (by decide)
    (refine ⟨(1 + a, 1 + b), rfl, ⟨ba.mono (by decide), bb.mono (by decide), show (1 + b) ≠ 0 by omega⟩, ?_, fun _ h => h.elim⟩; intro r' hr' _; cases hr')
    have hr : BR 3 (Rat.divInt (1 + a) (1 + b)) := BR.red (by omega) ba bb
    have hr0 : 0 < Rat.divInt (1 + a) (1 + b) := pos_divInt (by omega) (by omega)
    have fitS : FitP (scaleP (Rat.divInt (1 + a) (1 + b)) p.2.1.1) := FitP.of 60 (fun q hq => by obtain ⟨q', hq', _, e2⟩ := scaleP_mem hq; rw [e2]; exact (hr.mul (g2.br q' hq')).mono (by decide)) 3 (by rw [scaleP_len]; exact g2.len)
    (refine ⟨(Rat.divInt (1 + a) (1 + b), p.2), rfl, ⟨⟨hr.mono (by decide), g2.bc.mono (by decide), fun q hq => (g2.br q hq).mono (by decide)⟩, fitS⟩, ?_, fun _ h => h.elim⟩; intro r' hr' _; cases hr')
    refine k2_ok (due := totalL v pre + p.1 * missL v p.2) hg ⟨p.1, hp⟩ hr hr0 hv hnx fun _ _ _ => ?_
    exact hF _ ⟨_, _, _, _, _, _, _, by rw [totalL_snoc]; rfl⟩
  · rintro ε ⟨y9, y11, y12, y13, y14, y15, y16, rfl⟩
    exact k3_ok hg hv hnx (next _ _ _ _ _ _ _ _)
end
theorem zz_nodup : (nms ++ (["zz"] : List Str)).Nodup := by decide
theorem pure_law : ∀ ns : List Int, ns.length ≤ 63 → m_law { nx := fun _ => False, rt := fun iv => iv = .fz (.bl true) } (lawE ns 17) := by
  intro ns hns
  have e := sizeLine_eq
  unfold m_law
  repeat (refine And.intro (by first | exact sz 2 | exact sz 1 | exact sz 0 | exact sz 3 | exact sz 4 | exact sz 5 | exact sz 6 | exact sz 7 | exact sz 8 | exact sz 9 | exact sz 10 | exact sz 11 | exact sz 12 | exact sz 13 | exact sz 14 | exact sz 15 | exact sz 16 | exact sz 17 | exact sz 18 | exact sz 19 | exact sz 20) ?_)
  have hm := @min_le (10 : Int) ((ns.length : Nat) : Int)
  refine ⟨10 + (if (10 : Int) < ((ns.length : Nat) : Int) then 10 else ((ns.length : Nat) : Int)), rfl, ⟨by split <;> omega, by split <;> omega⟩, ?_⟩
  refine forD_inv (fun i ε => ∃ x3 x4 x5 x6 x7 x8 x9 x10 x11 x12 x13 x14 x15 x16, ε = [.sc ns, .st, .fz (.lst (nms.map .str)), x3, x4, x5, x6, x7, x8, x9, x10, x11, x12, x13, x14, x15, x16]) _ 0 _ ⟨_, _, _, _, _, _, _, _, _, _, _, _, _, _, rfl⟩ (fun i d ε F _ hi hF => ?_) (fun ε hi => rfl)
  obtain ⟨x3, x4, x5, x6, x7, x8, x9, x10, x11, x12, x13, x14, x15, x16, rfl⟩ := hi
  have next : ∀ x3 x4 x5 x6 x7 x8 x9 x10 x11 x12 x13 x14 x15 x16, F [.sc ns, .st, .fz (.lst (nms.map .str)), x3, x4, x5, x6, x7, x8, x9, x10, x11, x12, x13, x14, x15, x16] := fun _ _ _ _ _ _ _ _ _ _ _ _ _ _ => hF _ ⟨_, _, _, _, _, _, _, _, _, _, _, _, _, _, rfl⟩
  clear hF
  repeat (refine And.intro (by first | exact sz 2 | exact sz 1 | exact sz 0 | exact sz 3 | exact sz 4 | exact sz 5 | exact sz 6 | exact sz 7 | exact sz 8 | exact sz 9 | exact sz 10 | exact sz 11 | exact sz 12 | exact sz 13 | exact sz 14 | exact sz 15 | exact sz 16 | exact sz 17 | exact sz 18 | exact sz 19 | exact sz 20) ?_)
  obtain ⟨NM, hNM⟩ : ∃ NM, NM = nms.map D.str := ⟨_, rfl⟩
  have ez : NM ++ [D.str "zz"] = (nms ++ (["zz"] : List Str)).map D.str := by rw [hNM]; rfl
  rw [← hNM] at next ⊢
  show compD _ _ _ _ _ (NM ++ [D.str "zz"]) []
  rw [ez]
  refine compD_pt D.str (fun n r => .tup [.str n, qR r]) (BR 120) (BR.zero) zz_nodup (fun n hn K hK => ?_) fun v hv => ?_
  · refine ⟨6, rfl, ⟨by decide, by decide⟩, ?_, fun _ h => h⟩
    rintro r ⟨p, hp, rfl⟩ _
    exact ⟨sz 2, hK p hp⟩
  refine ⟨_, pairsOf_map (fun n : Str => n) (fun n => qR (v n)) (nms ++ (["zz"] : List Str)), ?_⟩
  rw [ptD_of zz_nodup]
  subst hNM
  have hnx : ∀ n ∈ nms, n ∈ nms ++ (["zz"] : List Str) := fun n hn => List.mem_append_left _ hn
  generalize nms ++ (["zz"] : List Str) = xs at hnx
  refine ⟨4, rfl, ⟨by decide, by decide⟩, ?_⟩
  refine compD_made lineD (GL nms 57) _ (fun d _ K hK => ?_) fun ls hl hL => ?_
  · refine ⟨(nms, 6), rfl, ⟨⟨by decide, by decide⟩, by decide, by decide⟩, ?_, fun _ h => h⟩
    rintro r ⟨l, hl, rfl⟩ _
    exact hK l hl
  have hl : ls.length = 4 := by rw [hl]; rfl
  show compD _ _ _ _ _ (ls.map lineD) []
  refine compD_pair (fun w l => pairD (w, l)) lineD (BR 3) ls (fun l hl K hK => ?_) fun ps hps hP => ?_
  · refine ⟨5, rfl, ⟨by decide, by decide⟩, fun a a0 a1 _ => ⟨3, rfl, ⟨by decide, by decide⟩, fun b b0 b1 _ => ?_⟩⟩
    have ba : Bd 3 (1 + a) := Nat.lt_of_le_of_lt (show (1 + a).natAbs ≤ 7 by omega) (by decide)
    have bb : Bd 3 (1 + b) := Nat.lt_of_le_of_lt (show (1 + b).natAbs ≤ 7 by omega) (by decide)
    refine ⟨(1 + a, 1 + b), rfl, ⟨ba.mono (by decide), bb.mono (by decide), show (1 + b) ≠ 0 by omega⟩, ?_, fun _ h => h⟩
    rintro r rfl _
    exact ⟨sz 2, hK _ (BR.red (by omega) ba bb)⟩
  have hg : GR ps := by
    refine ⟨?_, fun p hp => ⟨hP p hp, hL p.2 ?_⟩⟩
    · have := congrArg List.length hps
      rw [List.length_map] at this
      omega
    · rw [← hps]; exact List.mem_map.mpr ⟨p, hp, rfl⟩
  exact k4_ok hg hv hnx fun _ _ _ _ _ _ _ _ => next _ _ _ _ _ _ _ _ _ _ _ _ _ _


theorem fn_law {P : Program} {w : World} {K : Frag} {mg : Str → Option Value} {base : Heap} {f : Addr} {fd : FuncData} {CW cL PL fB : Addr} {fdB : FuncData} (F : FnP K "law" s_law f fd) (b1 : mg "_law_begun" = some (.ref fB)) (FB : FnP K "_law_begun" s__law_begun fB fdB) (h_abs0 : mg "abs" = none) (h_range : mg "range" = none) (h_min : mg "min" = none) (h_len : mg "len" = none) (h_isinstance : mg "isinstance" = none) (h_dict : mg "dict" = none) (h_tuple : mg "tuple" = none) (x_NoPoint : ExD K mg "NoPoint") (c__law_is : FnD P w K mg base 7 "_law_is" ["found", "due"] [] (sp__law_is 6) (0)) (c_total : FnD P w K mg base 6 "total" ["rung", "point"] [] sp_total 0) (c_miss : FnD P w K mg base 5 "miss" ["line", "point"] [] sp_miss 0) (c_holds : FnD P w K mg base 5 "holds" ["line", "point"] [] sp_holds 0) (c__law_pick : FnD P w K mg base 3 "_law_pick" ["state", "some"] [] sp__law_pick 1) (c__law_side : FnD P w K mg base 1 "_law_side" ["one", "other"] [] sp__law_side 0) (c__law_times : FnD P w K mg base 3 "_law_times" ["one", "other"] [] sp__law_times 0) (c__law_miss : FnD P w K mg base 6 "_law_miss" ["line", "point"] [] sp__law_miss 0) (c__law_holds : FnD P w K mg base 5 "_law_holds" ["line", "point"] [] sp__law_holds 0) (c__law_times_line : FnD P w K mg base 5 "_law_times_line" ["by", "line"] [] sp__law_times_line 0) (c__law_no : FnD P w K mg base 2 "_law_no" ["over", "under"] [] sp__law_no 0) (c__law_draw : FnD P w K mg base 2 "_law_draw" ["state", "room"] [] spDraw 1) (c__law_plus : FnD P w K mg base 3 "_law_plus" ["one", "other"] [] sp__law_plus 0) (c__law_some_line : FnD P w K mg base 6 "_law_some_line" ["state", "names", "most"] [] sp__law_some_line 100000010) (c__law_some_number : FnD P w K mg base 4 "_law_some_number" ["state", "most"] [] sp__law_some_number 8) (hFC : CaughtF P w K mg CW) (hcs : Caughts K mg CW cs_exc) (hcodeL : fd.code = .ref cL) (TBl : TabB base mg cL PL) (hmT : (PL, (("law" : Str) ++ ".<locals>.") ++ "<lambda>") ∈ lamTabs K) (huL : ∀ p ∈ lamTabs K, p.1 = PL → p.2 = (("law" : Str) ++ ".<locals>.") ++ "<lambda>") :
    FnOk P w K mg base (L2.CX P w) 9 f fd ["script"] (spLaw K) := by
  have GB : FnOk P w K mg base (L2.CX P w) 1 fB fdB ["script"] (spBegun K) := fn__law_begun FB b1 h_abs0
  have bB : Binds K fdB ["script"] [] := FB.bindsN fun _ _ _ _ _ _ us hl => match us, hl with | [_], _ => rfl
  exact law_intro (N := ["script", "state", "names", "turn", "point", "name", "lines", "lap", "rung", "line", "due", "weight", "by", "more", "bare", "errors", "error"]) (m := m_law) (k := 8) F sc_law (by decide) (fun cdv A outer s H E hcd hr => ⟨ps_set (i := 1) sc_law.nd rfl (by first | exact Or.inl rfl | exact Or.inr rfl) (pe_callSD GB (hr.mono (by decide)) rfl b1 FB.kp bB .nil (fun σ => passAt takesE σ) (pa_cons (pv 0) pa_nil)),
    (dss_cons (ds_set 2 sc_law.nd (de_fz (de_lst (da_cons (de_str) (da_cons (de_str) (da_cons (de_str) da_nil))))))
    (dss_cons (ds_for (passes_of rfl) rfl (dk_range1 h_range (dj_cons (DE.i (de_add (DE.i de_int) (DE.i (de_min rfl h_min (dj_cons (DE.i (de_lenS 0 h_len)) (dj_cons (DE.i de_int) dj_nil)))))) dj_nil)) (dg_name 3 sc_law.nd) (dss_cons (ds_set 4 sc_law.nd (de_fz (de_dict rfl h_dict (dj_cons (DE.i (de_lc [("name", 5)] rfl sc_law.nd (dk_anyI (DE.i (de_add (di_var 2) (DE.i (de_lst (da_cons (de_str) da_nil)))))) (fun _ _ _ _ _ => (dg_name 5 sc_law.nd)) (fun _ _ _ _ _ => dts_nil) (fun _ _ _ _ _ => (de_tup (da_cons (de_var 5) (da_cons (de_call c__law_some_number takes0 hr (da_cons (de_var 1) (da_cons de_int da_nil))) da_nil)))) (ok := by show blkC ["script", "state", "names", "turn", "point", "name", "lines", "lap", "rung", "line", "due", "weight", "by", "more", "bare", "errors", "error"] (defScope s_law) _ _ = true; decide +kernel))) dj_nil))))
    (dss_cons (ds_setLcF 6 [("lap", 7)] rfl sc_law.nd (dk_range1 h_range (dj_cons (DE.i de_int) dj_nil)) (fun _ _ _ _ _ => (dg_name 7 sc_law.nd)) (fun _ _ _ _ _ => dts_nil) (fun _ _ _ _ _ => (de_call c__law_some_line takes0 hr (da_cons (de_var 1) (da_cons (de_var 2) (da_cons de_int da_nil))))) (ok := by show blkC ["script", "state", "names", "turn", "point", "name", "lines", "lap", "rung", "line", "due", "weight", "by", "more", "bare", "errors", "error"] (defScope s_law) _ _ = true; decide +kernel))
    (dss_cons (ds_set 8 sc_law.nd (de_tuple h_tuple (dj_cons (DE.i (de_lc [("line", 9)] rfl sc_law.nd (dk_anyI (di_var 6)) (fun _ _ _ _ _ => (dg_name 9 sc_law.nd)) (fun _ _ _ _ _ => dts_nil) (fun _ _ _ _ _ => (de_tup (da_cons (de_call c__law_no takes0 hr (da_cons (de_add (DE.i de_int) (DE.i (de_call c__law_draw takes0 hr (da_cons (de_var 1) (da_cons de_int da_nil))))) (da_cons (de_add (DE.i de_int) (DE.i (de_call c__law_draw takes0 hr (da_cons (de_var 1) (da_cons de_int da_nil))))) da_nil))) (da_cons (de_var 9) da_nil)))) (ok := by show blkC ["script", "state", "names", "turn", "point", "name", "lines", "lap", "rung", "line", "due", "weight", "by", "more", "bare", "errors", "error"] (defScope s_law) _ _ = true; decide +kernel))) dj_nil)))
    (dss_cons (ds_set 10 sc_law.nd (de_tup (da_cons de_int (da_cons de_int da_nil))))
    (dss_cons (ds_for (passes_of rfl) rfl (dk_any (de_var 8)) (dg_tup rfl (dgs_cons (dg_name 11 sc_law.nd) (dgs_cons (dg_name 9 sc_law.nd) dgs_nil))) (dss_cons (ds_set 10 sc_law.nd (de_call c__law_plus takesE hr (da_cons (de_var 10) (da_cons (de_call c__law_times takesE hr (da_cons (de_var 11) (da_cons (de_call c__law_miss takesE hr (da_cons (de_var 9) (da_cons (de_var 4) da_nil))) da_nil))) da_nil))))
    (dss_cons (ds_set 12 sc_law.nd (de_call c__law_no takesE hr (da_cons (de_add (DE.i de_int) (DE.i (de_call c__law_draw takesE hr (da_cons (de_var 1) (da_cons de_int da_nil))))) (da_cons (de_add (DE.i de_int) (DE.i (de_call c__law_draw takesE hr (da_cons (de_var 1) (da_cons de_int da_nil))))) da_nil))))
    (dss_cons (ds_set 13 sc_law.nd (de_call c__law_times_line takesE hr (da_cons (de_var 12) (da_cons (de_var 9) da_nil))))
    (dss_cons (ds_if (dt_not (dt_val (de_call c__law_is takesE hr (da_cons (de_lst (da_cons (de_call c_holds takesE hr (da_cons (de_var 9) (da_cons (de_var 4) da_nil))) (da_cons (de_call c_miss takesE hr (da_cons (de_var 9) (da_cons (de_var 4) da_nil))) (da_cons (de_call c_holds takesE hr (da_cons (de_var 13) (da_cons (de_var 4) da_nil))) (da_cons (de_call c_miss takesE hr (da_cons (de_var 13) (da_cons (de_var 4) da_nil))) da_nil))))) (da_cons (de_lst (da_cons (de_call c__law_holds takesE hr (da_cons (de_var 9) (da_cons (de_var 4) da_nil))) (da_cons (de_call c__law_miss takesE hr (da_cons (de_var 9) (da_cons (de_var 4) da_nil))) (da_cons (de_call c__law_holds takesE hr (da_cons (de_var 9) (da_cons (de_var 4) da_nil))) (da_cons (de_call c__law_times takesE hr (da_cons (de_var 12) (da_cons (de_call c__law_miss takesE hr (da_cons (de_var 9) (da_cons (de_var 4) da_nil))) da_nil))) da_nil))))) da_nil))))) (dss_one (ds_ret de_bl)) dss_nil)
    (dss_cons (ds_if (DW.t (dw_and (dt_eq (DE.i (de_ix (di_var 9) (DE.i de_int) hr)) (DE.i (de_str)) hr) (dw_and (dt_isnot (DE.i (de_call c_holds takesE hr (da_cons (de_var 9) (da_cons (de_var 4) da_nil)))) (DE.i de_bl)) (dw_and1 (dt_lt (DE.i (de_call c__law_side takesE hr (da_cons (de_call c_miss takesE hr (da_cons (de_var 9) (da_cons (de_var 4) da_nil))) (da_cons (de_tup (da_cons de_int (da_cons de_int da_nil))) da_nil)))) (DE.i de_int)))))) (dss_one (ds_ret de_bl)) dss_nil)
    (dss_one (ds_if (dt_ne (DE.i (de_ix (DE.i (de_ix (di_var 9) (DE.i de_int) hr)) (DE.i de_int) hr)) (DE.i (de_tup da_nil)) hr) (dss_cons (ds_set 14 sc_law.nd (de_dict rfl h_dict (dj_cons (di_var 4) dj_nil)))
    (dss_cons (ds_exprX (dx_dpop 14 (DE.i (de_ix (DE.i (de_call c__law_pick takesE hr (da_cons (de_var 1) (da_cons (de_ix (DE.i (de_ix (di_var 9) (DE.i de_int) hr)) (DE.i de_int) hr) da_nil)))) (DE.i de_int) hr))))
    (dss_cons (ds_set 15 sc_law.nd (de_lst (da_cons (de_caught (k := 5) hFC hcs TBl (hcd.symm.trans hcodeL) hmT huL (hr.mono (by decide)) (lamS_by (by show lamSB (defScope s_law) _ = true; decide +kernel)) (fun _ _ _ _ _ _ _ hr => (de_call c_holds takesL hr (da_cons (de_var 9) (da_cons (de_arg 14) da_nil))))) da_nil)))
    (dss_cons (ds_append 15 (de_caught (k := 5) hFC hcs TBl (hcd.symm.trans hcodeL) hmT huL (hr.mono (by decide)) (lamS_by (by show lamSB (defScope s_law) _ = true; decide +kernel)) (fun _ _ _ _ _ _ _ hr => (de_call c_miss takesL hr (da_cons (de_var 9) (da_cons (de_arg 14) da_nil))))))
    (dss_cons (ds_append 15 (de_caught (k := 6) hFC hcs TBl (hcd.symm.trans hcodeL) hmT huL (hr.mono (by decide)) (lamS_by (by show lamSB (defScope s_law) _ = true; decide +kernel)) (fun _ _ _ _ _ _ _ hr => (de_call c_total takesL hr (da_cons (de_var 8) (da_cons (de_arg 14) da_nil))))))
    (dss_one (ds_if (dt_ne (DE.i (de_lc [("error", 16)] rfl sc_law.nd (dk_anyI (di_var 15)) (fun _ _ _ _ _ => (dg_name 16 sc_law.nd)) (fun _ _ _ _ _ => (dts_one (dt_not (dt_val (de_isE x_NoPoint h_isinstance (di_var 16)))))) (fun _ _ _ _ _ => de_int) (ok := by show blkC ["script", "state", "names", "turn", "point", "name", "lines", "lap", "rung", "line", "due", "weight", "by", "more", "bare", "errors", "error"] (defScope s_law) _ _ = true; decide +kernel))) (DE.i (de_lst da_nil)) hr) (dss_one (ds_ret de_bl)) dss_nil))))))) dss_nil))))))))
    (dss_one (ds_if (dt_not (dt_val (de_call c__law_is takesE hr (da_cons (de_lst (da_cons (de_call c_total takesE hr (da_cons (de_var 8) (da_cons (de_var 4) da_nil))) (da_cons (de_call c_total takesE hr (da_cons (de_tup da_nil) (da_cons (de_var 4) da_nil))) (da_cons (de_call c_total takesE hr (da_cons (de_tup da_nil) (da_cons de_dnew da_nil))) da_nil)))) (da_cons (de_lst (da_cons (de_var 10) (da_cons (de_tup (da_cons de_int (da_cons de_int da_nil))) (da_cons (de_tup (da_cons de_int (da_cons de_int da_nil))) da_nil)))) da_nil))))) (dss_one (ds_ret de_bl)) dss_nil))))))))
    (dss_one (ds_ret de_bl))))⟩) pure_law

def dd_common : He.DefD := ⟨("common", none), "common", "common", defArgs s_common, defBody s_common, defScope s_common, [], []⟩
def dd_number : He.DefD := ⟨("number", none), "number", "number", defArgs s_number, defBody s_number, defScope s_number, [.int 1], []⟩
def dd_plus : He.DefD := ⟨("plus", none), "plus", "plus", defArgs s_plus, defBody s_plus, defScope s_plus, [], []⟩
def dd_times : He.DefD := ⟨("times", none), "times", "times", defArgs s_times, defBody s_times, defScope s_times, [], []⟩
def dd_far : He.DefD := ⟨("far", none), "far", "far", defArgs s_far, defBody s_far, defScope s_far, [], []⟩
def dd_value_of : He.DefD := ⟨("value_of", none), "value_of", "value_of", defArgs s_value_of, defBody s_value_of, defScope s_value_of, [], []⟩
def dd_is_met : He.DefD := ⟨("is_met", none), "is_met", "is_met", defArgs s_is_met, defBody s_is_met, defScope s_is_met, [], []⟩
def dd_holds : He.DefD := ⟨("holds", none), "holds", "holds", defArgs s_holds, defBody s_holds, defScope s_holds, [], []⟩
def dd_miss : He.DefD := ⟨("miss", none), "miss", "miss", defArgs s_miss, defBody s_miss, defScope s_miss, [], []⟩
def dd_total : He.DefD := ⟨("total", none), "total", "total", defArgs s_total, defBody s_total, defScope s_total, [], []⟩
def dd__law_begun : He.DefD := ⟨("_law_begun", none), "_law_begun", "_law_begun", defArgs s__law_begun, defBody s__law_begun, defScope s__law_begun, [], []⟩
def dd__law_mixed : He.DefD := ⟨("_law_mixed", none), "_law_mixed", "_law_mixed", defArgs s__law_mixed, defBody s__law_mixed, defScope s__law_mixed, [], []⟩
def dd__law_draw : He.DefD := ⟨("_law_draw", none), "_law_draw", "_law_draw", defArgs s__law_draw, defBody s__law_draw, defScope s__law_draw, [], []⟩
def dd__law_pick : He.DefD := ⟨("_law_pick", none), "_law_pick", "_law_pick", defArgs s__law_pick, defBody s__law_pick, defScope s__law_pick, [], []⟩
def dd__law_is : He.DefD := ⟨("_law_is", none), "_law_is", "_law_is", defArgs s__law_is, defBody s__law_is, defScope s__law_is, [], []⟩
def dd__law_caught : He.DefD := ⟨("_law_caught", none), "_law_caught", "_law_caught", defArgs s__law_caught, defBody s__law_caught, defScope s__law_caught, [], []⟩
def dd__law_common : He.DefD := ⟨("_law_common", none), "_law_common", "_law_common", defArgs s__law_common, defBody s__law_common, defScope s__law_common, [], []⟩
def dd__law_no : He.DefD := ⟨("_law_no", none), "_law_no", "_law_no", defArgs s__law_no, defBody s__law_no, defScope s__law_no, [], []⟩
def dd__law_plus : He.DefD := ⟨("_law_plus", none), "_law_plus", "_law_plus", defArgs s__law_plus, defBody s__law_plus, defScope s__law_plus, [], []⟩
def dd__law_times : He.DefD := ⟨("_law_times", none), "_law_times", "_law_times", defArgs s__law_times, defBody s__law_times, defScope s__law_times, [], []⟩
def dd__law_side : He.DefD := ⟨("_law_side", none), "_law_side", "_law_side", defArgs s__law_side, defBody s__law_side, defScope s__law_side, [], []⟩
def dd__law_some_number : He.DefD := ⟨("_law_some_number", none), "_law_some_number", "_law_some_number", defArgs s__law_some_number, defBody s__law_some_number, defScope s__law_some_number, [], []⟩
def dd__law_small : He.DefD := ⟨("_law_small", none), "_law_small", "_law_small", defArgs s__law_small, defBody s__law_small, defScope s__law_small, [], []⟩
def dd__law_form : He.DefD := ⟨("_law_form", none), "_law_form", "_law_form", defArgs s__law_form, defBody s__law_form, defScope s__law_form, [], []⟩
def dd__law_value : He.DefD := ⟨("_law_value", none), "_law_value", "_law_value", defArgs s__law_value, defBody s__law_value, defScope s__law_value, [], []⟩
def dd__law_some_form : He.DefD := ⟨("_law_some_form", none), "_law_some_form", "_law_some_form", defArgs s__law_some_form, defBody s__law_some_form, defScope s__law_some_form, [], []⟩
def dd__law_some_line : He.DefD := ⟨("_law_some_line", none), "_law_some_line", "_law_some_line", defArgs s__law_some_line, defBody s__law_some_line, defScope s__law_some_line, [], []⟩
def dd__law_holds : He.DefD := ⟨("_law_holds", none), "_law_holds", "_law_holds", defArgs s__law_holds, defBody s__law_holds, defScope s__law_holds, [], []⟩
def dd__law_miss : He.DefD := ⟨("_law_miss", none), "_law_miss", "_law_miss", defArgs s__law_miss, defBody s__law_miss, defScope s__law_miss, [], []⟩
def dd__law_times_line : He.DefD := ⟨("_law_times_line", none), "_law_times_line", "_law_times_line", defArgs s__law_times_line, defBody s__law_times_line, defScope s__law_times_line, [], []⟩
def dd_law : He.DefD := ⟨("law", none), "law", "law", defArgs s_law, defBody s_law, defScope s_law, [], []⟩
def fn : List He.DefD := [dd_common, dd_number, dd_plus, dd_times, dd_far, dd_value_of, dd_is_met, dd_holds, dd_miss, dd_total, dd__law_begun, dd__law_mixed, dd__law_draw, dd__law_pick, dd__law_is, dd__law_caught, dd__law_common, dd__law_no, dd__law_plus, dd__law_times, dd__law_side, dd__law_some_number, dd__law_small, dd__law_form, dd__law_value, dd__law_some_form, dd__law_some_line, dd__law_holds, dd__law_miss, dd__law_times_line, dd_law]
def fa : List He.Fa := [.glo "common", .glo "number", .glo "plus", .glo "times", .glo "far", .glo "value_of", .glo "is_met", .glo "holds", .glo "miss", .glo "total", .glo "_law_begun", .glo "_law_mixed", .glo "_law_draw", .glo "_law_pick", .glo "_law_is", .glo "_law_caught", .glo "_law_common", .glo "_law_no", .glo "_law_plus", .glo "_law_times", .glo "_law_side", .glo "_law_some_number", .glo "_law_small", .glo "_law_form", .glo "_law_value", .glo "_law_some_form", .glo "_law_some_line", .glo "_law_holds", .glo "_law_miss", .glo "_law_times_line", .glo "law", .free "abs", .free "int", .free "len", .free "isinstance", .free "str", .free "dict", .free "tuple", .free "list", .free "zip", .free "sorted", .free "range", .free "min", .glo "NoNumber", .exc "NoNumber", .glo "NoPoint", .exc "NoPoint", .glo "WishError"]
def cs : List (Str × D) := []
def ls : List Str := ["law"]
def ds_exc : List Str := ["NoPoint"]
def tf : List He.Defn := [("law", none)]
abbrev R : PySem.W.OpenRow := PySem.W.OpenLaw.row PySem.Challenge.rw_wishregions_k07_whole_misses_and_totals
abbrev hk : PySem.W.Hook := He.hookX 4 fa fn [] tf (exAll cs cs_exc ds_exc ls)
def ob (s : PySem.W.SharedT) : He.AlX := He.obsX 4 fa fn [] tf (exAll cs cs_exc ds_exc ls) (HandSHeadRun.getT s)
theorem ob_eq (s : PySem.W.SharedT) : ob s = hk.obs s.abs := He.obsX_eq (HandSHeadRun.getT_eq s)
def loose0 : List PySem.Str := ["WishError", "NoNumber", "NoPoint", "common", "number", "plus", "times", "far", "value_of", "is_met", "holds", "miss"]
def loose1 : List PySem.Str := ["total", "_law_begun", "_law_mixed", "_law_draw", "_law_pick", "_law_is", "_law_caught", "_law_common", "_law_no", "_law_plus", "_law_times", "_law_side"]
def loose2 : List PySem.Str := ["_law_some_number", "_law_small", "_law_form", "_law_value", "_law_some_form", "_law_some_line", "_law_holds", "_law_miss", "_law_times_line"]
def loose : List PySem.Str := loose0 ++ loose1 ++ loose2
theorem run (w : World) : HandSHeadRun.RunEq R (PySem.W.view R.prog [38]) hk ob 6000 loose w := by
  intro os
  kernel_rfl
theorem facts {P : Program} {w : World} {K : Frag} {h : Heap} {mg : Str → Option Value} {f : Addr} (X : K.In h) (G : h.Ns mainGlobals mg) (hfa : mg ("law" : Str) = some (.ref f)) (c : He.SaysD fa fn K) (cc : consB cs K = true) (cx : cs_exc.all (excB K) = true) (cd : ds_exc.all (exdB K) = true) (cl : lamB ls K = true) :
    ∃ fd : FuncData, (∀ (s : Shared) (v : Value), BindsTo s fd ⟨[v], []⟩ [("script", v)]) ∧ ∀ base : Heap, K.In base → base.Ns mainGlobals mg → (∀ p ∈ tf.map (He.cT K), TabB base mg p.1 p.2) → FnOk P w K mg base (L2.CX P w) 9 f fd ["script"] (spLaw K) := by
  obtain ⟨fd_common, F_common⟩ := c.def_ 0 (d := dd_common) rfl
  obtain ⟨fd_number, F_number⟩ := c.def_ 1 (d := dd_number) rfl
  obtain ⟨fd_plus, F_plus⟩ := c.def_ 2 (d := dd_plus) rfl
  obtain ⟨fd_times, F_times⟩ := c.def_ 3 (d := dd_times) rfl
  obtain ⟨fd_far, F_far⟩ := c.def_ 4 (d := dd_far) rfl
  obtain ⟨fd_value_of, F_value_of⟩ := c.def_ 5 (d := dd_value_of) rfl
  obtain ⟨fd_is_met, F_is_met⟩ := c.def_ 6 (d := dd_is_met) rfl
  obtain ⟨fd_holds, F_holds⟩ := c.def_ 7 (d := dd_holds) rfl
  obtain ⟨fd_miss, F_miss⟩ := c.def_ 8 (d := dd_miss) rfl
  obtain ⟨fd_total, F_total⟩ := c.def_ 9 (d := dd_total) rfl
  obtain ⟨fd__law_begun, F__law_begun⟩ := c.def_ 10 (d := dd__law_begun) rfl
  obtain ⟨fd__law_mixed, F__law_mixed⟩ := c.def_ 11 (d := dd__law_mixed) rfl
  obtain ⟨fd__law_draw, F__law_draw⟩ := c.def_ 12 (d := dd__law_draw) rfl
  obtain ⟨fd__law_pick, F__law_pick⟩ := c.def_ 13 (d := dd__law_pick) rfl
  obtain ⟨fd__law_is, F__law_is⟩ := c.def_ 14 (d := dd__law_is) rfl
  obtain ⟨fd__law_caught, F__law_caught⟩ := c.def_ 15 (d := dd__law_caught) rfl
  obtain ⟨fd__law_common, F__law_common⟩ := c.def_ 16 (d := dd__law_common) rfl
  obtain ⟨fd__law_no, F__law_no⟩ := c.def_ 17 (d := dd__law_no) rfl
  obtain ⟨fd__law_plus, F__law_plus⟩ := c.def_ 18 (d := dd__law_plus) rfl
  obtain ⟨fd__law_times, F__law_times⟩ := c.def_ 19 (d := dd__law_times) rfl
  obtain ⟨fd__law_side, F__law_side⟩ := c.def_ 20 (d := dd__law_side) rfl
  obtain ⟨fd__law_some_number, F__law_some_number⟩ := c.def_ 21 (d := dd__law_some_number) rfl
  obtain ⟨fd__law_small, F__law_small⟩ := c.def_ 22 (d := dd__law_small) rfl
  obtain ⟨fd__law_form, F__law_form⟩ := c.def_ 23 (d := dd__law_form) rfl
  obtain ⟨fd__law_value, F__law_value⟩ := c.def_ 24 (d := dd__law_value) rfl
  obtain ⟨fd__law_some_form, F__law_some_form⟩ := c.def_ 25 (d := dd__law_some_form) rfl
  obtain ⟨fd__law_some_line, F__law_some_line⟩ := c.def_ 26 (d := dd__law_some_line) rfl
  obtain ⟨fd__law_holds, F__law_holds⟩ := c.def_ 27 (d := dd__law_holds) rfl
  obtain ⟨fd__law_miss, F__law_miss⟩ := c.def_ 28 (d := dd__law_miss) rfl
  obtain ⟨fd__law_times_line, F__law_times_line⟩ := c.def_ 29 (d := dd__law_times_line) rfl
  obtain ⟨fd_law, F_law⟩ := c.def_ 30 (d := dd_law) rfl
  have gl_common := He.glo_ok X G (c.fact 0 (f := .glo "common") rfl)
  have gl_number := He.glo_ok X G (c.fact 1 (f := .glo "number") rfl)
  have gl_plus := He.glo_ok X G (c.fact 2 (f := .glo "plus") rfl)
  have gl_times := He.glo_ok X G (c.fact 3 (f := .glo "times") rfl)
  have gl_far := He.glo_ok X G (c.fact 4 (f := .glo "far") rfl)
  have gl_value_of := He.glo_ok X G (c.fact 5 (f := .glo "value_of") rfl)
  have gl_is_met := He.glo_ok X G (c.fact 6 (f := .glo "is_met") rfl)
  have gl_holds := He.glo_ok X G (c.fact 7 (f := .glo "holds") rfl)
  have gl_miss := He.glo_ok X G (c.fact 8 (f := .glo "miss") rfl)
  have gl_total := He.glo_ok X G (c.fact 9 (f := .glo "total") rfl)
  have gl__law_begun := He.glo_ok X G (c.fact 10 (f := .glo "_law_begun") rfl)
  have gl__law_mixed := He.glo_ok X G (c.fact 11 (f := .glo "_law_mixed") rfl)
  have gl__law_draw := He.glo_ok X G (c.fact 12 (f := .glo "_law_draw") rfl)
  have gl__law_pick := He.glo_ok X G (c.fact 13 (f := .glo "_law_pick") rfl)
  have gl__law_is := He.glo_ok X G (c.fact 14 (f := .glo "_law_is") rfl)
  have gl__law_caught := He.glo_ok X G (c.fact 15 (f := .glo "_law_caught") rfl)
  have gl__law_common := He.glo_ok X G (c.fact 16 (f := .glo "_law_common") rfl)
  have gl__law_no := He.glo_ok X G (c.fact 17 (f := .glo "_law_no") rfl)
  have gl__law_plus := He.glo_ok X G (c.fact 18 (f := .glo "_law_plus") rfl)
  have gl__law_times := He.glo_ok X G (c.fact 19 (f := .glo "_law_times") rfl)
  have gl__law_side := He.glo_ok X G (c.fact 20 (f := .glo "_law_side") rfl)
  have gl__law_some_number := He.glo_ok X G (c.fact 21 (f := .glo "_law_some_number") rfl)
  have gl__law_small := He.glo_ok X G (c.fact 22 (f := .glo "_law_small") rfl)
  have gl__law_form := He.glo_ok X G (c.fact 23 (f := .glo "_law_form") rfl)
  have gl__law_value := He.glo_ok X G (c.fact 24 (f := .glo "_law_value") rfl)
  have gl__law_some_form := He.glo_ok X G (c.fact 25 (f := .glo "_law_some_form") rfl)
  have gl__law_some_line := He.glo_ok X G (c.fact 26 (f := .glo "_law_some_line") rfl)
  have gl__law_holds := He.glo_ok X G (c.fact 27 (f := .glo "_law_holds") rfl)
  have gl__law_miss := He.glo_ok X G (c.fact 28 (f := .glo "_law_miss") rfl)
  have gl__law_times_line := He.glo_ok X G (c.fact 29 (f := .glo "_law_times_line") rfl)
  have h_abs := He.free_ok X G (c.fact 31 (f := .free "abs") rfl)
  have h_int := He.free_ok X G (c.fact 32 (f := .free "int") rfl)
  have h_len := He.free_ok X G (c.fact 33 (f := .free "len") rfl)
  have h_isinstance := He.free_ok X G (c.fact 34 (f := .free "isinstance") rfl)
  have h_str := He.free_ok X G (c.fact 35 (f := .free "str") rfl)
  have h_dict := He.free_ok X G (c.fact 36 (f := .free "dict") rfl)
  have h_tuple := He.free_ok X G (c.fact 37 (f := .free "tuple") rfl)
  have h_list := He.free_ok X G (c.fact 38 (f := .free "list") rfl)
  have h_zip := He.free_ok X G (c.fact 39 (f := .free "zip") rfl)
  have h_sorted := He.free_ok X G (c.fact 40 (f := .free "sorted") rfl)
  have h_range := He.free_ok X G (c.fact 41 (f := .free "range") rfl)
  have h_min := He.free_ok X G (c.fact 42 (f := .free "min") rfl)
  have e_NoNumber : ExC' K mg "NoNumber" := ⟨⟨_, He.glo_ok X G (c.fact 43 (f := .glo "NoNumber") rfl), He.exc_ok (c.fact 44 (f := .exc "NoNumber") rfl)⟩⟩
  have e_NoPoint : ExC' K mg "NoPoint" := ⟨⟨_, He.glo_ok X G (c.fact 45 (f := .glo "NoPoint") rfl), He.exc_ok (c.fact 46 (f := .exc "NoPoint") rfl)⟩⟩
  have x_NoPoint : ExD K mg "NoPoint" := exd_of X G cd (by decide) (by decide)
  have hcs : Caughts K mg (He.ga K "WishError") cs_exc := caughts_of X G cx
  have e := hfa.symm.trans (He.glo_ok X G (c.fact 30 (f := .glo "law") rfl))
  cases e
  have b := FunD.bindsA (ps := ["script"]) F_law fun _ _ _ _ _ _ us hl => match us, hl with | [_], _ => rfl
  refine ⟨fd_law, fun s v => b s [v] rfl, fun base _ _ hTB => ?_⟩
  have c_common := fn_common (P := P) (w := w) (base := base) F_common gl_common 
  have c_number := fn_number (P := P) (w := w) (base := base) F_number gl_number h_abs e_NoNumber c_common
  have c_plus := fn_plus (P := P) (w := w) (base := base) F_plus gl_plus c_number
  have c_times := fn_times (P := P) (w := w) (base := base) F_times gl_times c_number
  have c_far := fn_far (P := P) (w := w) (base := base) F_far gl_far h_abs
  have c_value_of := fn_value_of (P := P) (w := w) (base := base) F_value_of gl_value_of e_NoPoint c_plus c_times
  have c_is_met := fn_is_met (P := P) (w := w) (base := base) F_is_met gl_is_met 
  have c_holds := fn_holds (P := P) (w := w) (base := base) F_holds gl_holds c_is_met c_value_of
  have c_miss := fn_miss (P := P) (w := w) (base := base) F_miss gl_miss c_is_met c_number c_far c_value_of
  have c_total := fn_total (P := P) (w := w) (base := base) F_total gl_total c_plus c_times c_miss c_number
  have c__law_mixed := fn__law_mixed (P := P) (w := w) (base := base) F__law_mixed gl__law_mixed h_int
  have c__law_draw := fn__law_draw F__law_draw gl__law_draw h_int c__law_mixed
  have c__law_pick := fn__law_pick (P := P) (w := w) (base := base) F__law_pick gl__law_pick h_len c__law_draw
  have c__law_is := fnr__law_is (P := P) (w := w) (base := base) F__law_is gl__law_is h_isinstance h_int h_str h_dict h_tuple h_list h_zip h_len 6
  have hFC : CaughtF P w K mg (He.ga K "WishError") := caught_ok F__law_caught gl__law_caught (He.glo_ok X G (c.fact 47 (f := .glo "WishError") rfl))
  have c__law_common := fn__law_common (P := P) (w := w) (base := base) F__law_common gl__law_common h_int
  have c__law_no := fn__law_no (P := P) (w := w) (base := base) F__law_no gl__law_no h_abs c__law_common
  have c__law_plus := fn__law_plus (P := P) (w := w) (base := base) F__law_plus gl__law_plus c__law_no
  have c__law_times := fn__law_times (P := P) (w := w) (base := base) F__law_times gl__law_times c__law_no
  have c__law_side := fn__law_side (P := P) (w := w) (base := base) F__law_side gl__law_side 
  have c__law_some_number := fn__law_some_number (P := P) (w := w) (base := base) F__law_some_number gl__law_some_number c__law_no c__law_pick c__law_draw
  have c__law_small := fn__law_small (P := P) (w := w) (base := base) F__law_small gl__law_small c__law_no c__law_pick c__law_draw
  have c__law_form := fn__law_form (P := P) (w := w) (base := base) F__law_form gl__law_form h_tuple h_sorted c__law_plus
  have c__law_value := fn__law_value (P := P) (w := w) (base := base) F__law_value gl__law_value c__law_plus c__law_times
  have c__law_some_form := fn__law_some_form (P := P) (w := w) (base := base) F__law_some_form gl__law_some_form h_range h_len c__law_form c__law_small c__law_draw c__law_pick
  have c__law_some_line := fn__law_some_line (P := P) (w := w) (base := base) F__law_some_line gl__law_some_line c__law_pick c__law_some_form
  have c__law_holds := fn__law_holds (P := P) (w := w) (base := base) F__law_holds gl__law_holds c__law_value
  have c__law_miss := fn__law_miss (P := P) (w := w) (base := base) F__law_miss gl__law_miss h_abs c__law_holds c__law_value
  have c__law_times_line := fn__law_times_line (P := P) (w := w) (base := base) F__law_times_line gl__law_times_line c__law_form c__law_times
  exact fn_law F_law gl__law_begun F__law_begun h_abs h_range h_min h_len h_isinstance h_dict h_tuple x_NoPoint c__law_is c_total c_miss c_holds c__law_pick c__law_side c__law_times c__law_miss c__law_holds c__law_times_line c__law_no c__law_draw c__law_plus c__law_some_line c__law_some_number hFC hcs (code_of F_law) (hTB _ (List.mem_map.mpr ⟨("law", none), by decide, rfl⟩)) (lam_mem (c.fact 30 (f := .glo "law") rfl)) (fun p hp e => congrArg Prod.snd (lamB_one cl hp (lam_mem (c.fact 30 (f := .glo "law") rfl)) e))
end Wk07
open PySem PySem.W PySem.Calls PyProof.Rows
theorem PySem.Challenge.cw_wishregions_k07_whole_misses_and_totals_holds : PySem.Challenge.rw_wishregions_k07_whole_misses_and_totals.Holds := by
  w_on; o_law
  refine HandSHeadRun.head_any (r := OpenLaw.row PySem.Challenge.rw_wishregions_k07_whole_misses_and_totals) (q := view (OpenLaw.row PySem.Challenge.rw_wishregions_k07_whole_misses_and_totals).prog [38]) (H := Wk07.hk) (ob := Wk07.ob) (M := 6000) (loose := Wk07.loose) (d := HandSHeadRun.topDef (OpenLaw.row PySem.Challenge.rw_wishregions_k07_whole_misses_and_totals).prog 38) (kwd := []) Wk07.ob_eq
    (by kernel_rfl) (fun s => by kernel_rfl) Wk07.run (by kernel_rfl) (by kernel_rfl) (by kernel_rfl) (by rfl) (by first | assumption | decide +kernel) (by decide +kernel) ⟨rfl, rfl, rfl, rfl, rfl, by decide +kernel⟩ ?hw ?hc
  case hw => w_witness2
  case hc =>
    refine LamX.walk_ofTsE (l := PySem.Challenge.rw_wishregions_k07_whole_misses_and_totals) (n := 63) (k := 9) (x := "script") (CX := fun _ => L2.CX0) rfl (by decide) (by kernel_rfl) ⟨rfl, by decide, by decide⟩ ?F (fun _ _ _ _ _ z => z)
    intro w mg fa h Y hG hmg0
    obtain ⟨K, KX, Y⟩ := Y
    obtain ⟨cc, cx, cd, cl⟩ := G.exAll_ok Y.more
    have hmg : mg ("law" : PySem.Str) = some (.ref fa) := by
      have e : (HandSHeadRun.topDef (OpenLaw.row PySem.Challenge.rw_wishregions_k07_whole_misses_and_totals).prog 38).name = ("law" : PySem.Str) := by kernel_rfl
      rw [← e]
      exact hmg0
    obtain ⟨fd, hb, hF⟩ := Wk07.facts (P := (PySem.Challenge.rw_wishregions_k07_whole_misses_and_totals).prog) (w := w) KX hG hmg Y.t.d cc cx cd cl
    refine ⟨K, KX, fd, Wk07.tf.map (He.cT K), G.spLaw K, fun p hp => ?_, fun p hp => ?_, fun p hp => ?_, hb, fun H a ns hl _ hT hS => ⟨a, ns, rfl, hl, G.lamB_tabs cl hT, hS, fun _ => rfl⟩, fun base h1 h2 h3 => G.fn_toCX0 (hF base h1 h2 h3) fun _ _ _ _ q => q⟩
    · obtain ⟨q, hq, rfl⟩ := List.mem_map.mp hp
      exact Y.empty q hq
    · obtain ⟨q, hq, rfl⟩ := List.mem_map.mp hp
      exact Y.out q hq
    · obtain ⟨q, hq, rfl⟩ := List.mem_map.mp hp
      exact PySem.W.codeHd_of_K KX (Y.hd q hq)