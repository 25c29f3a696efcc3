import PyProof.Rows.All
import Wide.All
import OpenK.AllK
import Wide.FinOn
import HandS.Base
import HandS.Call
import HandS.List
import HandS.Comp
import HandS.Ends
import HandS.Dict
import HandS.Iter
import HandS.Text
import HandS.Words
import HandS.WordsList
import HandS.WordsDict
import HandS.Exc
import HandS.TryOnly
import HandS.ExcOwn
import HandS.WordsExc
import HandS.Wide
import HandS.Zip
import HandS.IsInst
import HandS.Remove
import HandS.More
import HandS.TupAny
import HandS.HeadHook1
import HandS.Deep
import HandS.Walk
import HandS.Conv
import HandS.CallSlots
import KE.GoesEnum
import HandS.SetFor
import HandS.Sort
import KE.OsSort
import HandS.Defaults
import HandS.HeadEnd
import HandS.HeadHook2
import HandS.HeadHook3
import HandS.HeadHook4
import HandS.ExcInit
import HandS.ExcField
import HandS.ExcIs
import HandS.ExcValue
import KE.KExcIs
import KE.SortData
import HandS.Strs
import KE.DataMinMax
import HandS.Rev
import PyProof.StrOps2
import HandS.RaiseMore
import HandS.SetKeys
import HandS.CallLocal
import HandS.TupLe
import HandS.HotCalls
import HandS.Replace
import HandS.TryMany
import HandS.Codes
import HandS.New0
import HandS.Head0
import HandS.Head1
import HandS.Head2
import PySem.Challenge.RW_ringtrade_k05_texts_refused
set_option Elab.async false
set_option linter.all false
set_option maxRecDepth 100000
set_option maxHeartbeats 4000000
/-! trees: data without addresses, and how a heap bears them -/
namespace RT
open PySem PySem.Spec PyProof.Rows L2
/-- a tuple whose own object is known: it has no dict -/
def TupAt (K : PySem.W.Frag) (F : Hp) (a : Addr) (vs : List V) : Prop :=
  (∃ o, F a = some (.frz o (.tup vs)) ∧ o.dict = none) ∨
    ∃ (o : Obj) (its : Array Value) (n : Nat), K.lookup a = some o ∧ o.cls = .type "tuple" ∧ o.data = .seq its n ∧ its.size ≤ sizeLine ∧ Vals vs its.toList ∧ o.dict = none
theorem TupAt.sq {K : PySem.W.Frag} {F : Hp} {a : Addr} {vs : List V} (h : TupAt K F a vs) : SqT K F a vs := by
  rcases h with ⟨o, e, _⟩ | ⟨o, its, n, h1, h2, h3, h4, h5, _⟩
  · exact .inl (.inr ⟨o, e⟩)
  · exact .inr ⟨o, its, n, h1, h2, h3, h4, h5⟩
theorem TupAt.same {K : PySem.W.Frag} {F F' : Hp} {a : Addr} {vs : List V} (s : Same F F') (h : TupAt K F a vs) : TupAt K F' a vs := by
  rcases h with ⟨o, e, d⟩ | h
  · exact .inl ⟨o, s _ _ e, d⟩
  · exact .inr h
section
variable {X : Cx}
/-- a new tuple, its object known -/
theorem frz_laid {pins : List (Addr × Obj)} {σ : L2.St} {H : Hp} {s : Shared} {xs : List V} {its : List Value} (I : Inv X pins σ H s) (r : Vals xs its) (hz : xs.length ≤ sizeLine) :
    Inv X pins σ (upd H s.heap.objs.size (.frz { cls := .type "tuple", data := .seq its.toArray } (.tup xs))) { s with heap := s.heap.push { cls := .type "tuple", data := .seq its.toArray } } :=
  I.laid (t' := s.toks) (fun b u e => Heap.get?_push_of_some _ e) (Nat.le_refl _) (show ObjOk X.prog X.w _ _ _ (.frz { cls := .type "tuple", data := .seq its.toArray } (.tup xs)) from
    ⟨Heap.get?_push_size _ rfl, hz, its, r, IsTup.new _ _⟩)
def NewT (H : Hp) (xs : List V) (Q : VK) : Prop := ∀ p o, H p = none → o.dict = none → Q (.ref p) (upd H p (.frz o (.tup xs)))
def tTupB (t : TA) : TE := fun σ H Q => t σ H fun xs H1 => xs.length ≤ sizeLine ∧ (NewT H1 xs Q ∨ ∀ p, H1 p = none → Q (.ref p) (upd H1 p (.tup xs)))
theorem pe_tupB {es : List Expr} {t : TA} {pos : Pos} {x1} (h : PA X es t) : PE X (.Tuple es x1 pos) (tTupB t) := by
  refine ⟨fun pins s σ H Q I hq => ?_⟩
  refine wpAny_Tuple_spliced (thn (h.run pos pins s σ H _ I hq) fun us s1 ⟨xs, H1, I1, r, z, q⟩ => ⟨by rw [← r.length]; exact z, ?_⟩)
  have hf : H1 s1.heap.objs.size = none := I1.hok.fresh (Nat.le_refl _)
  rcases q with q | q
  · exact ⟨.ref s1.heap.objs.size, _, frz_laid I1 r z, rfl, q _ _ hf rfl⟩
  · refine ⟨.ref s1.heap.objs.size, upd H1 s1.heap.objs.size (.tup xs), I1.laid (t' := s1.toks) (fun b u e => Heap.get?_push_of_some _ e) (Nat.le_refl _) ?_, rfl, q _ hf⟩
    exact ⟨z, us, r, ⟨_, Heap.get?_push_size _ rfl, rfl, _, rfl⟩⟩
def rTupOf (K : PySem.W.Frag) : List V → Hp → VK → Prop := fun xs H Q => ∃ p ys, xs = [.ref p] ∧ ((SqL K H p ys ∧ NewT H ys Q) ∨ (SqT K H p ys ∧ Q (.ref p) H))
theorem call_tuple_ofB : CallR X (.type "tuple") (rTupOf X.K) := by
  intro pins s σ H xs us Q I r h
  obtain ⟨p, ys, rfl, h⟩ := h
  obtain ⟨u, rfl, rx⟩ := vals1 r
  cases rx
  rcases h with ⟨hq, q⟩ | ⟨hq, q⟩
  · obtain ⟨its, r', pl, hz⟩ := I.list hq
    have hlen := r'.length
    refine call_tuple_list pl.isList (fun h' kp => ?_) (by simp only [List.size_toArray] <;> omega)
    have I1 : Inv X pins σ H { s with heap := h' } := I.kept (t' := s.toks) kp
    exact ⟨.ref h'.objs.size, _, frz_laid I1 r' hz, rfl, q _ _ (I1.hok.fresh (Nat.le_refl _)) rfl⟩
  · obtain ⟨its, r', pl, hz⟩ := I.tuple hq
    exact call_tuple_same pl ⟨.ref p, H, I, rfl, q⟩
def rSlTB (K : PySem.W.Frag) : V → Option Int → Option Int → Hp → VK → Prop := fun x lo hi H Q => ∃ a xs, x = .ref a ∧ SqT K H a xs ∧
  ((HT.sIx xs.length 0 lo = 0 ∧ HT.sIx xs.length xs.length hi = xs.length) → Q (.ref a) H) ∧ (¬ (HT.sIx xs.length 0 lo = 0 ∧ HT.sIx xs.length xs.length hi = xs.length) → NewT H (cutV xs lo hi) Q)
theorem sl_tupB : SlR X (rSlTB X.K) := by
  intro pins s σ H x v vl vu lo hi sl Q I rx hs pl pu h
  obtain ⟨a, xs, rfl, hx, q0, q⟩ := h
  cases rx
  obtain ⟨its, r, ht, hz⟩ := I.tuple hx
  have hlen : its.toArray.size = xs.length := by rw [List.size_toArray]; exact r.length.symm
  refine ⟨"tuple", _, PyProof.Rows.slot_tuple_getitem.lookup, ht.typeIs, ?_⟩
  by_cases hw : HT.sIx xs.length 0 lo = 0 ∧ HT.sIx xs.length xs.length hi = xs.length
  · exact L2.getItem_tuple_whole ht hs pl pu (by rw [hlen]; exact hw) ⟨.ref a, H, I, rfl, q0 hw⟩
  replace q := q hw
  refine HT.getItem_tuple_cut ht hs pl pu (by rw [hlen]; exact hw) ?_ (by rw [hlen]; exact hz)
  rw [hlen]
  exact ⟨.ref s.heap.objs.size, _, frz_laid I ((r.drop (HT.sIx xs.length 0 lo)).take (HT.sIx xs.length xs.length hi - HT.sIx xs.length 0 lo)) (Nat.le_trans (cutV_length xs lo hi) hz), rfl, q _ _ (I.hok.fresh (Nat.le_refl _)) rfl⟩
def rCatTB (K : PySem.W.Frag) : R2 := fun x y H Q => ∃ a b xs ys, x = .ref a ∧ y = .ref b ∧ SqT K H a xs ∧ SqT K H b ys ∧ xs.length + ys.length ≤ sizeLine ∧
  (xs = [] → Q (.ref b) H) ∧ (xs ≠ [] → ys = [] → Q (.ref a) H) ∧ (xs ≠ [] → ys ≠ [] → NewT H (xs ++ ys) Q)
theorem op_catTB : OpR X (binaryOp .Add) (rCatTB X.K) := by
  intro pins s σ H x y v u Q I rx ry h
  obtain ⟨a, b, xs, ys, rfl, rfl, ha, hb, hz, q0, q1, q2⟩ := h
  cases rx
  cases ry
  obtain ⟨its, r1, p1, _⟩ := I.tuple ha
  obtain ⟨its2, r2, p2, _⟩ := I.tuple hb
  by_cases hx : xs = []
  · have e1 := r1.nil_iff.mpr hx
    subst e1
    exact L2.cat_tup0 p1 p2 ⟨.ref b, H, I, rfl, q0 hx⟩
  replace q1 := q1 hx
  replace q2 := q2 hx
  refine HT.cat_tup p1 p2 (fun z => hx (r1.nil_iff.mp z)) (fun z => ⟨.ref a, H, I, rfl, q1 (r2.nil_iff.mp z)⟩) (fun z => ?_) (by rw [← r1.length, ← r2.length]; exact hz)
  exact ⟨.ref s.heap.objs.size, _, frz_laid I (r1.append r2) (by rw [List.length_append]; exact hz), rfl, q2 (fun w => z (r2.nil_iff.mpr w)) _ _ (I.hok.fresh (Nat.le_refl _)) rfl⟩
end
/-- a caught exception: its class, its dict -/
def exh (a : Addr) (cls : Value) (d : Option Addr) : HO := .ext fun h => ∃ oe : Obj, h.get? a = some oe ∧ Zc cls d oe ∧ ∃ vs, oe.data = .fields vs
/-- pure data: nothing in it is ever written -/
inductive D where
  | non | bl (b : Bool) | int (i : Int) | str (x : Str) | tup (l : List D) | lst (l : List D)
  /-- a list that is locked from without (the script) -/
  | scr (l : List D)
  /-- a caught exception of the module's own class c, its fields -/
  | exc (c : Str) (ks : List Str) (l : List D)
  /-- a dict that is locked for good -/
  | dct (ks : List Key) (l : List D)
  /-- a function of the module -/
  | fn (x : Str)
  /-- an instance of the module's class c that nobody changes any more -/
  | obj (c : Str) (fs : List Str) (l : List D)
/-- own; to be read now; of the caller -/
inductive Md where
  | o | r | p
  deriving DecidableEq
def Md.lk : Md → Md
  | .o => .r
  | k => k
inductive M where
  | d (x : D)
  | fl (k : Md) (l : List D)
  | fd (k : Md) (l : List (Key × D))
  | ml (k : Md) (l : List M)
  | md (k : Md) (ks : List Key) (l : List M)
  | mt (l : List M)
  /-- an instance of the module's class c, at a; its fields -/
  | ob (a : Addr) (k : Md) (c : Str) (fs : List Str) (l : List M)
  /-- a value, and what stands beside it -/
  | pk (m m0 : M)
mutual
def RepD (K : PySem.W.Frag) (F : Hp) : D → V → Prop
  | .non, v => v = .non
  | .bl b, v => v = .bl b
  | .int i, v => v = .int i
  | .str x, v => v = .str x
  | .tup l, v => ∃ a vs, v = .ref a ∧ TupAt K F a vs ∧ RepDs K F l vs
  | .lst l, v => ∃ a vs, v = .ref a ∧ F a = some (.lst vs) ∧ RepDs K F l vs
  | .scr l, v => ∃ a vs, v = .ref a ∧ SqL K F a vs ∧ RepDs K F l vs
  | .exc c ks l, v => ∃ a d, v = .ref a ∧ F a = some (exh a (.ref (He.ga K c)) d) ∧ ((d = none ∧ ks = [] ∧ l = []) ∨ ∃ dd kvs, d = some dd ∧ F dd = some (.xd kvs) ∧ kvs.map (·.1) = ks ∧ RepDs K F l (kvs.map (·.2)))
  | .dct ks l, v => ∃ a od kvs, v = .ref a ∧ F a = some (.frz od (.dK kvs)) ∧ kvs.map (·.1) = ks ∧ RepDs K F l (kvs.map (·.2))
  | .fn x, v => v = .ref (He.ga K x)
  | .obj c fs l, v => ∃ a dx kvs, v = .ref a ∧ F a = some (.ins (He.ga K c) dx kvs) ∧ kvs.map (·.1) = fs ∧ RepDs K F l (kvs.map (·.2))
def RepDs (K : PySem.W.Frag) (F : Hp) : List D → List V → Prop
  | [], vs => vs = []
  | d :: ds, vs => ∃ v r, vs = v :: r ∧ RepD K F d v ∧ RepDs K F ds r
end
/-- an object of the caller's, of one's own, or as it stands -/
def At (F H0 H : Hp) (k : Md) (a : Addr) (o : HO) (fp f : List Addr) : Prop :=
  match k with
  | .o => fp = a :: f ∧ H a = some o ∧ F a = none ∧ H0 a = none
  | .r => fp = f ∧ H a = some o
  | .p => fp = f ∧ H0 a = some o
mutual
def RepM (K : PySem.W.Frag) (F H0 H : Hp) : M → V → List Addr → Prop
  | .d x, v, fp => fp = [] ∧ RepD K F x v
  | .fl k l, v, fp => ∃ a vs, v = .ref a ∧ At F H0 H k a (.lst vs) fp [] ∧ RepDs K F l vs
  | .fd k l, v, fp => ∃ a kvs, v = .ref a ∧ At F H0 H k a (.dK kvs) fp [] ∧ kvs.map (·.1) = l.map (·.1) ∧ RepDs K F (l.map (·.2)) (kvs.map (·.2))
  | .ml k l, v, fp => ∃ a vs f, v = .ref a ∧ At F H0 H k a (.lst vs) fp f ∧ RepMs K F H0 H l vs f
  | .md k ks l, v, fp => ∃ a kvs f, v = .ref a ∧ At F H0 H k a (.dK kvs) fp f ∧ kvs.map (·.1) = ks ∧ RepMs K F H0 H l (kvs.map (·.2)) f
  | .mt l, v, fp => ∃ a vs, v = .ref a ∧ TupAt K F a vs ∧ RepMs K F H0 H l vs fp
  | .ob a k c fs l, v, fp => ∃ dx kvs f, v = .ref a ∧ At F H0 H k a (.ins (He.ga K c) dx kvs) fp f ∧ kvs.map (·.1) = fs ∧ RepMs K F H0 H l (kvs.map (·.2)) f
  | .pk m m0, v, fp => ∃ f g u, fp = f ++ g ∧ RepM K F H0 H m v f ∧ RepM K F H0 H m0 u g
def RepMs (K : PySem.W.Frag) (F H0 H : Hp) : List M → List V → List Addr → Prop
  | [], vs, fp => vs = [] ∧ fp = []
  | m :: ms, vs, fp => ∃ v r f g, vs = v :: r ∧ fp = f ++ g ∧ RepM K F H0 H m v f ∧ RepMs K F H0 H ms r g
end
theorem Same.sqT {K : PySem.W.Frag} {H H' : Hp} {a : Addr} {xs : List V} (e : Same H H') (h : SqT K H a xs) : SqT K H' a xs := by
  rcases h with (h | ⟨o, h⟩) | h
  · exact .inl (.inl (e _ _ h))
  · exact .inl (.inr ⟨o, e _ _ h⟩)
  · exact .inr h
section
variable {K : PySem.W.Frag} {F F' H H' H0 : Hp}
mutual
theorem RepD.mono (s : Same F F') : ∀ {x : D} {v : V}, RepD K F x v → RepD K F' x v
  | .non, _, h => h
  | .bl _, _, h => h
  | .int _, _, h => h
  | .str _, _, h => h
  | .tup l, v, h => by
    unfold RepD at h ⊢
    obtain ⟨a, vs, e, q, r⟩ := h
    exact ⟨a, vs, e, q.same s, RepDs.mono s r⟩
  | .lst l, v, h => by
    unfold RepD at h ⊢
    obtain ⟨a, vs, e, q, r⟩ := h
    exact ⟨a, vs, e, s _ _ q, RepDs.mono s r⟩
  | .scr l, v, h => by
    unfold RepD at h ⊢
    obtain ⟨a, vs, e, q, r⟩ := h
    exact ⟨a, vs, e, s.seq q, RepDs.mono s r⟩
  | .exc c ks l, v, h => by
    unfold RepD at h ⊢
    obtain ⟨a, d, e, q, r⟩ := h
    refine ⟨a, d, e, s _ _ q, r.elim .inl fun ⟨dd, kvs, e1, e2, e3, e4⟩ => .inr ⟨dd, kvs, e1, s _ _ e2, e3, RepDs.mono s e4⟩⟩
  | .dct ks l, v, h => by
    unfold RepD at h ⊢
    obtain ⟨a, od, kvs, e, q, e2, r⟩ := h
    exact ⟨a, od, kvs, e, s _ _ q, e2, RepDs.mono s r⟩
  | .fn _, _, h => h
  | .obj c fs l, v, h => by
    unfold RepD at h ⊢
    obtain ⟨a, dx, kvs, e, q, e2, r⟩ := h
    exact ⟨a, dx, kvs, e, s _ _ q, e2, RepDs.mono s r⟩
theorem RepDs.mono (s : Same F F') : ∀ {x : List D} {v : List V}, RepDs K F x v → RepDs K F' x v
  | [], _, h => h
  | x :: xs, v, h => by
    unfold RepDs at h ⊢
    obtain ⟨u, r, e, q, z⟩ := h
    exact ⟨u, r, e, RepD.mono s q, RepDs.mono s z⟩
end
theorem RepDs.length : ∀ {x : List D} {v : List V}, RepDs K F x v → x.length = v.length
  | [], _, h => by unfold RepDs at h; subst h; rfl
  | x :: xs, v, h => by
    unfold RepDs at h
    obtain ⟨u, r, rfl, q, z⟩ := h
    simp [RepDs.length z]
theorem RepDs.get : ∀ {x : List D} {v : List V} {i : Nat} {y : D}, RepDs K F x v → x[i]? = some y → ∃ u, v[i]? = some u ∧ RepD K F y u
  | [], _, _, _, _, e => by simp at e
  | x :: xs, v, 0, y, h, e => by
    unfold RepDs at h
    obtain ⟨u, r, rfl, q, z⟩ := h
    simp at e; subst e
    exact ⟨u, rfl, q⟩
  | x :: xs, v, i + 1, y, h, e => by
    unfold RepDs at h
    obtain ⟨u, r, rfl, q, z⟩ := h
    obtain ⟨w, h1, h2⟩ := RepDs.get (i := i) z (by simpa using e)
    exact ⟨w, by simpa using h1, h2⟩
theorem RepDs.nil : RepDs K F [] [] := by unfold RepDs; rfl
theorem RepDs.cons {x : D} {v : V} {xs : List D} {vs : List V} (h : RepD K F x v) (t : RepDs K F xs vs) : RepDs K F (x :: xs) (v :: vs) := by
  unfold RepDs; exact ⟨v, vs, rfl, h, t⟩
theorem RepDs.append : ∀ {x y : List D} {v u : List V}, RepDs K F x v → RepDs K F y u → RepDs K F (x ++ y) (v ++ u)
  | [], _, v, _, h, h' => by unfold RepDs at h; subst h; exact h'
  | x :: xs, y, v, u, h, h' => by
    unfold RepDs at h
    obtain ⟨w, r, rfl, q, z⟩ := h
    exact .cons q (RepDs.append z h')
theorem RepDs.set {y : D} {u : V} (r : RepD K F y u) : ∀ {x : List D} {v : List V} (i : Nat), RepDs K F x v → RepDs K F (x.set i y) (v.set i u)
  | [], v, i, h => by unfold RepDs at h; subst h; simp [RepDs.nil]
  | x :: xs, v, 0, h => by
    unfold RepDs at h
    obtain ⟨w, s, rfl, q, z⟩ := h
    exact .cons r z
  | x :: xs, v, i + 1, h => by
    unfold RepDs at h
    obtain ⟨w, s, rfl, q, z⟩ := h
    exact .cons q (RepDs.set r i z)
theorem RepDs.take : ∀ {x : List D} {v : List V} (n : Nat), RepDs K F x v → RepDs K F (x.take n) (v.take n)
  | _, _, 0, _ => by simp [RepDs.nil]
  | [], v, n + 1, h => by unfold RepDs at h; subst h; simp [RepDs.nil]
  | x :: xs, v, n + 1, h => by
    unfold RepDs at h
    obtain ⟨w, s, rfl, q, z⟩ := h
    exact .cons q (RepDs.take n z)
theorem RepDs.drop : ∀ {x : List D} {v : List V} (n : Nat), RepDs K F x v → RepDs K F (x.drop n) (v.drop n)
  | _, _, 0, h => by simpa using h
  | [], v, n + 1, h => by unfold RepDs at h; subst h; simp [RepDs.nil]
  | x :: xs, v, n + 1, h => by
    unfold RepDs at h
    obtain ⟨w, s, rfl, q, z⟩ := h
    exact RepDs.drop n z
theorem RepDs.eraseIdx {x : List D} {v : List V} (i : Nat) (h : RepDs K F x v) : RepDs K F (x.eraseIdx i) (v.eraseIdx i) := by
  rw [List.eraseIdx_eq_take_drop_succ, List.eraseIdx_eq_take_drop_succ]
  exact (h.take i).append (h.drop (i + 1))
theorem RepDs.dropLast {x : List D} {v : List V} (h : RepDs K F x v) : RepDs K F x.dropLast v.dropLast := by
  rw [List.dropLast_eq_take, List.dropLast_eq_take, h.length]
  exact h.take _
theorem RepDs.reverse : ∀ {x : List D} {v : List V}, RepDs K F x v → RepDs K F x.reverse v.reverse
  | [], v, h => by unfold RepDs at h; subst h; simp [RepDs.nil]
  | x :: xs, v, h => by
    unfold RepDs at h
    obtain ⟨w, s, rfl, q, z⟩ := h
    rw [List.reverse_cons, List.reverse_cons]
    exact (RepDs.reverse z).append (.cons q .nil)
/-- what is kept when the heaps grow and what is one's own stays -/
structure Gr (F H F' H' : Hp) (fp : List Addr) : Prop where
  f : Same F F'
  h : Same H H'
  n : ∀ a ∈ fp, F' a = none
theorem At.mono {k : Md} {a : Addr} {o : HO} {fp f : List Addr} (g : Gr F H F' H' fp) (x : At F H0 H k a o fp f) : At F' H0 H' k a o fp f := by
  cases k with
  | o =>
    obtain ⟨e, h1, h2, h3⟩ := x
    exact ⟨e, g.h _ _ h1, g.n a (by rw [e]; exact List.mem_cons_self), h3⟩
  | r => exact ⟨x.1, g.h _ _ x.2⟩
  | p => exact x
theorem At.sub {k : Md} {a : Addr} {o : HO} {fp f : List Addr} (x : At F H0 H k a o fp f) : ∀ b ∈ f, b ∈ fp := by
  cases k with
  | o => obtain ⟨e, _⟩ := x; subst e; exact fun b hb => List.mem_cons_of_mem _ hb
  | r => obtain ⟨e, _⟩ := x; subst e; exact fun b hb => hb
  | p => obtain ⟨e, _⟩ := x; subst e; exact fun b hb => hb
theorem Gr.sub {fp f : List Addr} (g : Gr F H F' H' fp) (h : ∀ b ∈ f, b ∈ fp) : Gr F H F' H' f := ⟨g.f, g.h, fun a ha => g.n a (h a ha)⟩
mutual
theorem RepM.mono : ∀ {m : M} {v : V} {fp : List Addr}, Gr F H F' H' fp → RepM K F H0 H m v fp → RepM K F' H0 H' m v fp
  | .d x, v, fp, g, h => by
    unfold RepM at h ⊢
    exact ⟨h.1, h.2.mono g.f⟩
  | .fl k l, v, fp, g, h => by
    unfold RepM at h ⊢
    obtain ⟨a, vs, e, q, r⟩ := h
    exact ⟨a, vs, e, q.mono g, r.mono g.f⟩
  | .fd k l, v, fp, g, h => by
    unfold RepM at h ⊢
    obtain ⟨a, vs, e, q, e2, r⟩ := h
    exact ⟨a, vs, e, q.mono g, e2, r.mono g.f⟩
  | .ml k l, v, fp, g, h => by
    unfold RepM at h ⊢
    obtain ⟨a, vs, f, e, q, r⟩ := h
    exact ⟨a, vs, f, e, q.mono g, RepMs.mono (g.sub q.sub) r⟩
  | .md k ks l, v, fp, g, h => by
    unfold RepM at h ⊢
    obtain ⟨a, vs, f, e, q, e2, r⟩ := h
    exact ⟨a, vs, f, e, q.mono g, e2, RepMs.mono (g.sub q.sub) r⟩
  | .mt l, v, fp, g, h => by
    unfold RepM at h ⊢
    obtain ⟨a, vs, e, q, r⟩ := h
    exact ⟨a, vs, e, q.same g.f, RepMs.mono g r⟩
  | .ob a k c fs l, v, fp, g, h => by
    unfold RepM at h ⊢
    obtain ⟨dx, kvs, f, e, q, e2, r⟩ := h
    exact ⟨dx, kvs, f, e, q.mono g, e2, RepMs.mono (g.sub q.sub) r⟩
  | .pk m m0, v, fp, g, h => by
    unfold RepM at h ⊢
    obtain ⟨f, f', u, e, q, z⟩ := h
    subst e
    exact ⟨f, f', u, rfl, RepM.mono (g.sub fun b hb => List.mem_append_left _ hb) q, RepM.mono (g.sub fun b hb => List.mem_append_right _ hb) z⟩
theorem RepMs.mono : ∀ {m : List M} {v : List V} {fp : List Addr}, Gr F H F' H' fp → RepMs K F H0 H m v fp → RepMs K F' H0 H' m v fp
  | [], v, fp, g, h => by
    unfold RepMs at h ⊢
    exact h
  | m :: ms, v, fp, g, h => by
    unfold RepMs at h ⊢
    obtain ⟨u, r, f, f', e, e2, q, z⟩ := h
    subst e2
    exact ⟨u, r, f, f', e, rfl, RepM.mono (g.sub fun b hb => List.mem_append_left _ hb) q, RepMs.mono (g.sub fun b hb => List.mem_append_right _ hb) z⟩
end
end
end RT
namespace RT
open PySem PySem.Spec PyProof.Rows L2
/-! ### what is one's own -/
section
variable {K : PySem.W.Frag} {F F' F'' H H' H'' H0 : Hp}
def OwnA (F H0 H : Hp) (a : Addr) : Prop := F a = none ∧ (∃ o, H a = some o) ∧ H0 a = none
theorem At.own {k : Md} {a : Addr} {o : HO} {fp f : List Addr} (x : At F H0 H k a o fp f) (hf : ∀ b ∈ f, OwnA F H0 H b) : ∀ b ∈ fp, OwnA F H0 H b := by
  cases k with
  | o =>
    obtain ⟨e, h1, h2, h3⟩ := x
    subst e
    intro b hb
    rcases List.mem_cons.mp hb with rfl | hb
    · exact ⟨h2, ⟨_, h1⟩, h3⟩
    · exact hf b hb
  | r => obtain ⟨e, _⟩ := x; subst e; exact hf
  | p => obtain ⟨e, _⟩ := x; subst e; exact hf
mutual
theorem RepM.own : ∀ {m : M} {v : V} {fp : List Addr}, RepM K F H0 H m v fp → ∀ a ∈ fp, OwnA F H0 H a
  | .d x, v, fp, h => by
    unfold RepM at h
    rw [h.1]; intro a ha; cases ha
  | .fl k l, v, fp, h => by
    unfold RepM at h
    obtain ⟨a, vs, e, q, r⟩ := h
    exact q.own fun b hb => nomatch hb
  | .fd k l, v, fp, h => by
    unfold RepM at h
    obtain ⟨a, vs, e, q, r⟩ := h
    exact q.own fun b hb => nomatch hb
  | .ml k l, v, fp, h => by
    unfold RepM at h
    obtain ⟨a, vs, f, e, q, r⟩ := h
    exact q.own (RepMs.own r)
  | .md k ks l, v, fp, h => by
    unfold RepM at h
    obtain ⟨a, vs, f, e, q, e2, r⟩ := h
    exact q.own (RepMs.own r)
  | .mt l, v, fp, h => by
    unfold RepM at h
    obtain ⟨a, vs, e, q, r⟩ := h
    exact RepMs.own r
  | .ob a k c fs l, v, fp, h => by
    unfold RepM at h
    obtain ⟨dx, kvs, f, e, q, e2, r⟩ := h
    exact q.own (RepMs.own r)
  | .pk m m0, v, fp, h => by
    unfold RepM at h
    obtain ⟨f, f', u, e, q, z⟩ := h
    subst e
    intro a ha
    rcases List.mem_append.mp ha with ha | ha
    · exact RepM.own q a ha
    · exact RepM.own z a ha
theorem RepMs.own : ∀ {m : List M} {v : List V} {fp : List Addr}, RepMs K F H0 H m v fp → ∀ a ∈ fp, OwnA F H0 H a
  | [], v, fp, h => by
    unfold RepMs at h
    rw [h.2]; intro a ha; cases ha
  | m :: ms, v, fp, h => by
    unfold RepMs at h
    obtain ⟨u, r, f, f', e, e2, q, z⟩ := h
    subst e2
    intro a ha
    rcases List.mem_append.mp ha with ha | ha
    · exact RepM.own q a ha
    · exact RepMs.own z a ha
end
/-! ### to be read only -/
mutual
def M.lock : M → M
  | .d x => .d x
  | .fl k l => .fl k.lk l
  | .fd k l => .fd k.lk l
  | .ml k l => .ml k.lk (M.locks l)
  | .md k ks l => .md k.lk ks (M.locks l)
  | .mt l => .mt (M.locks l)
  | .ob a k c fs l => .ob a k.lk c fs (M.locks l)
  | .pk m m0 => .pk m.lock m0.lock
def M.locks : List M → List M
  | [] => []
  | m :: ms => m.lock :: M.locks ms
end
theorem At.lock {k : Md} {a : Addr} {o : HO} {fp f : List Addr} (x : At F H0 H k a o fp f) : At F H0 H k.lk a o [] [] := by
  cases k with
  | o => exact ⟨rfl, x.2.1⟩
  | r => exact ⟨rfl, x.2⟩
  | p => exact ⟨rfl, x.2⟩
mutual
theorem RepM.lock : ∀ {m : M} {v : V} {fp : List Addr}, RepM K F H0 H m v fp → RepM K F H0 H m.lock v []
  | .d x, v, fp, h => by
    unfold RepM at h; unfold M.lock RepM
    exact ⟨rfl, h.2⟩
  | .fl k l, v, fp, h => by
    unfold RepM at h; unfold M.lock RepM
    obtain ⟨a, vs, e, q, r⟩ := h
    exact ⟨a, vs, e, q.lock, r⟩
  | .fd k l, v, fp, h => by
    unfold RepM at h; unfold M.lock RepM
    obtain ⟨a, vs, e, q, r⟩ := h
    exact ⟨a, vs, e, q.lock, r⟩
  | .ml k l, v, fp, h => by
    unfold RepM at h; unfold M.lock RepM
    obtain ⟨a, vs, f, e, q, r⟩ := h
    exact ⟨a, vs, [], e, q.lock, RepMs.lock r⟩
  | .md k ks l, v, fp, h => by
    unfold RepM at h; unfold M.lock RepM
    obtain ⟨a, vs, f, e, q, e2, r⟩ := h
    exact ⟨a, vs, [], e, q.lock, e2, RepMs.lock r⟩
  | .mt l, v, fp, h => by
    unfold RepM at h; unfold M.lock RepM
    obtain ⟨a, vs, e, q, r⟩ := h
    exact ⟨a, vs, e, q, RepMs.lock r⟩
  | .ob a k c fs l, v, fp, h => by
    unfold RepM at h; unfold M.lock RepM
    obtain ⟨dx, kvs, f, e, q, e2, r⟩ := h
    exact ⟨dx, kvs, [], e, q.lock, e2, RepMs.lock r⟩
  | .pk m m0, v, fp, h => by
    unfold RepM at h; unfold M.lock RepM
    obtain ⟨f, f', u, e, q, z⟩ := h
    exact ⟨[], [], u, rfl, RepM.lock q, RepM.lock z⟩
theorem RepMs.lock : ∀ {m : List M} {v : List V} {fp : List Addr}, RepMs K F H0 H m v fp → RepMs K F H0 H (M.locks m) v []
  | [], v, fp, h => by
    unfold RepMs at h; unfold M.locks RepMs
    exact ⟨h.1, rfl⟩
  | m :: ms, v, fp, h => by
    unfold RepMs at h; unfold M.locks RepMs
    obtain ⟨u, r, f, f', e, e2, q, z⟩ := h
    exact ⟨u, r, [], [], e, rfl, RepM.lock q, RepMs.lock z⟩
end
/-! ### handed to a callee: all is the caller's -/
mutual
def M.toP : M → M
  | .d x => .d x
  | .fl _ l => .fl .p l
  | .fd _ l => .fd .p l
  | .ml _ l => .ml .p (M.toPs l)
  | .md _ ks l => .md .p ks (M.toPs l)
  | .mt l => .mt (M.toPs l)
  | .ob a _ c fs l => .ob a .p c fs (M.toPs l)
  | .pk m m0 => .pk m.toP m0.toP
def M.toPs : List M → List M
  | [] => []
  | m :: ms => m.toP :: M.toPs ms
end
theorem At.toP {k : Md} {a : Addr} {o : HO} {fp f : List Addr} (z : Same H0 H) (x : At F H0 H k a o fp f) : At F H H .p a o [] [] := by
  cases k with
  | o => exact ⟨rfl, x.2.1⟩
  | r => exact ⟨rfl, x.2⟩
  | p => exact ⟨rfl, z _ _ x.2⟩
mutual
theorem RepM.toP (z : Same H0 H) : ∀ {m : M} {v : V} {fp : List Addr}, RepM K F H0 H m v fp → RepM K F H H m.toP v []
  | .d x, v, fp, h => by
    unfold RepM at h; unfold M.toP RepM
    exact ⟨rfl, h.2⟩
  | .fl k l, v, fp, h => by
    unfold RepM at h; unfold M.toP RepM
    obtain ⟨a, vs, e, q, r⟩ := h
    exact ⟨a, vs, e, q.toP z, r⟩
  | .fd k l, v, fp, h => by
    unfold RepM at h; unfold M.toP RepM
    obtain ⟨a, vs, e, q, r⟩ := h
    exact ⟨a, vs, e, q.toP z, r⟩
  | .ml k l, v, fp, h => by
    unfold RepM at h; unfold M.toP RepM
    obtain ⟨a, vs, f, e, q, r⟩ := h
    exact ⟨a, vs, [], e, q.toP z, RepMs.toP z r⟩
  | .md k ks l, v, fp, h => by
    unfold RepM at h; unfold M.toP RepM
    obtain ⟨a, vs, f, e, q, e2, r⟩ := h
    exact ⟨a, vs, [], e, q.toP z, e2, RepMs.toP z r⟩
  | .mt l, v, fp, h => by
    unfold RepM at h; unfold M.toP RepM
    obtain ⟨a, vs, e, q, r⟩ := h
    exact ⟨a, vs, e, q, RepMs.toP z r⟩
  | .ob a k c fs l, v, fp, h => by
    unfold RepM at h; unfold M.toP RepM
    obtain ⟨dx, kvs, f, e, q, e2, r⟩ := h
    exact ⟨dx, kvs, [], e, q.toP z, e2, RepMs.toP z r⟩
  | .pk m m0, v, fp, h => by
    unfold RepM at h; unfold M.toP RepM
    obtain ⟨f, f', u, e, q, y⟩ := h
    exact ⟨[], [], u, rfl, RepM.toP z q, RepM.toP z y⟩
theorem RepMs.toP (z : Same H0 H) : ∀ {m : List M} {v : List V} {fp : List Addr}, RepMs K F H0 H m v fp → RepMs K F H H (M.toPs m) v []
  | [], v, fp, h => by
    unfold RepMs at h; unfold M.toPs RepMs
    exact ⟨h.1, rfl⟩
  | m :: ms, v, fp, h => by
    unfold RepMs at h; unfold M.toPs RepMs
    obtain ⟨u, r, f, f', e, e2, q, y⟩ := h
    exact ⟨u, r, [], [], e, rfl, RepM.toP z q, RepMs.toP z y⟩
end
/-! ### what may be kept in a slot: nothing that is read in passing -/
def Md.sto : Md → Bool
  | .r => false
  | _ => true
mutual
def M.sto : M → Bool
  | .d _ => true
  | .fl k _ => k.sto
  | .fd k _ => k.sto
  | .ml k l => k.sto && M.stos l
  | .md k _ l => k.sto && M.stos l
  | .mt l => M.stos l
  | .ob _ k _ _ l => k.sto && M.stos l
  | .pk m m0 => m.sto && m0.sto
def M.stos : List M → Bool
  | [] => true
  | m :: ms => m.sto && M.stos ms
end
/-- all of it is one's own or pure -/
def Md.isO : Md → Bool
  | .o => true
  | _ => false
mutual
def M.ret : M → Bool
  | .d _ => true
  | .fl k _ => k.isO
  | .fd k _ => k.isO
  | .ml k l => k.isO && M.rets l
  | .md k _ l => k.isO && M.rets l
  | .mt l => M.rets l
  | .ob _ k _ _ l => k.isO && M.rets l
  | .pk m m0 => m.ret && m0.ret
def M.rets : List M → Bool
  | [] => true
  | m :: ms => m.ret && M.rets ms
end
/-- .. it is borne whatever stood at the entry before -/
theorem At.re {k : Md} {a : Addr} {o : HO} {fp f : List Addr} {H1 : Hp} (hk : k.isO = true) (hn : ∀ b ∈ fp, H1 b = none) (x : At F H0 H k a o fp f) : At F H1 H k a o fp f := by
  cases k with
  | o =>
    obtain ⟨e, h1, h2, h3⟩ := x
    exact ⟨e, h1, h2, hn a (by rw [e]; exact List.mem_cons_self)⟩
  | r => cases hk
  | p => cases hk
mutual
theorem RepM.re {H1 : Hp} : ∀ {m : M} {v : V} {fp : List Addr}, m.ret = true → (∀ b ∈ fp, H1 b = none) → RepM K F H0 H m v fp → RepM K F H1 H m v fp
  | .d x, v, fp, hr, hn, h => by unfold RepM at h ⊢; exact h
  | .fl k l, v, fp, hr, hn, h => by
    unfold M.ret at hr
    unfold RepM at h ⊢
    obtain ⟨a, vs, e, q, r⟩ := h
    exact ⟨a, vs, e, q.re hr hn, r⟩
  | .fd k l, v, fp, hr, hn, h => by
    unfold M.ret at hr
    unfold RepM at h ⊢
    obtain ⟨a, vs, e, q, r⟩ := h
    exact ⟨a, vs, e, q.re hr hn, r⟩
  | .ml k l, v, fp, hr, hn, h => by
    unfold M.ret at hr
    rw [Bool.and_eq_true] at hr
    unfold RepM at h ⊢
    obtain ⟨a, vs, f, e, q, r⟩ := h
    exact ⟨a, vs, f, e, q.re hr.1 hn, RepMs.re hr.2 (fun b hb => hn b (q.sub b hb)) r⟩
  | .md k ks l, v, fp, hr, hn, h => by
    unfold M.ret at hr
    rw [Bool.and_eq_true] at hr
    unfold RepM at h ⊢
    obtain ⟨a, vs, f, e, q, e2, r⟩ := h
    exact ⟨a, vs, f, e, q.re hr.1 hn, e2, RepMs.re hr.2 (fun b hb => hn b (q.sub b hb)) r⟩
  | .mt l, v, fp, hr, hn, h => by
    unfold M.ret at hr
    unfold RepM at h ⊢
    obtain ⟨a, vs, e, q, r⟩ := h
    exact ⟨a, vs, e, q, RepMs.re hr hn r⟩
  | .ob a k c fs l, v, fp, hr, hn, h => by
    unfold M.ret at hr
    rw [Bool.and_eq_true] at hr
    unfold RepM at h ⊢
    obtain ⟨dx, kvs, f, e, q, e2, r⟩ := h
    exact ⟨dx, kvs, f, e, q.re hr.1 hn, e2, RepMs.re hr.2 (fun b hb => hn b (q.sub b hb)) r⟩
  | .pk m m0, v, fp, hr, hn, h => by
    unfold M.ret at hr
    rw [Bool.and_eq_true] at hr
    unfold RepM at h ⊢
    obtain ⟨f, f', u, e, q, z⟩ := h
    subst e
    exact ⟨f, f', u, rfl, RepM.re hr.1 (fun b hb => hn b (List.mem_append_left _ hb)) q, RepM.re hr.2 (fun b hb => hn b (List.mem_append_right _ hb)) z⟩
theorem RepMs.re {H1 : Hp} : ∀ {m : List M} {v : List V} {fp : List Addr}, M.rets m = true → (∀ b ∈ fp, H1 b = none) → RepMs K F H0 H m v fp → RepMs K F H1 H m v fp
  | [], v, fp, hr, hn, h => by unfold RepMs at h ⊢; exact h
  | m :: ms, v, fp, hr, hn, h => by
    unfold M.rets at hr
    rw [Bool.and_eq_true] at hr
    unfold RepMs at h ⊢
    obtain ⟨u, r, f, f', e, e2, q, z⟩ := h
    subst e2
    exact ⟨u, r, f, f', e, rfl, RepM.re hr.1 (fun b hb => hn b (List.mem_append_left _ hb)) q, RepMs.re hr.2 (fun b hb => hn b (List.mem_append_right _ hb)) z⟩
end
theorem M.sto_of_ret : ∀ {m : M}, m.ret = true → m.sto = true := by
  have md : ∀ k : Md, k.isO = true → k.sto = true := fun k h => by cases k <;> first | rfl | cases h
  intro m
  exact M.rec (motive_1 := fun m => m.ret = true → m.sto = true) (motive_2 := fun l => M.rets l = true → M.stos l = true)
    (fun x _ => by unfold M.sto; rfl) (fun k l h => by unfold M.ret at h; unfold M.sto; exact md k h) (fun k l h => by unfold M.ret at h; unfold M.sto; exact md k h)
    (fun k l ih h => by unfold M.ret at h; unfold M.sto; rw [Bool.and_eq_true] at h ⊢; exact ⟨md k h.1, ih h.2⟩)
    (fun k ks l ih h => by unfold M.ret at h; unfold M.sto; rw [Bool.and_eq_true] at h ⊢; exact ⟨md k h.1, ih h.2⟩)
    (fun l ih h => by unfold M.ret at h; unfold M.sto; exact ih h)
    (fun a k c fs l ih h => by unfold M.ret at h; unfold M.sto; rw [Bool.and_eq_true] at h ⊢; exact ⟨md k h.1, ih h.2⟩)
    (fun m m0 h1 h2 h => by unfold M.ret at h; unfold M.sto; rw [Bool.and_eq_true] at h ⊢; exact ⟨h1 h.1, h2 h.2⟩) (by intro _; unfold M.stos; rfl)
    (fun m l h1 h2 h => by unfold M.rets at h; unfold M.stos; rw [Bool.and_eq_true] at h ⊢; exact ⟨h1 h.1, h2 h.2⟩) m
/-! ### frozen -/
mutual
def M.frz : M → Option D
  | .d x => some x
  | .fl .o l => some (.lst l)
  | .ml .o l => (M.frzs l).map .lst
  | .mt l => (M.frzs l).map .tup
  | .ob _ .o c fs l => (M.frzs l).map (.obj c fs)
  | _ => none
def M.frzs : List M → Option (List D)
  | [] => some []
  | m :: ms => match m.frz, M.frzs ms with
    | some x, some xs => some (x :: xs)
    | _, _ => none
end
/-- F grows by what is one's own at fp -/
def Frz (F F' H : Hp) (fp : List Addr) : Prop := Same F F' ∧ ∀ a ∈ fp, F' a = H a
theorem Frz.sub {fp f : List Addr} (z : Frz F F' H fp) (h : ∀ b ∈ f, b ∈ fp) : Frz F F' H f := ⟨z.1, fun a ha => z.2 a (h a ha)⟩
mutual
theorem RepM.frz : ∀ {m : M} {v : V} {fp : List Addr} {x : D}, Frz F F' H fp → m.frz = some x → RepM K F H0 H m v fp → RepD K F' x v
  | .d y, v, fp, x, z, e, h => by
    unfold M.frz at e; cases e
    unfold RepM at h
    exact h.2.mono z.1
  | .fl k l, v, fp, x, z, e, h => by
    cases k with
    | o =>
      unfold M.frz at e; cases e
      unfold RepM at h; unfold RepD
      obtain ⟨a, vs, e, ⟨e1, h1, h2, h3⟩, r⟩ := h
      refine ⟨a, vs, e, ?_, r.mono z.1⟩
      rw [z.2 a (by rw [e1]; exact List.mem_cons_self), h1]
    | r => unfold M.frz at e; cases e
    | p => unfold M.frz at e; cases e
  | .fd k l, v, fp, x, z, e, h => by unfold M.frz at e; cases e
  | .ml k l, v, fp, x, z, e, h => by
    cases k with
    | o =>
      unfold M.frz at e
      cases q : M.frzs l with
      | none => rw [q] at e; cases e
      | some xs =>
        rw [q] at e; cases e
        unfold RepM at h; unfold RepD
        obtain ⟨a, vs, f, e, ⟨e1, h1, h2, h3⟩, r⟩ := h
        refine ⟨a, vs, e, ?_, RepMs.frz (z.sub fun b hb => by rw [e1]; exact List.mem_cons_of_mem _ hb) q r⟩
        rw [z.2 a (by rw [e1]; exact List.mem_cons_self), h1]
    | r => unfold M.frz at e; cases e
    | p => unfold M.frz at e; cases e
  | .md k ks l, v, fp, x, z, e, h => by unfold M.frz at e; cases e
  | .ob a k c fs l, v, fp, x, z, e, h => by
    cases k with
    | o =>
      unfold M.frz at e
      cases q : M.frzs l with
      | none => rw [q] at e; cases e
      | some xs =>
        rw [q] at e; cases e
        unfold RepM at h; unfold RepD
        obtain ⟨dx, kvs, f, e, ⟨e1, h1, h2, h3⟩, e2, r⟩ := h
        refine ⟨a, dx, kvs, e, ?_, e2, RepMs.frz (z.sub fun b hb => by rw [e1]; exact List.mem_cons_of_mem _ hb) q r⟩
        rw [z.2 a (by rw [e1]; exact List.mem_cons_self), h1]
    | r => unfold M.frz at e; cases e
    | p => unfold M.frz at e; cases e
  | .pk m m0, v, fp, x, z, e, h => by unfold M.frz at e; cases e
  | .mt l, v, fp, x, z, e, h => by
    unfold M.frz at e
    cases q : M.frzs l with
    | none => rw [q] at e; cases e
    | some xs =>
      rw [q] at e; cases e
      unfold RepM at h; unfold RepD
      obtain ⟨a, vs, e, p, r⟩ := h
      exact ⟨a, vs, e, p.same z.1, RepMs.frz z q r⟩
theorem RepMs.frz : ∀ {m : List M} {v : List V} {fp : List Addr} {x : List D}, Frz F F' H fp → M.frzs m = some x → RepMs K F H0 H m v fp → RepDs K F' x v
  | [], v, fp, x, z, e, h => by
    unfold M.frzs at e; cases e
    unfold RepMs at h; unfold RepDs
    exact h.1
  | m :: ms, v, fp, x, z, e, h => by
    unfold M.frzs at e
    unfold RepMs at h
    obtain ⟨u, r, f, f', e1, e2, q, y⟩ := h
    subst e2
    cases q1 : m.frz with
    | none => rw [q1] at e; cases e
    | some x1 =>
      cases q2 : M.frzs ms with
      | none => rw [q1, q2] at e; cases e
      | some xs =>
        rw [q1, q2] at e; cases e
        rw [e1]
        exact .cons (RepM.frz (z.sub fun b hb => List.mem_append_left _ hb) q1 q) (RepMs.frz (z.sub fun b hb => List.mem_append_right _ hb) q2 y)
end
/-! ### heaps that grow -/
structure Ext (F H F' H' : Hp) : Prop where
  h : Same H H'
  f : Same F F'
  s : Same F' H'
  n : ∀ a o, F' a = some o → F a = some o ∨ H a = none
theorem Ext.refl (s : Same F H) : Ext F H F H := ⟨.refl _, .refl _, s, fun _ _ e => .inl e⟩
theorem Ext.trans (x : Ext F H F' H') (y : Ext F' H' F'' H'') : Ext F H F'' H'' :=
  ⟨x.h.trans y.h, x.f.trans y.f, y.s, fun a o e => by
    rcases y.n a o e with e | e
    · exact x.n a o e
    · exact .inr (x.h.free e)⟩
theorem Ext.gr {fp : List Addr} (x : Ext F H F' H') (ho : ∀ a ∈ fp, OwnA F H0 H a) : Gr F H F' H' fp :=
  ⟨x.f, x.h, fun a ha => by
    obtain ⟨h1, ⟨o, h2⟩, _⟩ := ho a ha
    cases q : F' a with
    | none => rfl
    | some u =>
      rcases x.n a u q with e | e
      · rw [h1] at e; cases e
      · rw [h2] at e; cases e⟩
theorem RepM.ext {m : M} {v : V} {fp : List Addr} (x : Ext F H F' H') (h : RepM K F H0 H m v fp) : RepM K F' H0 H' m v fp := h.mono (x.gr h.own)
theorem RepMs.ext {m : List M} {v : List V} {fp : List Addr} (x : Ext F H F' H') (h : RepMs K F H0 H m v fp) : RepMs K F' H0 H' m v fp := h.mono (x.gr h.own)
/-- a new pure object -/
theorem Ext.pure {p : Addr} {o : HO} (s : Same F H) (hp : H p = none) : Ext F H (upd F p o) (upd H p o) where
  h := fun b u e => by rw [upd_ne (ne_of_none e hp)]; exact e
  f := fun b u e => by rw [upd_ne (ne_of_none (s _ _ e) hp)]; exact e
  s := fun b u e => by
    by_cases h : b = p
    · subst h; rw [upd_same] at e ⊢; exact e
    · rw [upd_ne h] at e ⊢; exact s _ _ e
  n := fun b u e => by
    by_cases h : b = p
    · subst h; exact .inr hp
    · rw [upd_ne h] at e; exact .inl e
/-- a new object of one's own -/
theorem Ext.mine {p : Addr} {o : HO} (s : Same F H) (hp : H p = none) : Ext F H F (upd H p o) where
  h := fun b u e => by rw [upd_ne (ne_of_none e hp)]; exact e
  f := .refl _
  s := fun b u e => by rw [upd_ne (ne_of_none (s _ _ e) hp)]; exact s _ _ e
  n := fun b u e => .inl e
end
end RT
namespace RT
open PySem PySem.Spec PyProof.Rows L2
section
variable {K : PySem.W.Frag} {F F' F'' H H' H'' H0 F0 : Hp}
theorem At.keep {k : Md} {a : Addr} {o : HO} {fp f : List Addr} (hk : k.sto = true) (g : ∀ b ∈ fp, H' b = H b) (x : At F H0 H k a o fp f) : At F H0 H' k a o fp f := by
  cases k with
  | o =>
    obtain ⟨e, h1, h2, h3⟩ := x
    exact ⟨e, (g a (by rw [e]; exact List.mem_cons_self)).trans h1, h2, h3⟩
  | r => cases hk
  | p => exact x
mutual
theorem RepM.keep : ∀ {m : M} {v : V} {fp : List Addr}, m.sto = true → (∀ b ∈ fp, H' b = H b) → RepM K F H0 H m v fp → RepM K F H0 H' m v fp
  | .d x, v, fp, hs, g, h => by unfold RepM at h ⊢; exact h
  | .fl k l, v, fp, hs, g, h => by
    unfold M.sto at hs
    unfold RepM at h ⊢
    obtain ⟨a, vs, e, q, r⟩ := h
    exact ⟨a, vs, e, q.keep hs g, r⟩
  | .fd k l, v, fp, hs, g, h => by
    unfold M.sto at hs
    unfold RepM at h ⊢
    obtain ⟨a, vs, e, q, e2, r⟩ := h
    exact ⟨a, vs, e, q.keep hs g, e2, r⟩
  | .ml k l, v, fp, hs, g, h => by
    unfold M.sto at hs
    rw [Bool.and_eq_true] at hs
    unfold RepM at h ⊢
    obtain ⟨a, vs, f, e, q, r⟩ := h
    exact ⟨a, vs, f, e, q.keep hs.1 g, RepMs.keep hs.2 (fun b hb => g b (q.sub b hb)) r⟩
  | .md k ks l, v, fp, hs, g, h => by
    unfold M.sto at hs
    rw [Bool.and_eq_true] at hs
    unfold RepM at h ⊢
    obtain ⟨a, vs, f, e, q, e2, r⟩ := h
    exact ⟨a, vs, f, e, q.keep hs.1 g, e2, RepMs.keep hs.2 (fun b hb => g b (q.sub b hb)) r⟩
  | .mt l, v, fp, hs, g, h => by
    unfold M.sto at hs
    unfold RepM at h ⊢
    obtain ⟨a, vs, e, q, r⟩ := h
    exact ⟨a, vs, e, q, RepMs.keep hs g r⟩
  | .ob a k c fs l, v, fp, hs, g, h => by
    unfold M.sto at hs
    rw [Bool.and_eq_true] at hs
    unfold RepM at h ⊢
    obtain ⟨dx, kvs, f, e, q, e2, r⟩ := h
    exact ⟨dx, kvs, f, e, q.keep hs.1 g, e2, RepMs.keep hs.2 (fun b hb => g b (q.sub b hb)) r⟩
  | .pk m m0, v, fp, hs, g, h => by
    unfold M.sto at hs
    rw [Bool.and_eq_true] at hs
    unfold RepM at h ⊢
    obtain ⟨f, f', u, e, q, z⟩ := h
    subst e
    exact ⟨f, f', u, rfl, RepM.keep hs.1 (fun b hb => g b (List.mem_append_left _ hb)) q, RepM.keep hs.2 (fun b hb => g b (List.mem_append_right _ hb)) z⟩
theorem RepMs.keep : ∀ {m : List M} {v : List V} {fp : List Addr}, M.stos m = true → (∀ b ∈ fp, H' b = H b) → RepMs K F H0 H m v fp → RepMs K F H0 H' m v fp
  | [], v, fp, hs, g, h => by unfold RepMs at h ⊢; exact h
  | m :: ms, v, fp, hs, g, h => by
    unfold M.stos at hs
    rw [Bool.and_eq_true] at hs
    unfold RepMs at h ⊢
    obtain ⟨u, r, f, f', e, e2, q, z⟩ := h
    subst e2
    exact ⟨u, r, f, f', e, rfl, RepM.keep hs.1 (fun b hb => g b (List.mem_append_left _ hb)) q, RepMs.keep hs.2 (fun b hb => g b (List.mem_append_right _ hb)) z⟩
end
end
abbrev Sg := List (Option M)
/-- the state's slots and what is held besides (ts), in the heaps F (pure) and H -/
structure Rel (K : PySem.W.Frag) (F0 H0 : Hp) (ρ : Sg) (σ : L2.St) (ts : List M) (tv : List V) (F H : Hp) : Prop where
  e : Ext F0 H0 F H
  len : ρ.length = σ.length
  sl : ∃ (fp : Nat → List Addr) (ft : List Addr), ft.Nodup ∧ (∀ i, (fp i).Nodup) ∧ (∀ i a, a ∈ fp i → OwnA F H0 H a) ∧ (∀ i j a, a ∈ fp i → a ∈ fp j → i = j) ∧ (∀ i a, a ∈ fp i → a ∉ ft) ∧
    RepMs K F H0 H ts tv ft ∧ ∀ i m, ρ[i]? = some (some m) → ∃ v, σ[i]? = some (some v) ∧ m.sto = true ∧ RepM K F H0 H m v (fp i)
section
variable {K : PySem.W.Frag} {F F' F'' H H' H'' H0 F0 : Hp} {ρ : Sg} {σ : L2.St} {ts : List M} {tv : List V} {m : M} {v : V} {fp : List Addr} {i : Nat}
theorem OwnA.ext {a : Addr} (x : Ext F H F' H') (h : OwnA F H0 H a) : OwnA F' H0 H' a := by
  obtain ⟨h1, ⟨o, h2⟩, h3⟩ := h
  refine ⟨?_, ⟨o, x.h _ _ h2⟩, h3⟩
  cases q : F' a with
  | none => rfl
  | some u =>
    rcases x.n a u q with e | e
    · rw [h1] at e; cases e
    · rw [h2] at e; cases e
theorem Rel.ext (r : Rel K F0 H0 ρ σ ts tv F H) (x : Ext F H F' H') : Rel K F0 H0 ρ σ ts tv F' H' := by
  obtain ⟨e, l, fp, ft, n1, n2, ow, dj, dt, rt, sl⟩ := r
  refine ⟨e.trans x, l, fp, ft, n1, n2, fun i a h => (ow i a h).ext x, dj, dt, rt.ext x, fun i m h => ?_⟩
  obtain ⟨v, h1, h2, h3⟩ := sl i m h
  exact ⟨v, h1, h2, h3.ext x⟩
theorem Rel.s (r : Rel K F0 H0 ρ σ ts tv F H) : Same F H := r.e.s
theorem Rel.push (r : Rel K F0 H0 ρ σ ts tv F H) (x : Ext F H F' H') (q : RepM K F' H0 H' m v fp) (hf : ∀ a ∈ fp, H a = none) (hn : fp.Nodup) : Rel K F0 H0 ρ σ (m :: ts) (v :: tv) F' H' := by
  obtain ⟨e, l, fs, ft, n1, n2, ow, dj, dt, rt, sl⟩ := r
  have fresh : ∀ a, OwnA F H0 H a → a ∉ fp := fun a ⟨_, ⟨o, h⟩, _⟩ ha => by rw [hf a ha] at h; cases h
  refine ⟨e.trans x, l, fs, fp ++ ft, ?_, n2, fun i a h => (ow i a h).ext x, dj, fun i a h h' => ?_, ?_, fun i m h => ?_⟩
  · exact List.nodup_append.mpr ⟨hn, n1, fun a ha b hb e => by subst e; exact fresh a (rt.own a hb) ha⟩
  · rcases List.mem_append.mp h' with h' | h'
    · exact fresh a (ow i a h) h'
    · exact dt i a h h'
  · unfold RepMs
    exact ⟨v, tv, fp, ft, rfl, rfl, q, rt.ext x⟩
  · obtain ⟨v, h1, h2, h3⟩ := sl i m h
    exact ⟨v, h1, h2, h3.ext x⟩
theorem Rel.pop (r : Rel K F0 H0 ρ σ (m :: ts) (v :: tv) F H) : Rel K F0 H0 ρ σ ts tv F H := by
  obtain ⟨e, l, fs, ft, n1, n2, ow, dj, dt, rt, sl⟩ := r
  unfold RepMs at rt
  obtain ⟨u, w, f, g, e1, e2, q, z⟩ := rt
  cases e1
  subst e2
  exact ⟨e, l, fs, g, (List.nodup_append.mp n1).2.1, n2, ow, dj, fun i a h h' => dt i a h (List.mem_append_right _ h'), z, sl⟩
/-- what is held goes into a slot -/
theorem Rel.set (r : Rel K F0 H0 ρ σ (m :: ts) (v :: tv) F H) (hs : m.sto = true) (i : Nat) : Rel K F0 H0 (ρ.set i (some m)) (σ.set i (some v)) ts tv F H := by
  obtain ⟨e, l, fs, ft, n1, n2, ow, dj, dt, rt, sl⟩ := r
  unfold RepMs at rt
  obtain ⟨u, w, f, g, e1, e2, q, z⟩ := rt
  cases e1
  subst e2
  obtain ⟨n3, n4, n5⟩ := List.nodup_append.mp n1
  refine ⟨e, by rw [List.length_set, List.length_set, l], fun j => if j = i then f else fs j, g, n4, fun j => ?_, fun j a h => ?_, fun j k a h h' => ?_, fun j a h h' => ?_, z, fun j m' h => ?_⟩
  · dsimp only; split
    · exact n3
    · exact n2 j
  · dsimp only at h; split at h
    · exact q.own a h
    · exact ow j a h
  · dsimp only at h h'
    split at h <;> split at h'
    · rename_i a1 a2; rw [a1, a2]
    · exact absurd (List.mem_append_left _ h) (dt k a h')
    · exact absurd (List.mem_append_left _ h') (dt j a h)
    · exact dj j k a h h'
  · dsimp only at h; split at h
    · exact n5 a h a h' rfl
    · exact dt j a h (List.mem_append_right _ h')
  · dsimp only
    by_cases hj : j = i
    · subst hj
      rw [if_pos rfl]
      by_cases hl : j < ρ.length
      · rw [List.getElem?_set_self hl] at h
        cases h
        exact ⟨v, List.getElem?_set_self (by omega), hs, q⟩
      · rw [List.getElem?_eq_none (by simpa using hl)] at h
        cases h
    · rw [if_neg hj]
      rw [List.getElem?_set_ne (Ne.symm hj)] at h ⊢
      exact sl j m' h
theorem Rel.kill (r : Rel K F0 H0 ρ σ ts tv F H) (i : Nat) (x : Option V) : Rel K F0 H0 (ρ.set i none) (σ.set i x) ts tv F H := by
  obtain ⟨e, l, fs, ft, n1, n2, ow, dj, dt, rt, sl⟩ := r
  refine ⟨e, by rw [List.length_set, List.length_set, l], fs, ft, n1, n2, ow, dj, dt, rt, fun j m' h => ?_⟩
  by_cases hj : j = i
  · subst hj
    by_cases hl : j < ρ.length
    · rw [List.getElem?_set_self hl] at h
      cases h
    · rw [List.getElem?_eq_none (by simpa using hl)] at h
      cases h
  · rw [List.getElem?_set_ne (Ne.symm hj)] at h ⊢
    exact sl j m' h
/-- less is known of the slots -/
theorem Rel.weak (r : Rel K F0 H0 ρ σ ts tv F H) {ρ' : Sg} (hl : ρ'.length = ρ.length) (h : ∀ (i : Nat) (m : M), ρ'[i]? = some (some m) → ρ[i]? = some (some m)) : Rel K F0 H0 ρ' σ ts tv F H := by
  obtain ⟨e, l, fs, ft, n1, n2, ow, dj, dt, rt, sl⟩ := r
  exact ⟨e, hl.trans l, fs, ft, n1, n2, ow, dj, dt, rt, fun i m q => sl i m (h i m q)⟩
theorem Rel.get (r : Rel K F0 H0 ρ σ ts tv F H) (h : ρ[i]? = some (some m)) : ∃ v fp, σ[i]? = some (some v) ∧ m.sto = true ∧ RepM K F H0 H m v fp ∧ fp.Nodup := by
  obtain ⟨e, l, fs, ft, n1, n2, ow, dj, dt, rt, sl⟩ := r
  obtain ⟨v, h1, h2, h3⟩ := sl i m h
  exact ⟨v, fs i, h1, h2, h3, n2 i⟩
/-- a slot's own tree changes in place -/
theorem Rel.upd (r : Rel K F0 H0 ρ σ ts tv F H) (ht : M.stos ts = true) (h : ρ[i]? = some (some m)) : ∃ v fp, σ[i]? = some (some v) ∧ m.sto = true ∧ RepM K F H0 H m v fp ∧ fp.Nodup ∧
    ∀ m' fp' H', RepM K F H0 H' m' v fp' → m'.sto = true → fp'.Nodup → (∀ b o, H b = some o → b ∉ fp → H' b = some o) → (∀ b ∈ fp', b ∈ fp ∨ H b = none) → Rel K F0 H0 (ρ.set i (some m')) σ ts tv F H' := by
  obtain ⟨e, l, fs, ft, n1, n2, ow, dj, dt, rt, sl⟩ := r
  obtain ⟨v, h1, h2, h3⟩ := sl i m h
  refine ⟨v, fs i, h1, h2, h3, n2 i, fun m' fp' H' q qs qn hk hn => ?_⟩
  have kp : ∀ b, (∃ o, H b = some o) → b ∉ fs i → H' b = H b := fun b ⟨o, ho⟩ hb => by rw [ho]; exact hk b o ho hb
  have sF : Same F H' := fun b o hb => hk b o (e.s _ _ hb) fun z => by
    rw [(ow i b z).1] at hb; cases hb
  refine ⟨⟨fun b o hb => hk b o (e.h _ _ hb) fun z => (by rw [(ow i b z).2.2] at hb; cases hb), e.f, sF, e.n⟩, by rw [List.length_set, l],
    fun j => if j = i then fp' else fs j, ft, n1, fun j => ?_, fun j a ha => ?_, fun j k a ha ha' => ?_, fun j a ha ha' => ?_, rt.keep ht fun b hb => kp b (rt.own b hb).2.1 fun z => dt i b z hb, fun j m2 h' => ?_⟩
  · dsimp only; split
    · exact qn
    · exact n2 j
  · dsimp only at ha; split at ha
    · exact q.own a ha
    · rename_i hj
      obtain ⟨x1, ⟨o, x2⟩, x3⟩ := ow j a ha
      exact ⟨x1, ⟨o, hk a o x2 fun z => hj (dj j i a ha z)⟩, x3⟩
  · dsimp only at ha ha'
    split at ha <;> split at ha'
    · rename_i a1 a2; rw [a1, a2]
    · rename_i a1 a2
      rcases hn a ha with z | z
      · exact absurd (dj k i a ha' z) a2
      · obtain ⟨_, ⟨o, x2⟩, _⟩ := ow k a ha'
        rw [z] at x2; cases x2
    · rename_i a1 a2
      rcases hn a ha' with z | z
      · exact absurd (dj j i a ha z) a1
      · obtain ⟨_, ⟨o, x2⟩, _⟩ := ow j a ha
        rw [z] at x2; cases x2
    · exact dj j k a ha ha'
  · dsimp only at ha; split at ha
    · rcases hn a ha with z | z
      · exact dt i a z ha'
      · obtain ⟨_, ⟨o, x2⟩, _⟩ := rt.own a ha'
        rw [z] at x2; cases x2
    · exact dt j a ha ha'
  · dsimp only
    by_cases hj : j = i
    · subst hj
      rw [if_pos rfl]
      by_cases hl : j < ρ.length
      · rw [List.getElem?_set_self hl] at h'
        cases h'
        exact ⟨v, h1, qs, q⟩
      · rw [List.getElem?_eq_none (by simpa using hl)] at h'
        cases h'
    · rw [if_neg hj]
      rw [List.getElem?_set_ne (Ne.symm hj)] at h'
      obtain ⟨v2, y1, y2, y3⟩ := sl j m2 h'
      exact ⟨v2, y1, y2, y3.keep y2 fun b hb => kp b (ow j b hb).2.1 fun z => hj (dj j i b hb z)⟩
/-- F with what stands at fp in H -/
def frzH (F H : Hp) (fp : List Addr) : Hp := fun a => if a ∈ fp then H a else F a
theorem frzH_in {a : Addr} (h : a ∈ fp) : frzH F H fp a = H a := if_pos h
theorem frzH_out {a : Addr} (h : a ∉ fp) : frzH F H fp a = F a := if_neg h
theorem frzH_same (h : ∀ a ∈ fp, F a = none) : Same F (frzH F H fp) := fun a o q => by
  by_cases ha : a ∈ fp
  · rw [h a ha] at q; cases q
  · rw [frzH_out ha]; exact q
theorem frzH_frz (h : ∀ a ∈ fp, F a = none) : Frz F (frzH F H fp) H fp := ⟨frzH_same h, fun a ha => frzH_in ha⟩
theorem frzH_ext (e : Ext F0 H0 F H) (h : ∀ a ∈ fp, OwnA F H0 H a) : Ext F0 H0 (frzH F H fp) H := by
  refine ⟨e.h, e.f.trans (frzH_same fun a ha => (h a ha).1), fun a o q => ?_, fun a o q => ?_⟩
  · by_cases ha : a ∈ fp
    · rw [frzH_in ha] at q; exact q
    · rw [frzH_out ha] at q; exact e.s _ _ q
  · by_cases ha : a ∈ fp
    · exact .inr (h a ha).2.2
    · rw [frzH_out ha] at q; exact e.n a o q
theorem frzH_own {a : Addr} (h : OwnA F H0 H a) (ha : a ∉ fp) : OwnA (frzH F H fp) H0 H a := ⟨by rw [frzH_out ha]; exact h.1, h.2⟩
theorem frzH_gr {f : List Addr} (h : ∀ a ∈ fp, F a = none) (hf : ∀ a ∈ f, F a = none ∧ a ∉ fp) : Gr F H (frzH F H fp) H f := ⟨frzH_same h, .refl _, fun a ha => by rw [frzH_out (hf a ha).2]; exact (hf a ha).1⟩
/-- a slot's own tree becomes pure -/
theorem Rel.freeze (r : Rel K F0 H0 ρ σ ts tv F H) {x : D} (h : ρ[i]? = some (some m)) (hz : m.frz = some x) : ∃ F', Same F F' ∧ Rel K F0 H0 (ρ.set i (some (.d x))) σ ts tv F' H := by
  obtain ⟨e, l, fs, ft, n1, n2, ow, dj, dt, rt, sl⟩ := r
  obtain ⟨v, h1, h2, h3⟩ := sl i m h
  have hn : ∀ a ∈ fs i, F a = none := fun a ha => (ow i a ha).1
  refine ⟨frzH F H (fs i), frzH_same hn, frzH_ext e (ow i), by rw [List.length_set, l], fun j => if j = i then [] else fs j, ft, n1, fun j => ?_, fun j a ha => ?_, fun j k a ha ha' => ?_, fun j a ha => ?_, rt.mono (frzH_gr hn fun a ha => ⟨(rt.own a ha).1, fun z => dt i a z ha⟩), fun j m2 h' => ?_⟩
  · dsimp only; split
    · exact List.nodup_nil
    · exact n2 j
  · dsimp only at ha; split at ha
    · cases ha
    · rename_i hj
      exact frzH_own (ow j a ha) fun z => hj (dj j i a ha z)
  · dsimp only at ha ha'
    split at ha <;> split at ha'
    · cases ha
    · cases ha
    · cases ha'
    · exact dj j k a ha ha'
  · dsimp only at ha; split at ha
    · cases ha
    · exact dt j a ha
  · dsimp only
    by_cases hj : j = i
    · subst hj
      rw [if_pos rfl]
      by_cases hl : j < ρ.length
      · rw [List.getElem?_set_self hl] at h'
        cases h'
        refine ⟨v, h1, by unfold M.sto; rfl, ?_⟩
        unfold RepM
        exact ⟨rfl, h3.frz (frzH_frz hn) hz⟩
      · rw [List.getElem?_eq_none (by simpa using hl)] at h'
        cases h'
    · rw [if_neg hj]
      rw [List.getElem?_set_ne (Ne.symm hj)] at h'
      obtain ⟨v2, y1, y2, y3⟩ := sl j m2 h'
      exact ⟨v2, y1, y2, y3.mono (frzH_gr hn fun a ha => ⟨(ow j a ha).1, fun z => hj (dj j i a ha z)⟩)⟩
/-- what is held becomes pure -/
theorem Rel.freezeT (r : Rel K F0 H0 ρ σ (m :: ts) (v :: tv) F H) {x : D} (hz : m.frz = some x) : ∃ F', Same F F' ∧ Rel K F0 H0 ρ σ ts tv F' H ∧ RepD K F' x v := by
  obtain ⟨e, l, fs, ft, n1, n2, ow, dj, dt, rt, sl⟩ := r
  unfold RepMs at rt
  obtain ⟨u, w, f, g, e1, e2, q, z⟩ := rt
  cases e1
  subst e2
  obtain ⟨n3, n4, n5⟩ := List.nodup_append.mp n1
  have hn : ∀ a ∈ f, F a = none := fun a ha => (q.own a ha).1
  have dj' : ∀ j a, a ∈ fs j → a ∉ f := fun j a ha hb => dt j a ha (List.mem_append_left _ hb)
  refine ⟨frzH F H f, frzH_same hn, ⟨frzH_ext e q.own, l, fs, g, n4, n2, fun j a ha => frzH_own (ow j a ha) (dj' j a ha), dj, fun j a ha hb => dt j a ha (List.mem_append_right _ hb), z.mono (frzH_gr hn fun a ha => ⟨(z.own a ha).1, fun hb => n5 a hb a ha rfl⟩), fun j m2 h' => ?_⟩, q.frz (frzH_frz hn) hz⟩
  obtain ⟨v2, y1, y2, y3⟩ := sl j m2 h'
  exact ⟨v2, y1, y2, y3.mono (frzH_gr hn fun a ha => ⟨(ow j a ha).1, dj' j a ha⟩)⟩
end
end RT
namespace RT
open PySem PySem.Spec PyProof.Rows L2
/-- an exception: the name of its class, its fields -/
structure XV where
  cls : Str
  fs : List (Str × D)
abbrev XP := XV → Prop
def RepX (mg : Str → Option Value) (K : PySem.W.Frag) (F H : Hp) (x : XV) (cls : Value) (d : Option Addr) : Prop :=
  cls = .ref (He.ga K x.cls) ∧ match d with
    | none => x.fs = []
    | some dd => ∃ vs : List (Str × V), F dd = some (.xd vs) ∧ vs.map (·.1) = x.fs.map (·.1) ∧ RepDs K F (x.fs.map (·.2)) (vs.map (·.2))
abbrev TW := Sg → (M → Prop) → XP → Prop
abbrev TTW := Sg → (Bool → Prop) → XP → Prop
abbrev TAW := Sg → (List M → Prop) → XP → Prop
def KQ (K : PySem.W.Frag) (H0 F H : Hp) (Qh : VK) : M → Prop := fun m => ∀ v H' F' fp, Ext F H F' H' → RepM K F' H0 H' m v fp → (∀ a ∈ fp, H a = none) → fp.Nodup → Qh v H'
def KA (K : PySem.W.Frag) (H0 F H : Hp) (Qh : List V → Hp → Prop) : List M → Prop := fun m => ∀ v H' F' fp, Ext F H F' H' → RepMs K F' H0 H' m v fp → (∀ a ∈ fp, H a = none) → fp.Nodup → Qh v H'
def KT (F H : Hp) (Qh : Bool → Hp → Prop) : Bool → Prop := fun b => ∀ H' F', Ext F H F' H' → Qh b H'
def XQ (X : Cx) (W : WX) (σ : L2.St) (F H : Hp) : XP := fun x => ∀ cls d H' F', Ext F H F' H' → RepX X.mg X.K F' H' x cls d → W cls d σ H'
def liftE (X : Cx) (W : WX) (F0 H0 : Hp) (w : TW) : TE := fun σ H Qh => ∃ ρ F, Rel X.K F0 H0 ρ σ [] [] F H ∧ w ρ (KQ X.K H0 F H Qh) (XQ X W σ F H)
def liftT (X : Cx) (W : WX) (F0 H0 : Hp) (w : TTW) : TT := fun σ H Qh => ∃ ρ F, Rel X.K F0 H0 ρ σ [] [] F H ∧ w ρ (KT F H Qh) (XQ X W σ F H)
def liftA (X : Cx) (W : WX) (F0 H0 : Hp) (w : TAW) : TA := fun σ H Qh => ∃ ρ F, Rel X.K F0 H0 ρ σ [] [] F H ∧ w ρ (KA X.K H0 F H Qh) (XQ X W σ F H)
structure QE (X : Cx) (e : Expr) (w : TW) : Prop where
  mono : ∀ {ρ : Sg} {Q Q' : M → Prop} {E E' : XP}, (∀ m, Q m → Q' m) → (∀ x, E x → E' x) → w ρ Q E → w ρ Q' E'
  run : ∀ (W : WX) (F0 H0 : Hp), Takes X W → PE X e (liftE X W F0 H0 w)
structure QT (X : Cx) (e : Expr) (w : TTW) : Prop where
  mono : ∀ {ρ : Sg} {Q Q' : Bool → Prop} {E E' : XP}, (∀ m, Q m → Q' m) → (∀ x, E x → E' x) → w ρ Q E → w ρ Q' E'
  run : ∀ (W : WX) (F0 H0 : Hp), Takes X W → PT X e (liftT X W F0 H0 w)
structure QW (X : Cx) (e : Expr) (w : TTW) : Prop where
  mono : ∀ {ρ : Sg} {Q Q' : Bool → Prop} {E E' : XP}, (∀ m, Q m → Q' m) → (∀ x, E x → E' x) → w ρ Q E → w ρ Q' E'
  run : ∀ (W : WX) (F0 H0 : Hp), Takes X W → PW X e (liftT X W F0 H0 w)
structure QA (X : Cx) (es : List Expr) (w : TAW) : Prop where
  mono : ∀ {ρ : Sg} {Q Q' : List M → Prop} {E E' : XP}, (∀ m, Q m → Q' m) → (∀ x, E x → E' x) → w ρ Q E → w ρ Q' E'
  run : ∀ (W : WX) (F0 H0 : Hp), Takes X W → PA X es (liftA X W F0 H0 w)
section
variable {X : Cx} {e : Expr} {es : List Expr}
theorem peImp {t t' : TE} (h : PE X e t) (i : ∀ σ H Q, t' σ H Q → t σ H Q) : PE X e t' := ⟨fun pins s σ H Q I q => h.run pins s σ H Q I (i σ H Q q)⟩
theorem ptImp {t t' : TT} (h : PT X e t) (i : ∀ σ H Q, t' σ H Q → t σ H Q) : PT X e t' := ⟨fun pins s σ H Q I q => h.run pins s σ H Q I (i σ H Q q)⟩
theorem pwImp {t t' : TT} (h : PW X e t) (i : ∀ σ H Q, t' σ H Q → t σ H Q) : PW X e t' := ⟨fun wh pins s σ H Q I q => h.run wh pins s σ H Q I (i σ H Q q)⟩
theorem paImp {t t' : TA} (h : PA X es t) (i : ∀ σ H Q, t' σ H Q → t σ H Q) : PA X es t' := ⟨fun pos pins s σ H Q I q => h.run pos pins s σ H Q I (i σ H Q q)⟩
theorem psImp {st : Stmt} {t t' : TS} (h : PS X st t) (i : ∀ D σ H, t' D σ H → t D σ H) : PS X st t' := ⟨fun pins s σ H D I q => h.run pins s σ H D I (i D σ H q)⟩
theorem pssImp {st : List Stmt} {t t' : TS} (h : PSs X st t) (i : ∀ D σ H, t' D σ H → t D σ H) : PSs X st t' := ⟨fun pins s σ H D I q => h.run pins s σ H D I (i D σ H q)⟩
end
section
variable {X : Cx} {K : PySem.W.Frag} {F F' H H' H0 F0 : Hp} {Qh : VK} {m : M} {v : V} {fp : List Addr} {W : WX} {σ : L2.St}
theorem KQ.here (q : KQ K H0 F H Qh m) (s : Same F H) (r : RepM K F H0 H m v []) : Qh v H := q v H F [] (.refl s) r (fun _ h => nomatch h) List.nodup_nil
theorem KQ.ext (q : KQ K H0 F H Qh m) (x : Ext F H F' H') : KQ K H0 F' H' Qh m := fun v H2 F2 fp y r hf hn => q v H2 F2 fp (x.trans y) r (fun a ha => x.h.free (hf a ha)) hn
theorem KA.ext {Qh : List V → Hp → Prop} {ms : List M} (q : KA K H0 F H Qh ms) (x : Ext F H F' H') : KA K H0 F' H' Qh ms := fun v H2 F2 fp y r hf hn => q v H2 F2 fp (x.trans y) r (fun a ha => x.h.free (hf a ha)) hn
theorem KT.ext {Qh : Bool → Hp → Prop} {b : Bool} (q : KT F H Qh b) (x : Ext F H F' H') : KT F' H' Qh b := fun H2 F2 y => q H2 F2 (x.trans y)
theorem XQ.ext {x : XV} (q : XQ X W σ F H x) (y : Ext F H F' H') : XQ X W σ F' H' x := fun cls d H2 F2 z r => q cls d H2 F2 (y.trans z) r
theorem RepM.d {x : D} (h : RepD K F x v) : RepM K F H0 H (.d x) v [] := by unfold RepM; exact ⟨rfl, h⟩
theorem RepM.ofD {x : D} (h : RepM K F H0 H (.d x) v fp) : fp = [] ∧ RepD K F x v := by unfold RepM at h; exact h
theorem RepD.int {i : Int} : RepD K F (.int i) (.int i) := by unfold RepD; rfl
theorem RepD.bl {i : Bool} : RepD K F (.bl i) (.bl i) := by unfold RepD; rfl
theorem RepD.str {i : Str} : RepD K F (.str i) (.str i) := by unfold RepD; rfl
theorem RepD.non : RepD K F .non .non := by unfold RepD; rfl
theorem RepD.ofInt {i : Int} (h : RepD K F (.int i) v) : v = .int i := by unfold RepD at h; exact h
theorem RepD.ofBl {i : Bool} (h : RepD K F (.bl i) v) : v = .bl i := by unfold RepD at h; exact h
theorem RepD.ofStr {i : Str} (h : RepD K F (.str i) v) : v = .str i := by unfold RepD at h; exact h
theorem RepD.ofNon (h : RepD K F .non v) : v = .non := by unfold RepD at h; exact h
end
/-! ### names and constants -/
section
variable {X : Cx}
def wVar (i : Nat) : TW := fun ρ Q _ => match ρ[i]? with
  | some (some m) => Q m.lock
  | _ => False
theorem q_var (i : Nat) {x : Str} {pos : Pos} (hN : X.N[i]? = some x := by rfl) (hv : Vis X.env.scope x := by first | exact Or.inl rfl | exact Or.inr (Or.inl rfl) | exact Or.inr (Or.inr rfl)) (hd : (x == ("__debug__" : Str)) = false := by decide)
    (hcd : (x == ("__classdict__" : Str)) = false := by decide) : QE X (.Name x pos) (wVar i) where
  mono := fun hq _ h => by unfold wVar at h ⊢; split at h <;> first | exact hq _ h | exact h
  run := fun W F0 H0 tk => peImp (pe_var hN hv hd hcd) fun σ H Qh ⟨ρ, F, r, h⟩ => by
    unfold wVar at h
    split at h
    · rename_i m e
      obtain ⟨v, fp, e1, _, q, _⟩ := r.get e
      exact ⟨v, e1, KQ.here h r.s q.lock⟩
    · exact h.elim
def wC (x : D) : TW := fun _ Q _ => Q (.d x)
theorem q_c {e : Expr} {x : D} {v : V} (h : PE X e (tC v)) (r : ∀ F, RepD X.K F x v) : QE X e (wC x) where
  mono := fun hq _ h => hq _ h
  run := fun W F0 H0 tk => peImp h fun σ H Qh ⟨ρ, F, q, h⟩ => KQ.here h q.s (.d (r F))
theorem q_int {i j pos} : QE X (.Constant (.int i) j pos) (wC (.int i)) := q_c pe_int fun _ => .int
theorem q_bl {i j pos} : QE X (.Constant (.bool i) j pos) (wC (.bl i)) := q_c pe_bl fun _ => .bl
theorem q_str {i j pos} : QE X (.Constant (.str i) j pos) (wC (.str i)) := q_c pe_str fun _ => .str
theorem q_non {j pos} : QE X (.Constant .none j pos) (wC .non) := q_c pe_non fun _ => .non
/-! ### two operands -/
abbrev WR2 := M → M → (M → Prop) → Prop
/-- the operation r, on trees -/
structure OpS (X : Cx) (r : R2) (wr : WR2) : Prop where
  mono : ∀ {x y : M} {Q Q' : M → Prop}, (∀ m, Q m → Q' m) → wr x y Q → wr x y Q'
  run : ∀ {H0 F H : Hp} {x y : M} {u v : V} {fx fy : List Addr} {Q : M → Prop} {Qh : VK}, Same F H → Same H0 H → RepM X.K F H0 H x u fx → RepM X.K F H0 H y v fy → wr x y Q → (∀ m, Q m → KQ X.K H0 F H Qh m) → r u v H Qh
def wOp (wr : WR2) (wa wb : TW) : TW := fun ρ Q E => wa ρ (fun x => wb ρ (fun y => wr x y Q) E) E
variable {a b c : Expr} {wa wb wc : TW} {pos : Pos}
/-- two expressions in a row -/
theorem two {W : WX} {F0 H0 : Hp} (ha : QE X a wa) (hb : QE X b wb) {σ : L2.St} {H : Hp} {r : V → V → Hp → Prop} {ρ : Sg} {F : Hp} {R : M → M → Prop}
    (rel : Rel X.K F0 H0 ρ σ [] [] F H) (h : wa ρ (fun x => wb ρ (fun y => R x y) (XQ X W σ F H)) (XQ X W σ F H))
    (hr : ∀ x y u v fx fy F2 H2, Ext F H F2 H2 → RepM X.K F2 H0 H2 x u fx → RepM X.K F2 H0 H2 y v fy → (∀ a ∈ fx, H a = none) → (∀ a ∈ fy, H a = none) → (fx ++ fy).Nodup → Same H0 H2 → R x y → r u v H2) :
    liftE X W F0 H0 wa σ H fun u H1 => liftE X W F0 H0 wb σ H1 fun v H2 => r u v H2 := by
  refine ⟨ρ, F, rel, ha.mono (fun x hx => ?_) (fun _ e => e) h⟩
  intro u H1 F1 fx x1 rx hfx hnx
  refine ⟨ρ, F1, rel.ext x1, hb.mono (fun y hy => ?_) (fun _ e => e.ext x1) hx⟩
  intro v H2 F2 fy x2 ry hfy hny
  refine hr x y u v fx fy F2 H2 (x1.trans x2) (rx.ext x2) ry hfx (fun a ha => x1.h.free (hfy a ha)) (List.nodup_append.mpr ⟨hnx, hny, fun a ha b hb e => ?_⟩) ((rel.e.h.trans x1.h).trans x2.h) hy
  subst e
  obtain ⟨_, ⟨o, ho⟩, _⟩ := rx.own a ha
  rw [hfy a hb] at ho; cases ho
theorem wOp_mono {wr : WR2} (ho : ∀ {x y : M} {Q Q' : M → Prop}, (∀ m, Q m → Q' m) → wr x y Q → wr x y Q') (ha : QE X a wa) (hb : QE X b wb) {ρ : Sg} {Q Q' : M → Prop} {E E' : XP} (hq : ∀ m, Q m → Q' m) (he : ∀ x, E x → E' x) (h : wOp wr wa wb ρ Q E) : wOp wr wa wb ρ Q' E' :=
  ha.mono (fun x hx => hb.mono (fun y hy => ho hq hy) he hx) he h
theorem q_of2 {r : R2} {wr : WR2} (os : OpS X r wr) (ha : QE X a wa) (hb : QE X b wb) {e : Expr} (h : ∀ {ta tb : TE}, PE X a ta → PE X b tb → PE X e (tOp r ta tb)) : QE X e (wOp wr wa wb) where
  mono := fun hq he h => wOp_mono (wr := wr) (fun h' z => os.mono h' z) ha hb hq he h
  run := fun W F0 H0 tk => peImp (h (ha.run W F0 H0 tk) (hb.run W F0 H0 tk)) fun σ H Qh ⟨ρ, F, rel, h⟩ =>
    two ha hb rel h fun x y u v fx fy F2 H2 x2 rx ry _ _ _ z hxy => os.run (rel.ext x2).s z rx ry hxy fun m hm => hm.ext x2
theorem q_bin {op : Operator} {r : R2} {wr : WR2} (ho : OpR X (binaryOp op) r) (os : OpS X r wr) (ha : QE X a wa) (hb : QE X b wb) : QE X (.BinOp a op b pos) (wOp wr wa wb) :=
  q_of2 os ha hb fun h h' => pe_op ho h h'
theorem q_cmp {op : CmpOp} {r : R2} {wr : WR2} (ho : OpR X (compareOp op) r) (os : OpS X r wr) (ha : QE X a wa) (hb : QE X b wb) (hm : behindInMarks op b = false) : QE X (.Compare a [op] [b] pos) (wOp wr wa wb) :=
  q_of2 os ha hb fun h h' => pe_cmpR ho h h' hm
/-- .. as a test -/
abbrev WR2T := M → M → (Bool → Prop) → Prop
def wTB (w : TW) : TTW := fun ρ Q E => w ρ (fun m => match m with | .d (.bl b) => Q b | _ => False) E
theorem wTB_mono {e : Expr} {w : TW} (h : QE X e w) {ρ : Sg} {Q Q' : Bool → Prop} {E E' : XP} (hq : ∀ m, Q m → Q' m) (he : ∀ x, E x → E' x) (q : wTB w ρ Q E) : wTB w ρ Q' E' :=
  h.mono (fun m hm => by split at hm <;> first | exact hq _ hm | exact hm) he q
theorem tB_of {w : TW} {W : WX} {F0 H0 : Hp} {e : Expr} (h : QE X e w) {σ : L2.St} {H : Hp} {Qh : Bool → Hp → Prop} (q : liftT X W F0 H0 (wTB w) σ H Qh) : liftE X W F0 H0 w σ H fun x H1 => ∃ k, x = .bl k ∧ Qh k H1 := by
  obtain ⟨ρ, F, r, q⟩ := q
  refine ⟨ρ, F, r, h.mono (fun m hm => ?_) (fun _ e => e) q⟩
  intro v H' F' fp x rm hf hn
  split at hm
  · exact ⟨_, rm.ofD.2.ofBl, hm H' F' x⟩
  · exact hm.elim
theorem t_cmp {op : CmpOp} {r : R2} {wr : WR2} (ho : OpR X (compareOp op) r) (os : OpS X r wr) (ha : QE X a wa) (hb : QE X b wb) (hm : behindInMarks op b = false) : QT X (.Compare a [op] [b] pos) (wTB (wOp wr wa wb)) where
  mono := wTB_mono (q_cmp (pos := pos) ho os ha hb hm)
  run := fun W F0 H0 tk => ptImp (pt_cmpR ho (ha.run W F0 H0 tk) (hb.run W F0 H0 tk) hm) fun σ H Qh h => by
    obtain ⟨ρ, F, rel, h⟩ := h
    refine two ha hb rel h fun x y u v fx fy F2 H2 x2 rx ry _ _ _ z hxy => os.run (Qh := fun x H' => ∃ k, x = .bl k ∧ Qh k H') (rel.ext x2).s z rx ry hxy fun m hm => ?_
    intro v H' F' fp x3 rm hf hn
    split at hm
    · exact ⟨_, rm.ofD.2.ofBl, hm H' F' (x2.trans x3)⟩
    · exact hm.elim
/-- an expression whose value is a bool, as a test -/
theorem t_val {e : Expr} {w : TW} (h : QE X e w) (he : ∀ whole, isTrue e X.env whole = (do let v ← whole; standAt e.pos; holding [v] (truthy v)) := by intro _; rfl) : QT X e (wTB w) where
  mono := wTB_mono h
  run := fun W F0 H0 tk => ptImp (pt_val (h.run W F0 H0 tk) he) fun σ H Qh q => tB_of h q
/-! ### and, or, not -/
variable {t u : TTW} {rest : List Expr}
def wAndT (t u : TTW) : TTW := fun ρ Q E => t ρ (fun c => if c = true then u ρ Q E else Q false) E
def wOrT (t u : TTW) : TTW := fun ρ Q E => t ρ (fun c => if c = true then Q true else u ρ Q E) E
def wNotT (t : TTW) : TTW := fun ρ Q E => t ρ (fun c => Q (!c)) E
theorem ite_mono {p : Prop} [Decidable p] {A B A' B' : Prop} (h : if p then A else B) (h1 : A → A') (h2 : B → B') : if p then A' else B' := by
  by_cases q : p
  · rw [if_pos q] at h ⊢; exact h1 h
  · rw [if_neg q] at h ⊢; exact h2 h
theorem u_and1 (ha : QT X a t) : QW X (.BoolOp .And [a] pos) t := ⟨ha.mono, fun W F0 H0 tk => pw_and1 (ha.run W F0 H0 tk)⟩
theorem u_or1 (ha : QT X a t) : QW X (.BoolOp .Or [a] pos) t := ⟨ha.mono, fun W F0 H0 tk => pw_or1 (ha.run W F0 H0 tk)⟩
theorem u_and (ha : QT X a t) (hb : QW X (.BoolOp .And (b :: rest) pos) u) : QW X (.BoolOp .And (a :: b :: rest) pos) (wAndT t u) where
  mono := fun hq he h => ha.mono (fun c hc => ite_mono hc (fun z => hb.mono hq he z) (hq _)) he h
  run := fun W F0 H0 tk => pwImp (pw_and (ha.run W F0 H0 tk) (hb.run W F0 H0 tk)) fun σ H Qh ⟨ρ, F, r, h⟩ =>
    ⟨ρ, F, r, ha.mono (fun c hc H1 F1 x => ite_mono hc (fun z => ⟨ρ, F1, r.ext x, hb.mono (fun _ q => q.ext x) (fun _ q => q.ext x) z⟩) (fun z => z H1 F1 x)) (fun _ q => q) h⟩
theorem u_or (ha : QT X a t) (hb : QW X (.BoolOp .Or (b :: rest) pos) u) : QW X (.BoolOp .Or (a :: b :: rest) pos) (wOrT t u) where
  mono := fun hq he h => ha.mono (fun c hc => ite_mono hc (hq _) (fun z => hb.mono hq he z)) he h
  run := fun W F0 H0 tk => pwImp (pw_or (ha.run W F0 H0 tk) (hb.run W F0 H0 tk)) fun σ H Qh ⟨ρ, F, r, h⟩ =>
    ⟨ρ, F, r, ha.mono (fun c hc H1 F1 x => ite_mono hc (fun z => z H1 F1 x) (fun z => ⟨ρ, F1, r.ext x, hb.mono (fun _ q => q.ext x) (fun _ q => q.ext x) z⟩)) (fun _ q => q) h⟩
theorem t_bo {e : Expr} (h : QW X e t) : QT X e t := ⟨h.mono, fun W F0 H0 tk => (h.run W F0 H0 tk).pt⟩
theorem t_not (ha : QT X a t) : QT X (.UnaryOp .Not a pos) (wNotT t) where
  mono := fun hq he h => ha.mono (fun c hc => hq _ hc) he h
  run := fun W F0 H0 tk => ptImp (pt_not (ha.run W F0 H0 tk)) fun σ H Qh ⟨ρ, F, r, h⟩ => ⟨ρ, F, r, ha.mono (fun c hc H1 F1 x => hc H1 F1 x) (fun _ q => q) h⟩
/-- .. as values (bools) -/
def onB (P : Bool → Prop) : M → Prop := fun m => match m with
  | .d (.bl c) => P c
  | _ => False
theorem onB_mono {P P' : Bool → Prop} {m : M} (h : ∀ c, P c → P' c) (q : onB P m) : onB P' m := by
  unfold onB at q ⊢
  split at q <;> first | exact h _ q | exact q
theorem onB_of {K : PySem.W.Frag} {F H0 H : Hp} {P : Bool → Prop} {m : M} {v : V} {fp : List Addr} (q : onB P m) (r : RepM K F H0 H m v fp) : ∃ c, v = .bl c ∧ P c := by
  unfold onB at q
  split at q
  · exact ⟨_, r.ofD.2.ofBl, q⟩
  · exact q.elim
def wAndV (wa wb : TW) : TW := fun ρ Q E => wa ρ (onB fun c => if c = true then wb ρ Q E else Q (.d (.bl false))) E
def wOrV (wa wb : TW) : TW := fun ρ Q E => wa ρ (onB fun c => if c = true then Q (.d (.bl true)) else wb ρ Q E) E
def wNotV (wa : TW) : TW := fun ρ Q E => wa ρ (onB fun c => Q (.d (.bl (!c)))) E
theorem q_one {op} (h : QE X a wa) : QE X (.BoolOp op [a] pos) wa := ⟨h.mono, fun W F0 H0 tk => pe_one (h.run W F0 H0 tk)⟩
theorem q_and (ha : QE X a wa) (hb : QE X (.BoolOp .And (b :: rest) pos) wb) : QE X (.BoolOp .And (a :: b :: rest) pos) (wAndV wa wb) where
  mono := fun hq he h => ha.mono (fun m hm => onB_mono (fun c hc => ite_mono hc (fun z => hb.mono hq he z) (hq _)) hm) he h
  run := fun W F0 H0 tk => peImp (pe_and (ha.run W F0 H0 tk) (hb.run W F0 H0 tk)) fun σ H Qh ⟨ρ, F, r, h⟩ =>
    ⟨ρ, F, r, ha.mono (fun m hm => by
      intro v H1 F1 fp x rm _ _
      obtain ⟨c, e, hc⟩ := onB_of hm rm
      refine ⟨c, e, ite_mono hc (fun z => ⟨ρ, F1, r.ext x, hb.mono (fun _ q => q.ext x) (fun _ q => q.ext x) z⟩) fun z => (KQ.ext z x).here (r.ext x).s (.d .bl)⟩) (fun _ q => q) h⟩
theorem q_or (ha : QE X a wa) (hb : QE X (.BoolOp .Or (b :: rest) pos) wb) : QE X (.BoolOp .Or (a :: b :: rest) pos) (wOrV wa wb) where
  mono := fun hq he h => ha.mono (fun m hm => onB_mono (fun c hc => ite_mono hc (hq _) (fun z => hb.mono hq he z)) hm) he h
  run := fun W F0 H0 tk => peImp (pe_or (ha.run W F0 H0 tk) (hb.run W F0 H0 tk)) fun σ H Qh ⟨ρ, F, r, h⟩ =>
    ⟨ρ, F, r, ha.mono (fun m hm => by
      intro v H1 F1 fp x rm _ _
      obtain ⟨c, e, hc⟩ := onB_of hm rm
      refine ⟨c, e, ite_mono hc (fun z => (KQ.ext z x).here (r.ext x).s (.d .bl)) fun z => ⟨ρ, F1, r.ext x, hb.mono (fun _ q => q.ext x) (fun _ q => q.ext x) z⟩⟩) (fun _ q => q) h⟩
theorem q_not (ha : QE X a wa) : QE X (.UnaryOp .Not a pos) (wNotV wa) where
  mono := fun hq he h => ha.mono (fun m hm => onB_mono (fun c hc => hq _ hc) hm) he h
  run := fun W F0 H0 tk => peImp (pe_not (ha.run W F0 H0 tk)) fun σ H Qh ⟨ρ, F, r, h⟩ =>
    ⟨ρ, F, r, ha.mono (fun m hm => by
      intro v H1 F1 fp x rm _ _
      obtain ⟨c, e, hc⟩ := onB_of hm rm
      exact ⟨c, e, (KQ.ext hc x).here (r.ext x).s (.d .bl)⟩) (fun _ q => q) h⟩
def wIte (t : TTW) (wa wb : TW) : TW := fun ρ Q E => t ρ (fun c => if c = true then wa ρ Q E else wb ρ Q E) E
theorem q_ite (hc : QT X c t) (ha : QE X a wa) (hb : QE X b wb) : QE X (.IfExp c a b pos) (wIte t wa wb) where
  mono := fun hq he h => hc.mono (fun d hd => ite_mono hd (fun z => ha.mono hq he z) (fun z => hb.mono hq he z)) he h
  run := fun W F0 H0 tk => peImp (pe_ifExp (hc.run W F0 H0 tk) (ha.run W F0 H0 tk) (hb.run W F0 H0 tk)) fun σ H Qh ⟨ρ, F, r, h⟩ =>
    ⟨ρ, F, r, hc.mono (fun d hd H1 F1 x => ite_mono hd (fun z => ⟨ρ, F1, r.ext x, ha.mono (fun _ q => q.ext x) (fun _ q => q.ext x) z⟩) (fun z => ⟨ρ, F1, r.ext x, hb.mono (fun _ q => q.ext x) (fun _ q => q.ext x) z⟩)) (fun _ q => q) h⟩
end
end RT
namespace RT
open PySem PySem.Spec PyProof.Rows L2
section
variable {X : Cx} {K : PySem.W.Frag} {F F' H H' H0 F0 : Hp}
/-! ### ints -/
def onI2 (P : Int → Int → Prop) : M → M → Prop := fun x y => match x, y with
  | .d (.int i), .d (.int j) => P i j
  | _, _ => False
theorem onI2_mono {P P' : Int → Int → Prop} {x y : M} (h : ∀ i j, P i j → P' i j) (q : onI2 P x y) : onI2 P' x y := by
  unfold onI2 at q ⊢
  split at q <;> first | exact h _ _ q | exact q
theorem onI2_of {P : Int → Int → Prop} {x y : M} {u v : V} {fx fy : List Addr} (q : onI2 P x y) (rx : RepM K F H0 H x u fx) (ry : RepM K F H0 H y v fy) : ∃ i j, u = .int i ∧ v = .int j ∧ P i j := by
  unfold onI2 at q
  split at q
  · exact ⟨_, _, rx.ofD.2.ofInt, ry.ofD.2.ofInt, q⟩
  · exact q.elim
def wI (C : Int → Int → Prop) (g : Int → Int → Int) : WR2 := fun x y Q => onI2 (fun i j => C i j ∧ Q (.d (.int (g i j)))) x y
theorem s_I {C : Int → Int → Prop} {g : Int → Int → Int} : OpS X (rI C fun i j => .int (g i j)) (wI C g) where
  mono := fun h q => onI2_mono (fun i j z => ⟨z.1, h _ z.2⟩) q
  run := fun s z rx ry q h => by
    obtain ⟨i, j, e1, e2, c, q⟩ := onI2_of q rx ry
    exact ⟨i, j, e1, e2, c, (h _ q).here s (.d .int)⟩
def wI0 (g : Int → Int → Int) : WR2 := fun x y Q => onI2 (fun i j => Q (.d (.int (g i j)))) x y
theorem s_I0 {g : Int → Int → Int} : OpS X (rI0 fun i j => .int (g i j)) (wI0 g) where
  mono := fun h q => onI2_mono (fun i j z => h _ z) q
  run := fun s z rx ry q h => by
    obtain ⟨i, j, e1, e2, q⟩ := onI2_of q rx ry
    exact ⟨i, j, e1, e2, (h _ q).here s (.d .int)⟩
def wB0 (g : Int → Int → Bool) : WR2 := fun x y Q => onI2 (fun i j => Q (.d (.bl (g i j)))) x y
theorem s_B0 {g : Int → Int → Bool} : OpS X (rI0 fun i j => .bl (g i j)) (wB0 g) where
  mono := fun h q => onI2_mono (fun i j z => h _ z) q
  run := fun s z rx ry q h => by
    obtain ⟨i, j, e1, e2, q⟩ := onI2_of q rx ry
    exact ⟨i, j, e1, e2, (h _ q).here s (.d .bl)⟩
def CMulA (i j : Int) : Prop := CMul i j ∨ CMulW i j
def CDivA (_ j : Int) : Prop := j ≠ 0 ∧ j.natAbs.log2 < 9000
theorem op_mulA : OpR X (binaryOp .Mult) (rI CMulA fun i j => .int (i * j)) := opI fun _ _ _ _ _ _ _ hc q => mul_int q (hc.elim (·.ok) (·.ok))
theorem op_fdivA : OpR X (binaryOp .FloorDiv) (rI CDivA fun i j => .int (i.fdiv j)) := opI fun _ _ _ _ _ _ _ hc q => floordiv_int hc.1 q (.inl (PyProof.noPylong_of_log2 hc.2))
variable {a b c : Expr} {wa wb wc : TW} {pos : Pos}
theorem q_sub (ha : QE X a wa) (hb : QE X b wb) : QE X (.BinOp a .Sub b pos) (wOp (wI0 fun i j => i - j) wa wb) := q_bin op_sub s_I0 ha hb
theorem q_mul (ha : QE X a wa) (hb : QE X b wb) : QE X (.BinOp a .Mult b pos) (wOp (wI CMulA fun i j => i * j) wa wb) := q_bin op_mulA s_I ha hb
theorem q_fdiv (ha : QE X a wa) (hb : QE X b wb) : QE X (.BinOp a .FloorDiv b pos) (wOp (wI CDivA fun i j => i.fdiv j) wa wb) := q_bin op_fdivA s_I ha hb
theorem q_mod (ha : QE X a wa) (hb : QE X b wb) : QE X (.BinOp a .Mod b pos) (wOp (wI (fun _ j => j ≠ 0) fun i j => i.fmod j) wa wb) := q_bin op_modN s_I ha hb
theorem q_pow (ha : QE X a wa) (hb : QE X b wb) : QE X (.BinOp a .Pow b pos) (wOp (wI CPow fun i j => i ^ j.toNat) wa wb) := q_bin op_pow s_I ha hb
theorem q_lt (ha : QE X a wa) (hb : QE X b wb) : QE X (.Compare a [.Lt] [b] pos) (wOp (wB0 fun i j => decide (i < j)) wa wb) := q_cmp op_lt s_B0 ha hb (nomark _)
theorem q_le (ha : QE X a wa) (hb : QE X b wb) : QE X (.Compare a [.LtE] [b] pos) (wOp (wB0 fun i j => decide (i ≤ j)) wa wb) := q_cmp op_le s_B0 ha hb (nomark _)
theorem q_gt (ha : QE X a wa) (hb : QE X b wb) : QE X (.Compare a [.Gt] [b] pos) (wOp (wB0 fun i j => decide (j < i)) wa wb) := q_cmp op_gt s_B0 ha hb (nomark _)
theorem q_ge (ha : QE X a wa) (hb : QE X b wb) : QE X (.Compare a [.GtE] [b] pos) (wOp (wB0 fun i j => decide (j ≤ i)) wa wb) := q_cmp op_ge s_B0 ha hb (nomark _)
theorem t_lt (ha : QE X a wa) (hb : QE X b wb) : QT X (.Compare a [.Lt] [b] pos) (wTB (wOp (wB0 fun i j => decide (i < j)) wa wb)) := t_cmp op_lt s_B0 ha hb (nomark _)
theorem t_le (ha : QE X a wa) (hb : QE X b wb) : QT X (.Compare a [.LtE] [b] pos) (wTB (wOp (wB0 fun i j => decide (i ≤ j)) wa wb)) := t_cmp op_le s_B0 ha hb (nomark _)
theorem t_gt (ha : QE X a wa) (hb : QE X b wb) : QT X (.Compare a [.Gt] [b] pos) (wTB (wOp (wB0 fun i j => decide (j < i)) wa wb)) := t_cmp op_gt s_B0 ha hb (nomark _)
theorem t_ge (ha : QE X a wa) (hb : QE X b wb) : QT X (.Compare a [.GtE] [b] pos) (wTB (wOp (wB0 fun i j => decide (j ≤ i)) wa wb)) := t_cmp op_ge s_B0 ha hb (nomark _)
/-! ### sequences -/
def M.seqD : M → Option (List D)
  | .d (.tup l) => some l
  | .d (.lst l) => some l
  | .d (.scr l) => some l
  | .fl _ l => some l
  | _ => none
theorem At.now {k : Md} {a : Addr} {o : HO} {fp f : List Addr} (z : Same H0 H) (x : At F H0 H k a o fp f) : H a = some o := by
  cases k with
  | o => exact x.2.1
  | r => exact x.2
  | p => exact z _ _ x.2
theorem RepM.seq (s : Same F H) (z : Same H0 H) {m : M} {v : V} {fp : List Addr} {l : List D} (e : m.seqD = some l) (r : RepM K F H0 H m v fp) : ∃ a vs, v = .ref a ∧ (SqL K H a vs ∨ SqT K H a vs) ∧ RepDs K F l vs := by
  unfold M.seqD at e
  split at e
  · cases e
    obtain ⟨a, vs, e, q, r⟩ := (by have := r.ofD.2; unfold RepD at this; exact this)
    exact ⟨a, vs, e, .inr (Same.sqT s q.sq), r⟩
  · cases e
    obtain ⟨a, vs, e, q, r⟩ := (by have := r.ofD.2; unfold RepD at this; exact this)
    exact ⟨a, vs, e, .inl (SqL.of (s _ _ q)), r⟩
  · cases e
    obtain ⟨a, vs, e, q, r⟩ := (by have := r.ofD.2; unfold RepD at this; exact this)
    exact ⟨a, vs, e, .inl (s.seq q), r⟩
  · cases e
    unfold RepM at r
    obtain ⟨a, vs, e, q, r⟩ := r
    exact ⟨a, vs, e, .inl (SqL.of (q.now z)), r⟩
  · cases e
/-- a list that is tracked -/
def M.lstD : M → Option (List D)
  | .d (.lst l) => some l
  | .fl _ l => some l
  | _ => none
theorem RepM.lst (s : Same F H) (z : Same H0 H) {m : M} {v : V} {fp : List Addr} {l : List D} (e : m.lstD = some l) (r : RepM K F H0 H m v fp) : ∃ a vs, v = .ref a ∧ H a = some (.lst vs) ∧ RepDs K F l vs := by
  unfold M.lstD at e
  split at e
  · cases e
    obtain ⟨a, vs, e, q, r⟩ := (by have := r.ofD.2; unfold RepD at this; exact this)
    exact ⟨a, vs, e, s _ _ q, r⟩
  · cases e
    unfold RepM at r
    obtain ⟨a, vs, e, q, r⟩ := r
    exact ⟨a, vs, e, q.now z, r⟩
  · cases e
theorem KQ.mine {Q : VK} {l : List D} {vs : List V} (h : KQ K H0 F H Q (.fl .o l)) (s : Same F H) (z : Same H0 H) (r : RepDs K F l vs) : ∀ p, H p = none → Q (.ref p) (upd H p (.lst vs)) := fun p hp => by
  have fn : F p = none := s.free hp
  refine h (.ref p) _ F [p] (Ext.mine s hp) ?_ (fun a ha => ?_) (List.nodup_cons.mpr ⟨(by simp), List.nodup_nil⟩)
  · unfold RepM
    exact ⟨p, vs, rfl, ⟨rfl, upd_same, fn, z.free hp⟩, r⟩
  · have : a = p := by simpa using ha
    rw [this]; exact hp
theorem KQ.tup {Q : VK} {l : List D} {vs : List V} (h : KQ K H0 F H Q (.d (.tup l))) (s : Same F H) (r : RepDs K F l vs) : NewT H vs Q := fun p o hp ho => by
  have x := Ext.pure (o := .frz o (.tup vs)) s hp
  refine h (.ref p) _ _ [] x (.d ?_) (fun a ha => nomatch ha) List.nodup_nil
  unfold RepD
  exact ⟨p, vs, rfl, .inl ⟨o, upd_same, ho⟩, r.mono x.f⟩
/-! ### + -/
def wAdd : WR2 := fun x y Q => match x, y with
  | .d (.int i), .d (.int j) => Q (.d (.int (i + j)))
  | .d (.str i), .d (.str j) => i.length + j.length ≤ sizeLine ∧ Q (.d (.str (i ++ j)))
  | .d (.tup l), .d (.tup l') => l.length + l'.length ≤ sizeLine ∧ Q (.d (.tup (l ++ l')))
  | x, y => ∃ l l', x.lstD = some l ∧ y.lstD = some l' ∧ l.length + l'.length ≤ sizeLine ∧ Q (.fl .o (l ++ l'))
theorem op_addA : OpR X (binaryOp .Add) (fun x y H Q => rI0 (fun i j => .int (i + j)) x y H Q ∨ (∃ i j, x = .str i ∧ y = .str j ∧ i.length + j.length ≤ sizeLine ∧ Q (.str (i ++ j)) H) ∨ rCatTB X.K x y H Q ∨ rCat x y H Q) :=
  op_add.or (op_add_str.or (op_catTB.or op_cat))
theorem s_add : OpS X (fun x y H Q => rI0 (fun i j => .int (i + j)) x y H Q ∨ (∃ i j, x = .str i ∧ y = .str j ∧ i.length + j.length ≤ sizeLine ∧ Q (.str (i ++ j)) H) ∨ rCatTB X.K x y H Q ∨ rCat x y H Q) wAdd where
  mono := fun h q => by
    unfold wAdd at q ⊢
    split at q
    · exact h _ q
    · exact ⟨q.1, h _ q.2⟩
    · exact ⟨q.1, h _ q.2⟩
    · obtain ⟨l, l', e1, e2, e3, q⟩ := q
      exact ⟨l, l', e1, e2, e3, h _ q⟩
  run := fun s z rx ry q h => by
    unfold wAdd at q
    split at q
    · exact .inl ⟨_, _, rx.ofD.2.ofInt, ry.ofD.2.ofInt, (h _ q).here s (.d .int)⟩
    · exact .inr (.inl ⟨_, _, rx.ofD.2.ofStr, ry.ofD.2.ofStr, q.1, (h _ q.2).here s (.d .str)⟩)
    · obtain ⟨q2, q⟩ := q
      obtain ⟨a, vs, e, p, r⟩ := (by have := rx.ofD.2; unfold RepD at this; exact this)
      obtain ⟨a', vs', e', p', r'⟩ := (by have := ry.ofD.2; unfold RepD at this; exact this)
      refine .inr (.inr (.inl ⟨a, a', vs, vs', e, e', Same.sqT s p.sq, Same.sqT s p'.sq, by rw [← r.length, ← r'.length]; exact q2, fun z => ?_, fun _ z => ?_, fun _ _ => (h _ q).tup s (r.append r')⟩))
      · subst z
        have hl : _ = ([] : List V).length := r.length
        have e0 := List.length_eq_zero_iff.mp hl
        subst e0
        rw [List.nil_append] at q
        refine (h _ q).here s (.d ?_)
        unfold RepD
        exact ⟨a', vs', rfl, p', r'⟩
      · subst z
        have hl : _ = ([] : List V).length := r'.length
        have e0 := List.length_eq_zero_iff.mp hl
        subst e0
        rw [List.append_nil] at q
        refine (h _ q).here s (.d ?_)
        unfold RepD
        exact ⟨a, vs, rfl, p, r⟩
    · obtain ⟨l, l', e1, e2, e3, q⟩ := q
      obtain ⟨a, vs, e, p, r⟩ := rx.lst s z e1
      obtain ⟨a', vs', e', p', r'⟩ := ry.lst s z e2
      exact .inr (.inr (.inr ⟨a, a', vs, vs', e, e', p, p', by rw [← r.length, ← r'.length]; exact e3, (h _ q).mine s z (r.append r')⟩))
theorem q_add (ha : QE X a wa) (hb : QE X b wb) : QE X (.BinOp a .Add b pos) (wOp wAdd wa wb) := q_bin op_addA s_add ha hb
/-! ### is None -/
def D.isN : D → Bool
  | .non => true
  | _ => false
def M.isN : M → Bool
  | .d x => x.isN
  | .pk m _ => m.isN
  | _ => false
theorem RepD.isN {x : D} {v : V} (r : RepD K F x v) : decide (v = .non) = x.isN := by
  cases x with
  | non => rw [r.ofNon]; rfl
  | bl _ => rw [r.ofBl]; rfl
  | int _ => rw [r.ofInt]; rfl
  | str _ => rw [r.ofStr]; rfl
  | tup _ => unfold RepD at r; obtain ⟨a, vs, e, _⟩ := r; rw [e]; rfl
  | lst _ => unfold RepD at r; obtain ⟨a, vs, e, _⟩ := r; rw [e]; rfl
  | scr _ => unfold RepD at r; obtain ⟨a, vs, e, _⟩ := r; rw [e]; rfl
  | exc _ _ _ => unfold RepD at r; obtain ⟨a, vs, e, _⟩ := r; rw [e]; rfl
  | dct _ _ => unfold RepD at r; obtain ⟨a, _, vs, e, _⟩ := r; rw [e]; rfl
  | obj _ _ _ => unfold RepD at r; obtain ⟨a, _, vs, e, _⟩ := r; rw [e]; rfl
  | fn _ => unfold RepD at r; rw [r]; rfl
theorem RepM.isN : ∀ {m : M} {v : V} {fp : List Addr}, RepM K F H0 H m v fp → decide (v = .non) = m.isN := by
  intro m
  induction m using M.rec (motive_2 := fun _ => True) with
  | d x => intro v fp r; exact r.ofD.2.isN
  | fl _ _ => intro v fp r; unfold RepM at r; obtain ⟨a, vs, e, _⟩ := r; rw [e]; rfl
  | fd _ _ => intro v fp r; unfold RepM at r; obtain ⟨a, vs, e, _⟩ := r; rw [e]; rfl
  | ml _ _ _ => intro v fp r; unfold RepM at r; obtain ⟨a, vs, _, e, _⟩ := r; rw [e]; rfl
  | md _ _ _ _ => intro v fp r; unfold RepM at r; obtain ⟨a, vs, _, e, _⟩ := r; rw [e]; rfl
  | mt _ _ => intro v fp r; unfold RepM at r; obtain ⟨a, vs, e, _⟩ := r; rw [e]; rfl
  | ob _ _ _ _ _ _ => intro v fp r; unfold RepM at r; obtain ⟨_, _, _, e, _⟩ := r; rw [e]; rfl
  | pk m m0 h1 _ => intro v fp r; unfold RepM at r; obtain ⟨_, _, _, _, q, _⟩ := r; exact h1 q
  | nil => trivial
  | cons _ _ _ _ => trivial
def wIsN (neg : Bool) : WR2 := fun x y Q => match y with
  | .d .non => Q (.d (.bl (if neg then !x.isN else x.isN)))
  | _ => False
theorem s_isN : OpS X (fun x y H Q => y = .non ∧ Q (.bl (decide (x = .non))) H) (wIsN false) where
  mono := fun h q => by unfold wIsN at q ⊢; split at q <;> first | exact h _ q | exact q
  run := fun s z rx ry q h => by
    unfold wIsN at q
    split at q
    · refine ⟨ry.ofD.2.ofNon, ?_⟩
      rw [rx.isN]
      exact (h _ q).here s (.d .bl)
    · exact q.elim
theorem s_notN : OpS X (fun x y H Q => y = .non ∧ Q (.bl (!decide (x = .non))) H) (wIsN true) where
  mono := fun h q => by unfold wIsN at q ⊢; split at q <;> first | exact h _ q | exact q
  run := fun s z rx ry q h => by
    unfold wIsN at q
    split at q
    · refine ⟨ry.ofD.2.ofNon, ?_⟩
      rw [rx.isN]
      exact (h _ q).here s (.d .bl)
    · exact q.elim
theorem q_isN (ha : QE X a wa) (hb : QE X b wb) : QE X (.Compare a [.Is] [b] pos) (wOp (wIsN false) wa wb) := q_cmp op_isN s_isN ha hb (nomark _)
theorem q_notN (ha : QE X a wa) (hb : QE X b wb) : QE X (.Compare a [.IsNot] [b] pos) (wOp (wIsN true) wa wb) := q_cmp op_notN s_notN ha hb (nomark _)
theorem t_isN (ha : QE X a wa) (hb : QE X b wb) : QT X (.Compare a [.Is] [b] pos) (wTB (wOp (wIsN false) wa wb)) := t_cmp op_isN s_isN ha hb (nomark _)
theorem t_notN (ha : QE X a wa) (hb : QE X b wb) : QT X (.Compare a [.IsNot] [b] pos) (wTB (wOp (wIsN true) wa wb)) := t_cmp op_notN s_notN ha hb (nomark _)
/-! ### == of data -/
mutual
def D.py : D → PyData
  | .non => .none
  | .bl b => .bool b
  | .int i => .int i
  | .str x => .str x
  | .tup l => .tuple (D.pys l)
  | .lst l => .list (D.pys l)
  | .scr l => .list (D.pys l)
  | .exc _ _ _ => .str ⟨#[0x110000]⟩
  | .dct _ _ => .str ⟨#[0x110000]⟩
  | .obj _ _ _ => .str ⟨#[0x110000]⟩
  | .fn _ => .str ⟨#[0x110000]⟩
def D.pys : List D → List PyData
  | [] => []
  | x :: xs => x.py :: D.pys xs
end
mutual
theorem RepD.dp (s : Same F H) : ∀ {x : D} {v : V}, PyData.canLay0 x.py = true → RepD K F x v → Dp K H v x.py
  | .non, v, _, r => by rw [r.ofNon]; unfold D.py; exact .non
  | .bl _, v, _, r => by rw [r.ofBl]; unfold D.py; exact .bl _
  | .int _, v, _, r => by rw [r.ofInt]; unfold D.py; exact .int _
  | .str _, v, _, r => by rw [r.ofStr]; unfold D.py; exact .str _
  | .tup l, v, c, r => by
    unfold RepD at r; obtain ⟨a, vs, e, q, r⟩ := r; rw [e]; unfold D.py at c ⊢; unfold PyData.canLay0 at c
    exact .tup (Same.sqT s q.sq) (RepDs.dp s c r)
  | .lst l, v, c, r => by
    unfold RepD at r; obtain ⟨a, vs, e, q, r⟩ := r; rw [e]; unfold D.py at c ⊢; unfold PyData.canLay0 at c
    exact .lst (SqL.of (s _ _ q)) (RepDs.dp s c r)
  | .scr l, v, c, r => by
    unfold RepD at r; obtain ⟨a, vs, e, q, r⟩ := r; rw [e]; unfold D.py at c ⊢; unfold PyData.canLay0 at c
    exact .lst (s.seq q) (RepDs.dp s c r)
  | .exc _ _ _, v, c, r => by unfold D.py PyData.canLay0 at c; simp [PyData.strOk] at c
  | .dct _ _, v, c, r => by unfold D.py PyData.canLay0 at c; simp [PyData.strOk] at c
  | .obj _ _ _, v, c, r => by unfold D.py PyData.canLay0 at c; simp [PyData.strOk] at c
  | .fn _, v, c, r => by unfold D.py PyData.canLay0 at c; simp [PyData.strOk] at c
theorem RepDs.dp (s : Same F H) : ∀ {x : List D} {v : List V}, PyData.canLayAll0 (D.pys x) = true → RepDs K F x v → DpAll K H v (D.pys x)
  | [], v, _, r => by unfold RepDs at r; rw [r]; unfold D.pys; exact .nil
  | x :: xs, v, c, r => by
    unfold RepDs at r; obtain ⟨u, w, e, q, r⟩ := r; rw [e]; unfold D.pys at c ⊢; unfold PyData.canLayAll0 at c; rw [Bool.and_eq_true] at c
    exact .cons (RepD.dp s c.1 q) (RepDs.dp s c.2 r)
end
/-! what a tree holds now, as data -/
mutual
def M.snap : M → Option D
  | .d x => some x
  | .fl _ l => some (.lst l)
  | .ml _ l => (M.snaps l).map .lst
  | .mt l => (M.snaps l).map .tup
  | _ => none
def M.snaps : List M → Option (List D)
  | [] => some []
  | m :: ms => match m.snap, M.snaps ms with
    | some x, some xs => some (x :: xs)
    | _, _ => none
end
mutual
theorem RepM.dp (s : Same F H) (z : Same H0 H) : ∀ {m : M} {v : V} {fp : List Addr} {x : D}, m.snap = some x → PyData.canLay0 x.py = true → RepM K F H0 H m v fp → Dp K H v x.py
  | .d y, v, fp, x, e, c, h => by unfold M.snap at e; cases e; exact h.ofD.2.dp s c
  | .fl k l, v, fp, x, e, c, h => by
    unfold M.snap at e; cases e
    unfold RepM at h; obtain ⟨a, vs, e, q, r⟩ := h; rw [e]; unfold D.py at c ⊢; unfold PyData.canLay0 at c
    exact .lst (SqL.of (q.now z)) (r.dp s c)
  | .fd k l, v, fp, x, e, c, h => by unfold M.snap at e; cases e
  | .ml k l, v, fp, x, e, c, h => by
    unfold M.snap at e
    cases q : M.snaps l with
    | none => rw [q] at e; cases e
    | some xs =>
      rw [q] at e; cases e
      unfold RepM at h; obtain ⟨a, vs, f, e, p, r⟩ := h; rw [e]; unfold D.py at c ⊢; unfold PyData.canLay0 at c
      exact .lst (SqL.of (p.now z)) (RepMs.dp s z q c r)
  | .md k ks l, v, fp, x, e, c, h => by unfold M.snap at e; cases e
  | .ob a k c fs l, v, fp, x, e, _, h => by unfold M.snap at e; cases e
  | .pk m m0, v, fp, x, e, c, h => by unfold M.snap at e; cases e
  | .mt l, v, fp, x, e, c, h => by
    unfold M.snap at e
    cases q : M.snaps l with
    | none => rw [q] at e; cases e
    | some xs =>
      rw [q] at e; cases e
      unfold RepM at h; obtain ⟨a, vs, e, p, r⟩ := h; rw [e]; unfold D.py at c ⊢; unfold PyData.canLay0 at c
      exact .tup (Same.sqT s p.sq) (RepMs.dp s z q c r)
theorem RepMs.dp (s : Same F H) (z : Same H0 H) : ∀ {m : List M} {v : List V} {fp : List Addr} {x : List D}, M.snaps m = some x → PyData.canLayAll0 (D.pys x) = true → RepMs K F H0 H m v fp → DpAll K H v (D.pys x)
  | [], v, fp, x, e, c, h => by unfold M.snaps at e; cases e; unfold RepMs at h; rw [h.1]; unfold D.pys; exact .nil
  | m :: ms, v, fp, x, e, c, h => by
    unfold M.snaps at e
    unfold RepMs at h; obtain ⟨u, r, f, f', e1, e2, q, y⟩ := h
    cases q1 : m.snap with
    | none => rw [q1] at e; cases e
    | some x1 =>
      cases q2 : M.snaps ms with
      | none => rw [q1, q2] at e; cases e
      | some xs =>
        rw [q1, q2] at e; cases e
        rw [e1]; unfold D.pys at c ⊢; unfold PyData.canLayAll0 at c; rw [Bool.and_eq_true] at c
        exact .cons (RepM.dp s z q1 c.1 q) (RepMs.dp s z q2 c.2 y)
end
def D.ok (x : D) : Prop := SeqAt.shaped x.py = true
theorem D.ok.lay {x : D} (h : x.ok) : PyData.canLay0 x.py = true := by
  unfold D.ok SeqAt.shaped at h; rw [Bool.and_eq_true] at h; exact h.1
def D.eqb (x y : D) : Bool := PyData.eqv x.py y.py
def wEq (neg : Bool) : WR2 := fun x y Q => match x.snap, y.snap with
  | some a, some b => a.ok ∧ b.ok ∧ Q (.d (.bl (if neg then !a.eqb b else a.eqb b)))
  | _, _ => False
theorem s_eq : OpS X (rEqD X.K) (wEq false) where
  mono := fun h q => by unfold wEq at q ⊢; split at q <;> first | exact ⟨q.1, q.2.1, h _ q.2.2⟩ | exact q
  run := fun s z rx ry q h => by
    unfold wEq at q
    split at q
    · rename_i e1 e2
      exact ⟨_, _, rx.dp s z e1 q.1.lay, ry.dp s z e2 q.2.1.lay, q.1, q.2.1, (h _ q.2.2).here s (.d .bl)⟩
    · exact q.elim
theorem s_ne : OpS X (rNeD X.K) (wEq true) where
  mono := fun h q => by unfold wEq at q ⊢; split at q <;> first | exact ⟨q.1, q.2.1, h _ q.2.2⟩ | exact q
  run := fun s z rx ry q h => by
    unfold wEq at q
    split at q
    · rename_i e1 e2
      exact ⟨_, _, rx.dp s z e1 q.1.lay, ry.dp s z e2 q.2.1.lay, q.1, q.2.1, (h _ q.2.2).here s (.d .bl)⟩
    · exact q.elim
theorem q_eq (hu : X.A.units + 64 < cLine) (ha : QE X a wa) (hb : QE X b wb) : QE X (.Compare a [.Eq] [b] pos) (wOp (wEq false) wa wb) := q_cmp (op_eqD hu) s_eq ha hb (nomark _)
theorem q_ne (hu : X.A.units + 64 < cLine) (ha : QE X a wa) (hb : QE X b wb) : QE X (.Compare a [.NotEq] [b] pos) (wOp (wEq true) wa wb) := q_cmp (op_neD hu) s_ne ha hb (nomark _)
theorem t_eq (hu : X.A.units + 64 < cLine) (ha : QE X a wa) (hb : QE X b wb) : QT X (.Compare a [.Eq] [b] pos) (wTB (wOp (wEq false) wa wb)) := t_cmp (op_eqD hu) s_eq ha hb (nomark _)
theorem t_ne (hu : X.A.units + 64 < cLine) (ha : QE X a wa) (hb : QE X b wb) : QT X (.Compare a [.NotEq] [b] pos) (wTB (wOp (wEq true) wa wb)) := t_cmp (op_neD hu) s_ne ha hb (nomark _)
/-! ### in, of flat things -/
def D.flat : D → Bool
  | .non => true
  | .bl _ => true
  | .int _ => true
  | .str _ => true
  | _ => false
def D.toV : D → V
  | .non => .non
  | .bl b => .bl b
  | .int i => .int i
  | .str x => .str x
  | _ => .non
theorem RepD.flatV {x : D} {v : V} (f : x.flat = true) (r : RepD K F x v) : v = x.toV ∧ flatV v = true := by
  cases x with
  | non => rw [r.ofNon]; exact ⟨rfl, rfl⟩
  | bl _ => rw [r.ofBl]; exact ⟨rfl, rfl⟩
  | int _ => rw [r.ofInt]; exact ⟨rfl, rfl⟩
  | str _ => rw [r.ofStr]; exact ⟨rfl, rfl⟩
  | tup _ => cases f
  | lst _ => cases f
  | scr _ => cases f
  | exc _ _ _ => cases f
  | dct _ _ => cases f
  | obj _ _ _ => cases f
  | fn _ => cases f
theorem RepDs.flatV : ∀ {x : List D} {v : List V}, x.all D.flat = true → RepDs K F x v → v = x.map D.toV ∧ v.all flatV = true
  | [], v, f, r => by unfold RepDs at r; rw [r]; exact ⟨rfl, rfl⟩
  | x :: xs, v, f, r => by
    rw [List.all_cons, Bool.and_eq_true] at f
    unfold RepDs at r; obtain ⟨u, w, e, q, r⟩ := r; rw [e]
    obtain ⟨e1, e2⟩ := q.flatV f.1
    obtain ⟨e3, e4⟩ := RepDs.flatV f.2 r
    exact ⟨by rw [e1, e3]; rfl, by rw [List.all_cons, e2, e4]; rfl⟩
def D.mem (x : D) (l : List D) : Bool := inV x.toV (l.map D.toV)
def wIn (neg : Bool) : WR2 := fun x y Q => match x, y.seqD with
  | .d a, some l => a.flat = true ∧ l.all D.flat = true ∧ Q (.d (.bl (if neg then !a.mem l else a.mem l)))
  | _, _ => False
theorem s_in {neg : Bool} : OpS X (rIn X.K neg) (wIn neg) where
  mono := fun h q => by unfold wIn at q ⊢; split at q <;> first | exact ⟨q.1, q.2.1, h _ q.2.2⟩ | exact q
  run := fun s z rx ry q h => by
    unfold wIn at q
    split at q
    · rename_i l e
      obtain ⟨f1, f2, q⟩ := q
      obtain ⟨a, vs, e1, hq, r⟩ := ry.seq s z e
      obtain ⟨y1, y2⟩ := rx.ofD.2.flatV f1
      obtain ⟨z1, z2⟩ := r.flatV f2
      refine ⟨a, vs, e1, hq, y2, z2, ?_⟩
      rw [y1, z1]
      exact (h _ q).here s (.d .bl)
    · exact q.elim
theorem q_in (ha : QE X a wa) (hb : QE X b wb) (hm : behindInMarks .In b = false := by rfl) : QE X (.Compare a [.In] [b] pos) (wOp (wIn false) wa wb) := q_cmp op_in_seq s_in ha hb hm
theorem q_nin (ha : QE X a wa) (hb : QE X b wb) (hm : behindInMarks .NotIn b = false := by rfl) : QE X (.Compare a [.NotIn] [b] pos) (wOp (wIn true) wa wb) := q_cmp op_notIn_seq s_in ha hb hm
theorem t_in (ha : QE X a wa) (hb : QE X b wb) (hm : behindInMarks .In b = false := by rfl) : QT X (.Compare a [.In] [b] pos) (wTB (wOp (wIn false) wa wb)) := t_cmp op_in_seq s_in ha hb hm
theorem t_nin (ha : QE X a wa) (hb : QE X b wb) (hm : behindInMarks .NotIn b = false := by rfl) : QT X (.Compare a [.NotIn] [b] pos) (wTB (wOp (wIn true) wa wb)) := t_cmp op_notIn_seq s_in ha hb hm
end
end RT
namespace RT
open PySem PySem.Spec PyProof.Rows L2
section
variable {X : Cx} {K : PySem.W.Frag} {F F' H H' H0 F0 : Hp}
/-! ### argument lists -/
def wNil : TAW := fun _ Q _ => Q []
def wCons (wa : TW) (wr : TAW) : TAW := fun ρ Q E => wa ρ (fun x => wr ρ (fun xs => Q (x :: xs)) E) E
variable {a b c e : Expr} {es : List Expr} {wa wb wc : TW} {wr : TAW} {pos : Pos}
theorem qa_nil : QA X [] wNil where
  mono := fun hq _ h => hq _ h
  run := fun W F0 H0 tk => paImp pa_nil fun σ H Qh ⟨ρ, F, r, h⟩ => h [] H F [] (.refl r.s) (by unfold RepMs; exact ⟨rfl, rfl⟩) (fun _ z => nomatch z) List.nodup_nil
theorem qa_cons (ha : QE X e wa) (hr : QA X es wr) (hs : starEach (e :: es) X.env = (false, eval e X.env) :: starEach es X.env := by rfl) : QA X (e :: es) (wCons wa wr) where
  mono := fun hq he h => ha.mono (fun x hx => hr.mono (fun xs => hq _) he hx) he h
  run := fun W F0 H0 tk => paImp (pa_cons (ha.run W F0 H0 tk) (hr.run W F0 H0 tk) hs) fun σ H Qh ⟨ρ, F, rel, h⟩ => by
    refine ⟨ρ, F, rel, ha.mono (fun x hx => ?_) (fun _ q => q) h⟩
    intro u H1 F1 fx x1 rx hfx hnx
    refine ⟨ρ, F1, rel.ext x1, hr.mono (fun xs hxs => ?_) (fun _ q => q.ext x1) hx⟩
    intro vs H2 F2 fy x2 ry hfy hny
    refine hxs (u :: vs) H2 F2 (fx ++ fy) (x1.trans x2) ?_ (fun a ha => ?_) (List.nodup_append.mpr ⟨hnx, hny, fun a ha b hb e => ?_⟩)
    · unfold RepMs
      exact ⟨u, vs, fx, fy, rfl, rfl, rx.ext x2, ry⟩
    · rcases List.mem_append.mp ha with ha | ha
      · exact hfx a ha
      · exact x1.h.free (hfy a ha)
    · subst e
      obtain ⟨_, ⟨o, ho⟩, _⟩ := rx.own a ha
      rw [hfy a hb] at ho; cases ho
/-! ### displays -/
def M.ds : List M → Option (List D)
  | [] => some []
  | .d x :: ms => (M.ds ms).map (x :: ·)
  | _ :: _ => none
theorem RepMs.ds : ∀ {ms : List M} {vs : List V} {fp : List Addr} {l : List D}, M.ds ms = some l → RepMs K F H0 H ms vs fp → fp = [] ∧ RepDs K F l vs
  | [], vs, fp, l, e, r => by unfold M.ds at e; cases e; unfold RepMs at r; exact ⟨r.2, by unfold RepDs; exact r.1⟩
  | .d x :: ms, vs, fp, l, e, r => by
    unfold M.ds at e
    cases q : M.ds ms with
    | none => rw [q] at e; cases e
    | some l' =>
      rw [q] at e; cases e
      unfold RepMs at r
      obtain ⟨v, w, f, g, e1, e2, r1, r2⟩ := r
      obtain ⟨e3, r3⟩ := r1.ofD
      obtain ⟨e4, r4⟩ := RepMs.ds q r2
      rw [e1, e2, e3, e4]
      exact ⟨rfl, .cons r3 r4⟩
  | .fl _ _ :: ms, vs, fp, l, e, r => by unfold M.ds at e; cases e
  | .fd _ _ :: ms, vs, fp, l, e, r => by unfold M.ds at e; cases e
  | .ml _ _ :: ms, vs, fp, l, e, r => by unfold M.ds at e; cases e
  | .md _ _ _ :: ms, vs, fp, l, e, r => by unfold M.ds at e; cases e
  | .ob _ _ _ _ _ :: ms, vs, fp, l, e, r => by unfold M.ds at e; cases e
  | .pk _ _ :: ms, vs, fp, l, e, r => by unfold M.ds at e; cases e
  | .mt _ :: ms, vs, fp, l, e, r => by unfold M.ds at e; cases e
theorem RepMs.length : ∀ {ms : List M} {vs : List V} {fp : List Addr}, RepMs K F H0 H ms vs fp → ms.length = vs.length
  | [], vs, fp, r => by unfold RepMs at r; rw [r.1]; rfl
  | m :: ms, vs, fp, r => by
    unfold RepMs at r
    obtain ⟨v, w, f, g, e1, e2, r1, r2⟩ := r
    rw [e1, List.length_cons, List.length_cons, RepMs.length r2]
def mkT (ms : List M) : M := match M.ds ms with
  | some l => .d (.tup l)
  | none => .mt ms
def mkL (ms : List M) : M := match M.ds ms with
  | some l => .fl .o l
  | none => .ml .o ms
def wTup (w : TAW) : TW := fun ρ Q E => w ρ (fun ms => ms.length ≤ 1000 ∧ Q (mkT ms)) E
def wLst (w : TAW) : TW := fun ρ Q E => w ρ (fun ms => ms.length ≤ 1000 ∧ Q (mkL ms)) E
theorem k1000 {n : Nat} (h : n ≤ 1000) : n ≤ sizeLine := by rw [sizeLine_eq]; omega
theorem q_tup {x1} (h : QA X es wr) : QE X (.Tuple es x1 pos) (wTup wr) where
  mono := fun hq he z => h.mono (fun ms q => ⟨q.1, hq _ q.2⟩) he z
  run := fun W F0 H0 tk => peImp (pe_tupB (h.run W F0 H0 tk)) fun σ H Qh ⟨ρ, F, rel, z⟩ => by
    refine ⟨ρ, F, rel, h.mono (fun ms hm => ?_) (fun _ q => q) z⟩
    intro vs H1 F1 fp x r hf hn
    obtain ⟨hl, q⟩ := hm
    refine ⟨by rw [← r.length]; exact k1000 hl, ?_⟩
    have z1 : Same H0 H1 := rel.e.h.trans x.h
    unfold mkT at q
    cases hd : M.ds ms with
    | some l =>
      rw [hd] at q
      obtain ⟨_, r2⟩ := r.ds hd
      exact .inl ((q.ext x).tup x.s r2)
    | none =>
      rw [hd] at q
      refine .inl fun p o hp ho => ?_
      have x2 := Ext.pure (o := .frz o (.tup vs)) x.s hp
      refine q (.ref p) _ _ fp (x.trans x2) ?_ hf hn
      unfold RepM
      exact ⟨p, vs, rfl, .inl ⟨o, upd_same, ho⟩, r.ext x2⟩
theorem q_lst (h : QA X es wr) : QE X (.List es pos) (wLst wr) where
  mono := fun hq he z => h.mono (fun ms q => ⟨q.1, hq _ q.2⟩) he z
  run := fun W F0 H0 tk => peImp (pe_lst (h.run W F0 H0 tk)) fun σ H Qh ⟨ρ, F, rel, z⟩ => by
    refine ⟨ρ, F, rel, h.mono (fun ms hm => ?_) (fun _ q => q) z⟩
    intro vs H1 F1 fp x r hf hn
    obtain ⟨hl, q⟩ := hm
    refine ⟨by rw [← r.length]; exact k1000 hl, fun p hp => ?_⟩
    have z1 : Same H0 H1 := rel.e.h.trans x.h
    unfold mkL at q
    cases hd : M.ds ms with
    | some l =>
      rw [hd] at q
      obtain ⟨_, r2⟩ := r.ds hd
      exact (q.ext x).mine x.s z1 r2 p hp
    | none =>
      rw [hd] at q
      have x2 := Ext.mine (o := .lst vs) x.s hp
      have pf : p ∉ fp := fun ha => by
        obtain ⟨_, ⟨o, ho⟩, _⟩ := r.own p ha
        rw [hp] at ho; cases ho
      refine q (.ref p) _ _ (p :: fp) (x.trans x2) ?_ (fun a ha => ?_) (List.nodup_cons.mpr ⟨pf, hn⟩)
      · unfold RepM
        exact ⟨p, vs, fp, rfl, ⟨rfl, upd_same, x.s.free hp, z1.free hp⟩, r.ext x2⟩
      · rcases List.mem_cons.mp ha with e | ha
        · rw [e]; exact x.h.free hp
        · exact hf a ha
def wDic0 : TW := fun _ Q _ => Q (.fd .o [])
theorem q_dic0 : QE X (.Dict [] [] pos) wDic0 where
  mono := fun hq _ h => hq _ h
  run := fun W F0 H0 tk => peImp pe_dnewK fun σ H Qh ⟨ρ, F, rel, q⟩ => by
    intro p hp
    refine q (.ref p) _ F [p] (Ext.mine rel.s hp) ?_ (fun a ha => ?_) (List.nodup_cons.mpr ⟨(by simp), List.nodup_nil⟩)
    · unfold RepM
      exact ⟨p, [], rfl, ⟨rfl, upd_same, rel.s.free hp, rel.e.h.free hp⟩, rfl, .nil⟩
    · have : a = p := by simpa using ha
      rw [this]; exact hp
/-! ### subscripts -/
def M.seqM : M → Option (List M)
  | .ml _ l => some l
  | .mt l => some l
  | _ => none
theorem RepMs.get : ∀ {ms : List M} {vs : List V} {fp : List Addr} {i : Nat} {m : M}, RepMs K F H0 H ms vs fp → ms[i]? = some m → ∃ v f, vs[i]? = some v ∧ RepM K F H0 H m v f
  | [], _, _, _, _, _, e => by simp at e
  | x :: xs, vs, fp, 0, m, r, e => by
    unfold RepMs at r
    obtain ⟨v, w, f, g, e1, e2, r1, r2⟩ := r
    simp at e; subst e
    exact ⟨v, f, by rw [e1]; rfl, r1⟩
  | x :: xs, vs, fp, i + 1, m, r, e => by
    unfold RepMs at r
    obtain ⟨v, w, f, g, e1, e2, r1, r2⟩ := r
    obtain ⟨v2, f2, h1, h2⟩ := RepMs.get (i := i) r2 (by simpa using e)
    exact ⟨v2, f2, by rw [e1]; simpa using h1, h2⟩
theorem RepM.seqs (s : Same F H) (z : Same H0 H) {m : M} {v : V} {fp : List Addr} {l : List M} (e : m.seqM = some l) (r : RepM K F H0 H m v fp) : ∃ a vs f, v = .ref a ∧ (SqL K H a vs ∨ SqT K H a vs) ∧ RepMs K F H0 H l vs f := by
  cases m with
  | ml k l' =>
    unfold M.seqM at e; cases e
    unfold RepM at r
    obtain ⟨a, vs, f, e, q, r⟩ := r
    exact ⟨a, vs, f, e, .inl (SqL.of (q.now z)), r⟩
  | mt l' =>
    unfold M.seqM at e; cases e
    unfold RepM at r
    obtain ⟨a, vs, e, q, r⟩ := r
    exact ⟨a, vs, fp, e, .inr (Same.sqT s q.sq), r⟩
  | d _ => cases e
  | fl _ _ => cases e
  | fd _ _ => cases e
  | md _ _ _ => cases e
  | ob _ _ _ _ _ => cases e
  | pk _ _ => cases e
theorem atI_len {α β : Type} {xs : List α} {ys : List β} {i : Int} {x : α} (hl : xs.length = ys.length) (h : atI xs i = some x) : ∃ j : Nat, xs[j]? = some x ∧ ∀ y, ys[j]? = some y → atI ys i = some y := by
  unfold atI at h ⊢
  rw [← hl]
  cases q : ixN xs.length i with
  | none => rw [q] at h; cases h
  | some j => rw [q] at h; exact ⟨j, h, fun y hy => hy⟩
def ixM (x : M) (i : Int) (Q : M → Prop) : Prop := match x.seqD with
  | some l => ∃ y, atI l i = some y ∧ Q (.d y)
  | none => match x.seqM with
    | some l => ∃ y, atI l i = some y ∧ Q y.lock
    | none => False
theorem ixM_mono {x : M} {i : Int} {Q Q' : M → Prop} (h : ∀ m, Q m → Q' m) (q : ixM x i Q) : ixM x i Q' := by
  unfold ixM at q ⊢
  cases e : x.seqD with
  | some l => rw [e] at q; obtain ⟨y, q2, q⟩ := q; exact ⟨y, q2, h _ q⟩
  | none =>
    rw [e] at q
    cases e2 : x.seqM with
    | some l => rw [e2] at q; obtain ⟨y, q2, q⟩ := q; exact ⟨y, q2, h _ q⟩
    | none => rw [e2] at q; exact q.elim
theorem ixM_run {x : M} {i : Int} {v : V} {fp : List Addr} {Q : M → Prop} {Qh : VK} (s : Same F H) (z : Same H0 H) (rx : RepM K F H0 H x v fp) (q : ixM x i Q) (h : ∀ m, Q m → KQ K H0 F H Qh m) :
    ∃ a vs u, v = .ref a ∧ (SqL K H a vs ∨ SqT K H a vs) ∧ atI vs i = some u ∧ Qh u H := by
  unfold ixM at q
  cases e : x.seqD with
  | some l =>
    rw [e] at q; obtain ⟨y, q2, q⟩ := q
    obtain ⟨a, vs, e1, hq, r⟩ := rx.seq s z e
    obtain ⟨j, j1, j2⟩ := atI_len r.length q2
    obtain ⟨u, u1, u2⟩ := r.get j1
    exact ⟨a, vs, u, e1, hq, j2 u u1, (h _ q).here s (.d u2)⟩
  | none =>
    rw [e] at q
    cases e2 : x.seqM with
    | some l =>
      rw [e2] at q; obtain ⟨y, q2, q⟩ := q
      obtain ⟨a, vs, f, e1, hq, r⟩ := rx.seqs s z e2
      obtain ⟨j, j1, j2⟩ := atI_len r.length q2
      obtain ⟨u, _, u1, u2⟩ := r.get j1
      exact ⟨a, vs, u, e1, hq, j2 u u1, (h _ q).here s u2.lock⟩
    | none => rw [e2] at q; exact q.elim
def wIx : WR2 := fun x y Q => match x, y with
  | .d (.str z), .d (.int i) => z.length ≤ sizeLine ∧ ∃ c, atI z.cps.toList i = some c ∧ Q (.d (.str ⟨#[c]⟩))
  | x, .d (.int i) => ixM x i Q
  | _, _ => False
theorem s_ix : OpS X (rIx X.K) wIx where
  mono := fun h q => by
    unfold wIx at q ⊢
    split at q
    · obtain ⟨q1, c, q2, q⟩ := q; exact ⟨q1, c, q2, h _ q⟩
    · exact ixM_mono h q
    · exact q
  run := fun s z rx ry q h => by
    unfold wIx at q
    split at q
    · obtain ⟨q1, c, q2, q⟩ := q
      exact .inr (.inr ⟨_, _, c, rx.ofD.2.ofStr, ry.ofD.2.ofInt, q1, q2, (h _ q).here s (.d .str)⟩)
    · obtain ⟨a, vs, u, e1, hq, j, q⟩ := ixM_run s z rx q h
      rcases hq with hq | hq
      · exact .inl ⟨a, vs, _, u, e1, ry.ofD.2.ofInt, hq, j, q⟩
      · exact .inr (.inl ⟨a, vs, _, u, e1, ry.ofD.2.ofInt, hq, j, q⟩)
    · exact q.elim
theorem q_ix (ha : QE X a wa) (hb : QE X b wb) (hs : PlainIx b := by intro _ _; rfl) : QE X (.Subscript a b pos) (wOp wIx wa wb) := q_of2 s_ix ha hb fun h h' => pe_ix ix_seq h h' hs
/-! ### slices -/
abbrev TOW := Sg → (Option Int → Prop) → XP → Prop
def liftO (X : Cx) (W : WX) (F0 H0 : Hp) (w : TOW) : TO := fun σ H Qh => ∃ ρ F, Rel X.K F0 H0 ρ σ [] [] F H ∧ w ρ (fun o => ∀ H' F', Ext F H F' H' → Qh o H') (XQ X W σ F H)
structure QO (X : Cx) (e : Option Expr) (w : TOW) : Prop where
  mono : ∀ {ρ : Sg} {Q Q' : Option Int → Prop} {E E' : XP}, (∀ m, Q m → Q' m) → (∀ x, E x → E' x) → w ρ Q E → w ρ Q' E'
  run : ∀ (W : WX) (F0 H0 : Hp), Takes X W → PO X e (liftO X W F0 H0 w)
def wPart (w : TW) : TOW := fun ρ Q E => w ρ (fun m => match m with | .d (.int i) => Q (some i) | _ => False) E
theorem poImp {e : Option Expr} {t t' : TO} (h : PO X e t) (i : ∀ σ H Q, t' σ H Q → t σ H Q) : PO X e t' := ⟨fun pins s σ H Q I q => h.run pins s σ H Q I (i σ H Q q)⟩
theorem qo_none : QO X none (fun _ Q _ => Q none) where
  mono := fun hq _ h => hq _ h
  run := fun W F0 H0 tk => poImp po_none fun σ H Qh ⟨ρ, F, rel, q⟩ => q H F (.refl rel.s)
theorem qo_some (h : QE X e wa) : QO X (some e) (wPart wa) where
  mono := fun hq he z => h.mono (fun m q => by split at q <;> first | exact hq _ q | exact q) he z
  run := fun W F0 H0 tk => poImp (po_some (h.run W F0 H0 tk)) fun σ H Qh ⟨ρ, F, rel, q⟩ => ⟨ρ, F, rel, h.mono (fun m hm => by
    intro v H' F' fp x rm _ _
    split at hm
    · exact ⟨_, rm.ofD.2.ofInt, hm H' F' x⟩
    · exact hm.elim) (fun _ q => q) q⟩
def cut {α : Type} (l : List α) (lo hi : Option Int) : List α := (l.drop (HT.sIx l.length 0 lo)).take (HT.sIx l.length l.length hi - HT.sIx l.length 0 lo)
theorem RepDs.cut {l : List D} {vs : List V} {lo hi : Option Int} (r : RepDs K F l vs) : RepDs K F (cut l lo hi) (cutV vs lo hi) := by
  unfold RT.cut cutV
  rw [r.length]
  exact (r.drop _).take _
theorem cut_whole {α : Type} {l : List α} {lo hi : Option Int} (z : HT.sIx l.length 0 lo = 0 ∧ HT.sIx l.length l.length hi = l.length) : cut l lo hi = l := by
  unfold cut
  rw [z.1, z.2, List.drop_zero, Nat.sub_zero, List.take_length]
def slM (x : M) (lo hi : Option Int) (Q : M → Prop) : Prop := match x with
  | .d (.str z) => z.length ≤ sizeLine ∧ Q (.d (.str (cutS z lo hi)))
  | .d (.tup l) => Q (.d (.tup (cut l lo hi)))
  | .d (.scr l) => Q (.fl .o (cut l lo hi))
  | x => ∃ l, x.lstD = some l ∧ Q (.fl .o (cut l lo hi))
def rSlA (K : PySem.W.Frag) : V → Option Int → Option Int → Hp → VK → Prop := fun x lo hi H Q => rSlL K x lo hi H Q ∨ rSlTB K x lo hi H Q ∨ rSlS x lo hi H Q
theorem sl_any : SlR X (rSlA X.K) := sl_list.or (sl_tupB.or sl_str)
theorem slM_mono {x : M} {lo hi : Option Int} {Q Q' : M → Prop} (h : ∀ m, Q m → Q' m) (q : slM x lo hi Q) : slM x lo hi Q' := by
  unfold slM at q ⊢
  split at q
  · exact ⟨q.1, h _ q.2⟩
  · exact h _ q
  · exact h _ q
  · obtain ⟨l, e, q⟩ := q; exact ⟨l, e, h _ q⟩
theorem slM_run {x : M} {lo hi : Option Int} {v : V} {fp : List Addr} {Q : M → Prop} {Qh : VK} (s : Same F H) (z : Same H0 H) (rx : RepM K F H0 H x v fp) (q : slM x lo hi Q) (h : ∀ m, Q m → KQ K H0 F H Qh m) : rSlA K v lo hi H Qh := by
  unfold slM at q
  split at q
  · exact .inr (.inr ⟨_, rx.ofD.2.ofStr, q.1, (h _ q.2).here s (.d .str)⟩)
  · obtain ⟨a, vs, e, p, r⟩ := (by have := rx.ofD.2; unfold RepD at this; exact this)
    refine .inr (.inl ⟨a, vs, e, Same.sqT s p.sq, fun z => ?_, fun _ => (h _ q).tup s r.cut⟩)
    rw [← r.length] at z
    have ec : cut _ lo hi = _ := cut_whole z
    rw [ec] at q
    refine (h _ q).here s (.d ?_)
    unfold RepD
    exact ⟨a, vs, rfl, p, r⟩
  · obtain ⟨a, vs, e, p, r⟩ := (by have := rx.ofD.2; unfold RepD at this; exact this)
    exact .inl ⟨a, vs, e, s.seq p, (h _ q).mine s z r.cut⟩
  · obtain ⟨l, e, q⟩ := q
    obtain ⟨a, vs, e1, p, r⟩ := rx.lst s z e
    exact .inl ⟨a, vs, e1, SqL.of p, (h _ q).mine s z r.cut⟩
def wSlc (wa : TW) (wl wh : TOW) : TW := fun ρ Q E => wa ρ (fun x => wl ρ (fun lo => wh ρ (fun hi => slM x lo hi Q) E) E) E
theorem q_slc {lo hi : Option Expr} {wl wh : TOW} {p2} (ha : QE X a wa) (hl : QO X lo wl) (hh : QO X hi wh) : QE X (.Subscript a (.Slice lo hi none p2) pos) (wSlc wa wl wh) where
  mono := fun hq he z => ha.mono (fun x z => hl.mono (fun l z => hh.mono (fun u z => slM_mono hq z) he z) he z) he z
  run := fun W F0 H0 tk => peImp (pe_slice sl_any (ha.run W F0 H0 tk) (hl.run W F0 H0 tk) (hh.run W F0 H0 tk)) fun σ H Qh ⟨ρ, F, rel, z⟩ => by
    refine ⟨ρ, F, rel, ha.mono (fun x hx => ?_) (fun _ q => q) z⟩
    intro u H1 F1 fx x1 rx hfx hnx
    refine ⟨ρ, F1, rel.ext x1, hl.mono (fun l hl' => ?_) (fun _ q => q.ext x1) hx⟩
    intro H2 F2 x2
    refine ⟨ρ, F2, (rel.ext x1).ext x2, hh.mono (fun h' hh' => ?_) (fun _ q => (q.ext x1).ext x2) hl'⟩
    intro H3 F3 x3
    exact slM_run x3.s ((((rel.ext x1).ext x2).ext x3).e.h) ((rx.ext x2).ext x3) hh' fun m hm => ((hm.ext x1).ext x2).ext x3
end
end RT
namespace RT
open PySem PySem.Spec PyProof.Rows L2
section
variable {X : Cx} {K : PySem.W.Frag} {F F' H H' H0 F0 : Hp}
/-! ### calls of what is built in -/
abbrev WCl := List M → (M → Prop) → Prop
structure CalS (X : Cx) (r : List V → Hp → VK → Prop) (wr : WCl) : Prop where
  mono : ∀ {xs : List M} {Q Q' : M → Prop}, (∀ m, Q m → Q' m) → wr xs Q → wr xs Q'
  run : ∀ {H0 F H : Hp} {xs : List M} {vs : List V} {fp : List Addr} {Q : M → Prop} {Qh : VK}, Same F H → Same H0 H → RepMs X.K F H0 H xs vs fp → wr xs Q → (∀ m, Q m → KQ X.K H0 F H Qh m) → r vs H Qh
def wCl (wr : WCl) (w : TAW) : TW := fun ρ Q E => w ρ (fun ms => wr ms Q) E
variable {a b c e : Expr} {es : List Expr} {wa wb wc : TW} {w : TAW} {pos p : Pos} {x : Str} {id T : String} {r : List V → Hp → VK → Prop} {wr : WCl}
theorem q_cb (cs : CalS X r wr) (hc : CallR X (.builtin id) r) (hg : Gl X x) (hm : X.mg x = none) (hv : bootBuiltins x = some (.builtin id)) (ha : QA X (e :: es) w) (hn : x ≠ "__name__" := by decide) (hdb : (x == ("__debug__" : Str)) = false := by decide)
    (he : starEach (e :: es) X.env = (false, eval e X.env) :: starEach es X.env := by rfl) (hpl : (backTo pos (starEach es X.env)).any (·.1) = false := by rfl) : QE X (.Call (.Name x p) (e :: es) [] pos) (wCl wr w) where
  mono := fun hq h z => ha.mono (fun ms q => cs.mono hq q) h z
  run := fun W F0 H0 tk => peImp (pe_callB hc hg hm hv (ha.run W F0 H0 tk) hn hdb he hpl) fun σ H Qh ⟨ρ, F, rel, z⟩ =>
    ⟨ρ, F, rel, ha.mono (fun ms q => fun vs H1 F1 fp x r _ _ => cs.run x.s (rel.e.h.trans x.h) r q fun m hm => hm.ext x) (fun _ q => q) z⟩
theorem q_ct (cs : CalS X r wr) (hc : CallR X (.type T) r) (hg : Gl X x) (hm : X.mg x = none) (hv : bootBuiltins x = some (.type T)) (ha : QA X (e :: es) w) (hn : x ≠ "__name__" := by decide) (hdb : (x == ("__debug__" : Str)) = false := by decide)
    (he : starEach (e :: es) X.env = (false, eval e X.env) :: starEach es X.env := by rfl) (hpl : (backTo pos (starEach es X.env)).any (·.1) = false := by rfl) : QE X (.Call (.Name x p) (e :: es) [] pos) (wCl wr w) where
  mono := fun hq h z => ha.mono (fun ms q => cs.mono hq q) h z
  run := fun W F0 H0 tk => peImp (pe_callTy hc hg hm hv (ha.run W F0 H0 tk) hn hdb he hpl) fun σ H Qh ⟨ρ, F, rel, z⟩ =>
    ⟨ρ, F, rel, ha.mono (fun ms q => fun vs H1 F1 fp x r _ _ => cs.run x.s (rel.e.h.trans x.h) r q fun m hm => hm.ext x) (fun _ q => q) z⟩
theorem RepMs.one {m : M} {vs : List V} {fp : List Addr} (r : RepMs K F H0 H [m] vs fp) : ∃ v, vs = [v] ∧ RepM K F H0 H m v fp := by
  unfold RepMs at r
  obtain ⟨v, w, f, g, e1, e2, r1, r2⟩ := r
  unfold RepMs at r2
  rw [e1, e2, r2.1, r2.2, List.append_nil]
  exact ⟨v, rfl, r1⟩
theorem RepMs.two {m m' : M} {vs : List V} {fp : List Addr} (r : RepMs K F H0 H [m, m'] vs fp) : ∃ v v' f f', vs = [v, v'] ∧ RepM K F H0 H m v f ∧ RepM K F H0 H m' v' f' := by
  unfold RepMs at r
  obtain ⟨v, w, f, g, e1, e2, r1, r2⟩ := r
  obtain ⟨v', e3, r3⟩ := r2.one
  exact ⟨v, v', f, g, by rw [e1, e3], r1, r3⟩
def on1 (P : M → Prop) : List M → Prop := fun l => match l with
  | [m] => P m
  | _ => False
theorem on1_mono {P P' : M → Prop} {l : List M} (h : ∀ m, P m → P' m) (q : on1 P l) : on1 P' l := by
  unfold on1 at q ⊢; split at q <;> first | exact h _ q | exact q
theorem on1_of {P : M → Prop} {l : List M} (q : on1 P l) : ∃ m, l = [m] ∧ P m := by
  unfold on1 at q; split at q <;> first | exact ⟨_, rfl, q⟩ | exact q.elim
def on2 (P : M → M → Prop) : List M → Prop := fun l => match l with
  | [m, n] => P m n
  | _ => False
theorem on2_mono {P P' : M → M → Prop} {l : List M} (h : ∀ m n, P m n → P' m n) (q : on2 P l) : on2 P' l := by
  unfold on2 at q ⊢; split at q <;> first | exact h _ _ q | exact q
theorem on2_of {P : M → M → Prop} {l : List M} (q : on2 P l) : ∃ m n, l = [m, n] ∧ P m n := by
  unfold on2 at q; split at q <;> first | exact ⟨_, _, rfl, q⟩ | exact q.elim
/-! ### len -/
def M.len : M → Option Nat
  | .d (.str z) => if z.length ≤ sizeLine then some z.length else none
  | .d (.tup l) => some l.length
  | .d (.lst l) => some l.length
  | .d (.scr l) => some l.length
  | .fl _ l => some l.length
  | .ml _ l => some l.length
  | .mt l => some l.length
  | .fd _ l => some l.length
  | .md _ ks _ => some ks.length
  | _ => none
def wLen : WCl := fun xs Q => on1 (fun m => ∃ n, m.len = some n ∧ Q (.d (.int n))) xs
def rLenD : List V → Hp → VK → Prop := fun xs H Q => ∃ a kvs, xs = [.ref a] ∧ H a = some (.dK kvs) ∧ Q (.int kvs.length) H
theorem call_lenD' : CallR X (.builtin "len") rLenD := by
  intro pins s σ H xs us Q I r h
  obtain ⟨a, kvs, rfl, e, q⟩ := h
  obtain ⟨u, rfl, rx⟩ := vals1 r
  cases rx
  exact d_len I (.inl e) fun t s' I' => ⟨.int kvs.length, H, I', ⟨_, rfl⟩, q⟩
def rLenA (K : PySem.W.Frag) : List V → Hp → VK → Prop := fun xs H Q => (∃ x n, xs = [x] ∧ LenV K x H n ∧ Q (.int n) H) ∨ rLenD xs H Q
theorem call_lenA : CallR X (.builtin "len") (rLenA X.K) := call_len.or call_lenD'
theorem s_len : CalS X (rLenA X.K) wLen where
  mono := fun h q => on1_mono (fun m ⟨n, e, q⟩ => ⟨n, e, h _ q⟩) q
  run := fun {H0 F H xs vs fp Q Qh} s z rs q h => by
    obtain ⟨m, e, n, hl, qq⟩ := on1_of q
    clear q
    subst e
    obtain ⟨v, e, r⟩ := rs.one
    subst e
    have fin : Qh (.int n) H := (h _ qq).here s (.d .int)
    have sq : ∀ l : List D, m.seqD = some l → n = l.length → rLenA X.K [v] H Qh := fun l e1 e2 => by
      obtain ⟨a, vs, ev, hq, r2⟩ := r.seq s z e1
      refine .inl ⟨v, n, rfl, ?_, fin⟩
      rw [ev, e2, r2.length]
      rcases hq with hq | hq
      · exact .inl ⟨vs, hq, rfl⟩
      · exact .inr ⟨vs, hq, rfl⟩
    have sm : ∀ l : List M, m.seqM = some l → n = l.length → rLenA X.K [v] H Qh := fun l e1 e2 => by
      obtain ⟨a, vs, f, ev, hq, r2⟩ := r.seqs s z e1
      refine .inl ⟨v, n, rfl, ?_, fin⟩
      rw [ev, e2, r2.length]
      rcases hq with hq | hq
      · exact .inl ⟨vs, hq, rfl⟩
      · exact .inr ⟨vs, hq, rfl⟩
    cases m with
    | d y =>
      cases y with
      | str y =>
        unfold M.len at hl
        by_cases hy : y.length ≤ sizeLine
        · simp only [hy, if_true] at hl
          cases hl
          rw [r.ofD.2.ofStr]
          exact .inl ⟨_, _, rfl, ⟨hy, rfl⟩, fin⟩
        · simp only [hy, if_false] at hl
          cases hl
      | tup l => cases hl; exact sq l rfl rfl
      | lst l => cases hl; exact sq l rfl rfl
      | scr l => cases hl; exact sq l rfl rfl
      | exc _ _ _ => cases hl
      | dct _ _ => cases hl
      | obj _ _ _ => cases hl
      | fn _ => cases hl
      | non => cases hl
      | bl _ => cases hl
      | int _ => cases hl
    | fl k l => cases hl; exact sq l rfl rfl
    | ml k l => cases hl; exact sm l rfl rfl
    | mt l => cases hl; exact sm l rfl rfl
    | fd k l =>
      cases hl
      unfold RepM at r
      obtain ⟨a, kvs, e, q, e2, r⟩ := r
      have hk : kvs.length = l.length := by have := congrArg List.length e2; simpa using this
      refine .inr ⟨a, kvs, by rw [e], q.now z, ?_⟩
      rw [hk]; exact fin
    | ob _ _ _ _ _ => cases hl
    | pk _ _ => cases hl
    | md k ks l =>
      cases hl
      unfold RepM at r
      obtain ⟨a, kvs, f, e, q, e2, r⟩ := r
      have hk : kvs.length = ks.length := by have := congrArg List.length e2; simpa using this
      refine .inr ⟨a, kvs, by rw [e], q.now z, ?_⟩
      rw [hk]; exact fin
theorem q_len (hg : Gl X "len") (hm : X.mg "len" = none) (ha : QE X a wa) (hs : starEach [a] X.env = [(false, eval a X.env)] := by rfl) : QE X (.Call (.Name "len" p) [a] [] pos) (wCl wLen (wCons wa wNil)) :=
  q_cb s_len call_lenA hg hm PySem.boot_len (qa_cons ha qa_nil hs) (by decide) (by decide) hs rfl
/-! ### tuple, list -/
def wTupOf : WCl := fun xs Q => on1 (fun m => ∃ l, m.seqD = some l ∧ Q (.d (.tup l))) xs
theorem s_tupOf : CalS X (rTupOf X.K) wTupOf where
  mono := fun h q => on1_mono (fun m ⟨n, e, q⟩ => ⟨n, e, h _ q⟩) q
  run := fun {H0 F H xs vs fp Q Qh} s z rs q h => by
    obtain ⟨m, e, l, hl, qq⟩ := on1_of q
    clear q
    subst e
    obtain ⟨v, e, r⟩ := rs.one
    subst e
    have ls : ∀ a us, v = .ref a → SqL X.K H a us → RepDs X.K F l us → rTupOf X.K [v] H Qh := fun a us e1 hq r2 => ⟨a, us, by rw [e1], .inl ⟨hq, (h _ qq).tup s r2⟩⟩
    unfold M.seqD at hl
    split at hl
    · cases hl
      obtain ⟨a, us, e1, p, r2⟩ := (by have := r.ofD.2; unfold RepD at this; exact this)
      refine ⟨a, us, by rw [e1], .inr ⟨Same.sqT s p.sq, (h _ qq).here s (.d ?_)⟩⟩
      unfold RepD
      exact ⟨a, us, rfl, p, r2⟩
    · cases hl
      obtain ⟨a, us, e1, p, r2⟩ := (by have := r.ofD.2; unfold RepD at this; exact this)
      exact ls a us e1 (SqL.of (s _ _ p)) r2
    · cases hl
      obtain ⟨a, us, e1, p, r2⟩ := (by have := r.ofD.2; unfold RepD at this; exact this)
      exact ls a us e1 (s.seq p) r2
    · cases hl
      unfold RepM at r
      obtain ⟨a, us, e1, p, r2⟩ := r
      exact ls a us e1 (SqL.of (p.now z)) r2
    · cases hl
theorem q_tupOf (hg : Gl X "tuple") (hm : X.mg "tuple" = none) (ha : QE X a wa) (hs : starEach [a] X.env = [(false, eval a X.env)] := by rfl) : QE X (.Call (.Name "tuple" p) [a] [] pos) (wCl wTupOf (wCons wa wNil)) :=
  q_ct s_tupOf call_tuple_ofB hg hm boot_tuple (qa_cons ha qa_nil hs) (by decide) (by decide) hs rfl
def wLstOf : WCl := fun xs Q => on1 (fun m => ∃ l, m.seqD = some l ∧ Q (.fl .o l)) xs
theorem s_lstOf : CalS X (fun xs H Q => ∃ p ys, xs = [.ref p] ∧ (SqL X.K H p ys ∨ SqT X.K H p ys) ∧ ∀ l, H l = none → Q (.ref l) (upd H l (.lst ys))) wLstOf where
  mono := fun h q => on1_mono (fun m ⟨n, e, q⟩ => ⟨n, e, h _ q⟩) q
  run := fun {H0 F H xs vs fp Q Qh} s z rs q h => by
    obtain ⟨m, e, l, hl, qq⟩ := on1_of q
    clear q
    subst e
    obtain ⟨v, e, r⟩ := rs.one
    subst e
    obtain ⟨a, us, e1, hq, r2⟩ := r.seq s z hl
    exact ⟨a, us, by rw [e1], hq, (h _ qq).mine s z r2⟩
theorem q_lstOf (hg : Gl X "list") (hm : X.mg "list" = none) (ha : QE X a wa) (hs : starEach [a] X.env = [(false, eval a X.env)] := by rfl) : QE X (.Call (.Name "list" p) [a] [] pos) (wCl wLstOf (wCons wa wNil)) :=
  q_ct s_lstOf call_list_of hg hm boot_list (qa_cons ha qa_nil hs) (by decide) (by decide) hs rfl
/-- list(range(n)) -/
def iota (n : Int) : List D := (List.range n.toNat).map fun i => .int (i : Nat)
theorem reps_map {α : Type} {f : α → D} {g : α → V} (h : ∀ a, RepD K F (f a) (g a)) : ∀ l : List α, RepDs K F (l.map f) (l.map g)
  | [] => .nil
  | x :: xs => .cons (h x) (reps_map h xs)
def wLstRg (wa : TW) : TW := fun ρ Q E => wa ρ (fun m => match m with
  | .d (.int n) => n ≤ 16777216 ∧ -16777216 ≤ n ∧ Q (.fl .o (iota n))
  | _ => False) E
theorem q_lstRg {p2 pos2 : Pos} (hc : X.calm = true) (hg : Gl X "list") (hm : X.mg "list" = none) (hg2 : Gl X "range") (hm2 : X.mg "range" = none) (ha : QE X a wa) (hs : starEach [a] X.env = [(false, eval a X.env)] := by rfl)
    (hs2 : starEach [Expr.Call (.Name "range" p2) [a] [] pos2] X.env = [(false, eval (Expr.Call (.Name "range" p2) [a] [] pos2) X.env)] := by rfl) : QE X (.Call (.Name "list" p) [.Call (.Name "range" p2) [a] [] pos2] [] pos) (wLstRg wa) where
  mono := fun hq h z => ha.mono (fun m q => by split at q <;> first | exact ⟨q.1, q.2.1, hq _ q.2.2⟩ | exact q) h z
  run := fun W F0 H0 tk => peImp (pe_listRg hc hg hm (prg_1 hg2 hm2 (ha.run W F0 H0 tk) hs) hs2) fun σ H Qh ⟨ρ, F, rel, z⟩ =>
    ⟨ρ, F, rel, ha.mono (fun m hm v H1 F1 fp x rm _ _ => by
      split at hm
      · rename_i n
        have h1 := hm.1
        refine ⟨n, rm.ofD.2.ofInt, ⟨by omega, by omega, ?_, by omega, by omega⟩, ?_⟩
        · have h2 := hm.2.1; omega
        · refine (hm.2.2.ext x).mine x.s (rel.e.h.trans x.h) ?_
          unfold iota rgV
          rw [Int.sub_zero]
          exact reps_map (fun i => by rw [Int.zero_add]; exact .int) _
      · exact hm.elim) (fun _ q => q) z⟩
end
end RT
namespace RT
open PySem PySem.Spec PyProof.Rows L2
/-! ### calls of one's own defs -/
abbrev TSp := List M → (M → Prop) → XP → Prop
def spOf (mg : Str → Option Value) (K : PySem.W.Frag) (T : TSp) : Sp := fun vs H Q E => ∃ F ms, Same F H ∧ RepMs K F H H ms vs [] ∧
  T ms (fun m => m.ret = true → ∀ v H' F' fp, Ext F H F' H' → RepM K F' H H' m v fp → fp.Nodup → Q v H') (fun x => ∀ cls d H' F', Ext F H F' H' → RepX mg K F' H' x cls d → E cls d H')
/-- the def that the module's name x holds keeps T, by at most level k; ds: the defaults that fill up -/
structure Fx (P : Program) (w : World) (K : PySem.W.Frag) (mg : Str → Option Value) (base : Heap) (x : Str) (k : Nat) (ds : List D) (T : TSp) : Prop where
  mono : ∀ {ms : List M} {Q Q' : M → Prop} {E E' : XP}, (∀ m, Q m → Q' m) → (∀ x, E x → E' x) → T ms Q E → T ms Q' E'
  ok : ∃ f fd ps dv du, FnOk P w K mg base (L2.CX P w) k f fd ps (spOf mg K T) ∧ mg x = some (.ref f) ∧ PySem.W.keepIn K (.ref f) = true ∧ Binds K fd ps du ∧ Vals dv du ∧ ∀ F, RepDs K F ds dv
theorem Fx.up {P : Program} {w : World} {K : PySem.W.Frag} {mg : Str → Option Value} {base : Heap} {x : Str} {j k : Nat} {ds : List D} {T : TSp} (h : Fx P w K mg base x j ds T) (l : j ≤ k) : Fx P w K mg base x k ds T :=
  ⟨h.mono, let ⟨f, fd, ps, dv, du, F, r⟩ := h.ok; ⟨f, fd, ps, dv, du, F.mono l, r⟩⟩
section
variable {X : Cx} {K : PySem.W.Frag} {F F' H H' H0 F0 : Hp}
theorem reps_d : ∀ {ds : List D} {dv : List V}, RepDs K F ds dv → RepMs K F H0 H (ds.map .d) dv []
  | [], dv, h => by unfold RepDs at h; unfold RepMs; exact ⟨h, rfl⟩
  | d :: ds, dv, h => by
    unfold RepDs at h
    obtain ⟨v, r, e, q, z⟩ := h
    show RepMs K F H0 H (.d d :: ds.map .d) dv []
    unfold RepMs
    exact ⟨v, r, [], [], e, rfl, .d q, reps_d z⟩
theorem RepMs.append : ∀ {ms ns : List M} {vs us : List V}, RepMs K F H0 H ms vs [] → RepMs K F H0 H ns us [] → RepMs K F H0 H (ms ++ ns) (vs ++ us) []
  | [], ns, vs, us, h, h' => by unfold RepMs at h; rw [h.1]; exact h'
  | m :: ms, ns, vs, us, h, h' => by
    unfold RepMs at h
    obtain ⟨v, r, f, g, e, e2, q, z⟩ := h
    obtain ⟨rfl, rfl⟩ := List.append_eq_nil_iff.mp e2.symm
    rw [e]
    show RepMs K F H0 H (m :: (ms ++ ns)) (v :: (r ++ us)) []
    unfold RepMs
    exact ⟨v, r ++ us, [], [], rfl, rfl, q, RepMs.append z h'⟩
variable {e : Expr} {es : List Expr} {w : TAW} {pos p : Pos} {x : Str} {k : Nat} {ds : List D} {T : TSp}
def wOwn (T : TSp) (ds : List D) (w : TAW) : TW := fun ρ Q E => w ρ (fun ms => T (M.toPs ms ++ ds.map .d) Q E) E
theorem q_own (h : Fx X.prog X.w X.K X.mg X.base x k ds T) (hr : Room k X.A) (hg : Gl X x) (ha : QA X (e :: es) w) (hdb : (x == ("__debug__" : Str)) = false := by decide)
    (he : starEach (e :: es) X.env = (false, eval e X.env) :: starEach es X.env := by rfl) (hpl : (backTo pos (starEach es X.env)).any (·.1) = false := by rfl) : QE X (.Call (.Name x p) (e :: es) [] pos) (wOwn T ds w) where
  mono := fun hq he z => ha.mono (fun ms q => h.mono hq he q) he z
  run := fun W F0 H0 tk => by
    obtain ⟨f, fd, ps, dv, du, F, hm, hk, hb, hd, hds⟩ := h.ok
    refine peImp (pe_callSD (E := fun σ => WE W σ) F hr hg hm hk hb hd (fun σ => passAt tk σ) (ha.run W F0 H0 tk) hdb he hpl) fun σ H Qh ⟨ρ, F, rel, z⟩ => ?_
    refine ⟨ρ, F, rel, ha.mono (fun ms q => ?_) (fun _ q => q) z⟩
    intro vs H1 F1 fp x r hf hn
    have z1 : Same H0 H1 := rel.e.h.trans x.h
    refine ⟨F1, M.toPs ms ++ ds.map .d, x.s, (r.toP z1).append (reps_d (hds F1)), h.mono (fun m hm => ?_) (fun y hy => ?_) q⟩
    · intro hret v H2 F2 fp2 x2 r2 n2
      refine hm v H2 F2 fp2 (x.trans x2) (r2.re hret fun b hb => ?_) (fun a ha => ?_) n2
      · exact z1.free (r2.own b hb).2.2
      · exact x.h.free (r2.own a ha).2.2
    · intro cls d H2 F2 x2 r2
      exact hy cls d H2 F2 (x.trans x2) r2
end
/-! ### statements -/
structure EndW where
  nx : Sg → Prop
  rt : M → Prop
  bk : Sg → Prop := fun _ => False
  ct : Sg → Prop := fun _ => False
  ex : Sg → XP := fun _ _ => False
abbrev TSW := EndW → Sg → Prop
structure EndW.Le (D D' : EndW) : Prop where
  nx : ∀ ρ, D.nx ρ → D'.nx ρ
  rt : ∀ m, D.rt m → D'.rt m
  bk : ∀ ρ, D.bk ρ → D'.bk ρ
  ct : ∀ ρ, D.ct ρ → D'.ct ρ
  ex : ∀ ρ x, D.ex ρ x → D'.ex ρ x
theorem EndW.Le.refl (D : EndW) : D.Le D := ⟨fun _ h => h, fun _ h => h, fun _ h => h, fun _ h => h, fun _ _ h => h⟩
/-- the slots outside as are as they were -/
def Frm (as : List Nat) (σ σ' : L2.St) : Prop := σ'.length = σ.length ∧ ∀ i, i ∉ as → σ'[i]? = σ[i]?
theorem Frm.refl {as : List Nat} {σ : L2.St} : Frm as σ σ := ⟨rfl, fun _ _ => rfl⟩
theorem Frm.trans {as bs cs : List Nat} {σ σ' σ'' : L2.St} (h : Frm as σ σ') (h' : Frm bs σ' σ'') (ha : ∀ i ∈ as, i ∈ cs) (hb : ∀ i ∈ bs, i ∈ cs) : Frm cs σ σ'' := ⟨h'.1.trans h.1, fun i hi => (h'.2 i fun z => hi (hb i z)).trans (h.2 i fun z => hi (ha i z))⟩
theorem Frm.mono {as cs : List Nat} {σ σ' : L2.St} (h : Frm as σ σ') (ha : ∀ i ∈ as, i ∈ cs) : Frm cs σ σ' := ⟨h.1, fun i hi => h.2 i fun z => hi (ha i z)⟩
theorem Frm.set {i : Nat} {σ : L2.St} {v : Option V} : Frm [i] σ (σ.set i v) := ⟨List.length_set, fun j hj => List.getElem?_set_ne (fun e => hj (by rw [e]; exact List.mem_cons_self))⟩
def endsOf (X : Cx) (W : WX) (F0 H0 : Hp) (as : List Nat) (σ : L2.St) (F : Hp) (D : Ends) : EndW where
  nx := fun ρ' => ∀ σ' F' H', Same F F' → Rel X.K F0 H0 ρ' σ' [] [] F' H' → Frm as σ σ' → D.nx σ' H'
  rt := fun m => m.ret = true → ∀ v F' H' fp, Same F F' → Ext F0 H0 F' H' → RepM X.K F' H0 H' m v fp → fp.Nodup → D.rt v H'
  bk := fun ρ' => ∀ σ' F' H', Same F F' → Rel X.K F0 H0 ρ' σ' [] [] F' H' → Frm as σ σ' → D.bk σ' H'
  ct := fun ρ' => ∀ σ' F' H', Same F F' → Rel X.K F0 H0 ρ' σ' [] [] F' H' → Frm as σ σ' → D.ct σ' H'
  ex := fun ρ' x => ∀ cls d σ' F' H', Rel X.K F0 H0 ρ' σ' [] [] F' H' → RepX X.mg X.K F' H' x cls d → W cls d σ' H'
def liftS (X : Cx) (W : WX) (F0 H0 : Hp) (as : List Nat) (w : TSW) : TS := fun D σ H => ∃ ρ F, Rel X.K F0 H0 ρ σ [] [] F H ∧ w (endsOf X W F0 H0 as σ F D) ρ
structure QS (X : Cx) (st : Stmt) (as : List Nat) (w : TSW) : Prop where
  mono : ∀ {D D' : EndW} {ρ : Sg}, D.Le D' → w D ρ → w D' ρ
  run : ∀ (W : WX) (F0 H0 : Hp), Takes X W → PS X st (liftS X W F0 H0 as w)
structure QSs (X : Cx) (st : List Stmt) (as : List Nat) (w : TSW) : Prop where
  mono : ∀ {D D' : EndW} {ρ : Sg}, D.Le D' → w D ρ → w D' ρ
  run : ∀ (W : WX) (F0 H0 : Hp), Takes X W → PSs X st (liftS X W F0 H0 as w)
section
variable {X : Cx} {K : PySem.W.Frag} {F F' H H' H0 F0 : Hp} {W : WX} {σ : L2.St} {ρ : Sg}
/-- ends, seen from a later state -/
theorem endsOf_le {as bs : List Nat} {σ' : L2.St} {D : Ends} (s : Same F F') (f : Frm bs σ σ') (hb : ∀ i ∈ bs, i ∈ as) : (endsOf X W F0 H0 as σ F D).Le (endsOf X W F0 H0 as σ' F' D) where
  nx := fun ρ h σ2 F2 H2 s2 r f2 => h σ2 F2 H2 (s.trans s2) r (f.trans f2 hb fun _ z => z)
  rt := fun m h hr v F2 H2 fp s2 => h hr v F2 H2 fp (s.trans s2)
  bk := fun ρ h σ2 F2 H2 s2 r f2 => h σ2 F2 H2 (s.trans s2) r (f.trans f2 hb fun _ z => z)
  ct := fun ρ h σ2 F2 H2 s2 r f2 => h σ2 F2 H2 (s.trans s2) r (f.trans f2 hb fun _ z => z)
  ex := fun ρ x h => h
theorem endsOf_as {as bs : List Nat} {D : Ends} (hb : ∀ i ∈ as, i ∈ bs) : (endsOf X W F0 H0 bs σ F D).Le (endsOf X W F0 H0 as σ F D) where
  nx := fun ρ h σ2 F2 H2 s2 r f2 => h σ2 F2 H2 s2 r (f2.mono hb)
  rt := fun m h => h
  bk := fun ρ h σ2 F2 H2 s2 r f2 => h σ2 F2 H2 s2 r (f2.mono hb)
  ct := fun ρ h σ2 F2 H2 s2 r f2 => h σ2 F2 H2 s2 r (f2.mono hb)
  ex := fun ρ x h => h
/-- what an expression in a statement may let out -/
theorem exq {as : List Nat} {D : Ends} {x : XV} (rel : Rel X.K F0 H0 ρ σ [] [] F H) (h : (endsOf X W F0 H0 as σ F D).ex ρ x) : XQ X W σ F H x := fun cls d H' F' y r => h cls d σ F' H' (rel.ext y) r
variable {st : Stmt} {sts : List Stmt} {as bs : List Nat} {w u : TSW}
theorem ss_nil : QSs X [] [] (fun D ρ => D.nx ρ) where
  mono := fun l h => l.nx _ h
  run := fun W F0 H0 tk => pssImp pss_nil fun D σ H ⟨ρ, F, rel, h⟩ => h σ F H (.refl _) rel .refl
theorem ss_cons (h1 : QS X st as w) (h2 : QSs X sts bs u) : QSs X (st :: sts) (as ++ bs) (fun D ρ => w { D with nx := u D } ρ) where
  mono := fun {D D' ρ} l h => h1.mono (D := { D with nx := u D }) (D' := { D' with nx := u D' }) ⟨fun _ z => h2.mono l z, l.rt, l.bk, l.ct, l.ex⟩ h
  run := fun W F0 H0 tk => pssImp (pss_cons (h1.run W F0 H0 tk) (h2.run W F0 H0 tk)) fun D σ H ⟨ρ, F, rel, h⟩ => by
    refine ⟨ρ, F, rel, h1.mono (D := { endsOf X W F0 H0 (as ++ bs) σ F D with nx := u (endsOf X W F0 H0 (as ++ bs) σ F D) }) ⟨fun ρ' z => ?_, fun _ z => z, ?_, ?_, fun _ _ z => z⟩ h⟩
    · intro σ' F' H' s r f
      refine ⟨ρ', F', r, h2.mono ?_ z⟩
      have l1 := endsOf_le (X := X) (W := W) (F0 := F0) (H0 := H0) (as := as ++ bs) (D := D) s f fun i hi => List.mem_append_left _ hi
      have l2 := endsOf_as (X := X) (W := W) (F0 := F0) (H0 := H0) (F := F') (σ := σ') (as := bs) (bs := as ++ bs) (D := D) fun i hi => List.mem_append_right _ hi
      exact ⟨fun ρ z => l2.nx ρ (l1.nx ρ z), fun m z => l2.rt m (l1.rt m z), fun ρ z => l2.bk ρ (l1.bk ρ z), fun ρ z => l2.ct ρ (l1.ct ρ z), fun ρ x z => l2.ex ρ x (l1.ex ρ x z)⟩
    · exact fun ρ z σ2 F2 H2 s2 r f2 => z σ2 F2 H2 s2 r (f2.mono fun i hi => List.mem_append_left _ hi)
    · exact fun ρ z σ2 F2 H2 s2 r f2 => z σ2 F2 H2 s2 r (f2.mono fun i hi => List.mem_append_left _ hi)
theorem ss_one (h1 : QS X st as w) : QSs X [st] as w := ⟨h1.mono, fun W F0 H0 tk => pss_one (h1.run W F0 H0 tk)⟩
/-- ghosts: a slot's own list becomes pure; a slot is forgotten -/
theorem ss_frz (i : Nat) (h2 : QSs X sts as u) : QSs X sts as (fun D ρ => ∃ m x, ρ[i]? = some (some m) ∧ m.frz = some x ∧ u D (ρ.set i (some (.d x)))) where
  mono := fun l ⟨m, x, e, f, z⟩ => ⟨m, x, e, f, h2.mono l z⟩
  run := fun W F0 H0 tk => pssImp (h2.run W F0 H0 tk) fun D σ H ⟨ρ, F, rel, m, x, e, f, z⟩ => by
    obtain ⟨F', s, rel'⟩ := rel.freeze e f
    exact ⟨_, F', rel', h2.mono (endsOf_le (bs := []) s .refl fun _ z => nomatch z) z⟩
theorem s_never : QS X st [] (fun _ _ => False) := ⟨fun _ h => h, fun W F0 H0 tk => psImp ps_never fun D σ H ⟨ρ, F, rel, z⟩ => z⟩
theorem ss_never : QSs X sts [] (fun _ _ => False) := ⟨fun _ h => h, fun W F0 H0 tk => pssImp pss_never fun D σ H ⟨ρ, F, rel, z⟩ => z⟩
variable {pos : Pos} {e : Expr} {we : TW}
theorem s_pass : QS X (.Pass pos) [] (fun D ρ => D.nx ρ) := ⟨fun l h => l.nx _ h, fun W F0 H0 tk => psImp ps_pass fun D σ H ⟨ρ, F, rel, h⟩ => h σ F H (.refl _) rel .refl⟩
theorem s_cont : QS X (.Continue pos) [] (fun D ρ => D.ct ρ) := ⟨fun l h => l.ct _ h, fun W F0 H0 tk => psImp ps_continue fun D σ H ⟨ρ, F, rel, h⟩ => h σ F H (.refl _) rel .refl⟩
theorem s_brk : QS X (.Break pos) [] (fun D ρ => D.bk ρ) := ⟨fun l h => l.bk _ h, fun W F0 H0 tk => psImp ps_break fun D σ H ⟨ρ, F, rel, h⟩ => h σ F H (.refl _) rel .refl⟩
def wAsg (i : Nat) (we : TW) : TSW := fun D ρ => we ρ (fun m => m.sto = true ∧ D.nx (ρ.set i (some m))) (D.ex ρ)
theorem s_asg (i : Nat) {x : Str} {pos' : Pos} (hN : X.N.Nodup) (he : QE X e we) (hi : X.N[i]? = some x := by rfl) (hx : Loc X.env.scope x := by first | exact Or.inl rfl | exact Or.inr rfl) (hs : swapsWith e (some (.Name x pos')) pos.line X.env = pure false := by rfl)
    (hf : X.fn x = true ∨ X.env.scope.names.lookup x = some .local := by first | exact .inl rfl | exact .inr rfl | assumption) : QS X (.Assign [.Name x pos'] e pos) [i] (wAsg i we) where
  mono := fun l h => he.mono (fun m q => ⟨q.1, l.nx _ q.2⟩) (l.ex _) h
  run := fun W F0 H0 tk => psImp (ps_set hN hi hx (he.run W F0 H0 tk) hs hf) fun D σ H ⟨ρ, F, rel, h⟩ =>
    ⟨ρ, F, rel, he.mono (fun m hm v H1 F1 fp x r hf hn => hm.2 _ F1 H1 x.f ((rel.push x r hf hn).set hm.1 i) .set) (fun _ z => exq rel z) h⟩
def wRet (we : TW) : TSW := fun D ρ => we ρ (fun m => m.ret = true ∧ D.rt m) (D.ex ρ)
theorem s_ret (he : QE X e we) : QS X (.Return (some e) pos) [] (wRet we) where
  mono := fun l h => he.mono (fun m q => ⟨q.1, l.rt _ q.2⟩) (l.ex _) h
  run := fun W F0 H0 tk => psImp (ps_ret (he.run W F0 H0 tk)) fun D σ H ⟨ρ, F, rel, h⟩ =>
    ⟨ρ, F, rel, he.mono (fun m hm v H1 F1 fp x r hf hn => hm.2 hm.1 v F1 H1 fp x.f (rel.e.trans x) r hn) (fun _ z => exq rel z) h⟩
def wRetv (i : Nat) : TSW := fun D ρ => match ρ[i]? with
  | some (some m) => m.ret = true ∧ D.rt m
  | _ => False
/-- return x, x's own tree goes out -/
theorem s_retv (i : Nat) {x : Str} {p : Pos} (hN : X.N[i]? = some x := by rfl) (hv : Vis X.env.scope x := by first | exact Or.inl rfl | exact Or.inr (Or.inl rfl) | exact Or.inr (Or.inr rfl)) (hd : (x == ("__debug__" : Str)) = false := by decide)
    (hcd : (x == ("__classdict__" : Str)) = false := by decide) : QS X (.Return (some (.Name x p)) pos) [] (wRetv i) where
  mono := fun l h => by unfold wRetv at h ⊢; split at h <;> first | exact ⟨h.1, l.rt _ h.2⟩ | exact h
  run := fun W F0 H0 tk => psImp (ps_ret (pe_var hN hv hd hcd)) fun D σ H ⟨ρ, F, rel, h⟩ => by
    unfold wRetv at h
    split at h
    · rename_i m e
      obtain ⟨v, fp, e1, _, q, n⟩ := rel.get e
      exact ⟨v, e1, h.2 h.1 v F H fp (.refl _) rel.e q n⟩
    · exact h.elim
theorem s_retN : QS X (.Return none pos) [] (fun D ρ => D.rt (.d .non)) where
  mono := fun l h => l.rt _ h
  run := fun W F0 H0 tk => psImp ps_retN fun D σ H ⟨ρ, F, rel, h⟩ => h (by unfold M.ret; rfl) .non F H [] (.refl _) rel.e (.d .non) List.nodup_nil
def wExp (we : TW) : TSW := fun D ρ => we ρ (fun _ => D.nx ρ) (D.ex ρ)
theorem s_exp (he : QE X e we) (hs : swapsWith e none pos.line X.env = pure false := by rfl) : QS X (.Expr e pos) [] (wExp we) where
  mono := fun l h => he.mono (fun m q => l.nx _ q) (l.ex _) h
  run := fun W F0 H0 tk => psImp (ps_expr (he.run W F0 H0 tk) hs) fun D σ H ⟨ρ, F, rel, h⟩ =>
    ⟨ρ, F, rel, he.mono (fun m hm v H1 F1 fp x r hf hn => hm σ F1 H1 x.f (rel.ext x) .refl) (fun _ z => exq rel z) h⟩
variable {c : Expr} {a b : List Stmt} {tc : TTW} {wa wb : TSW}
def wIf (tc : TTW) (wa wb : TSW) : TSW := fun D ρ => tc ρ (fun k => if k = true then wa D ρ else wb D ρ) (D.ex ρ)
theorem s_if (hc : QT X c tc) (ha : QSs X a as wa) (hb : QSs X b bs wb) : QS X (.If c a b pos) (as ++ bs) (wIf tc wa wb) where
  mono := fun l h => hc.mono (fun k q => ite_mono q (fun z => ha.mono l z) (fun z => hb.mono l z)) (l.ex _) h
  run := fun W F0 H0 tk => psImp (ps_if (hc.run W F0 H0 tk) (ha.run W F0 H0 tk) (hb.run W F0 H0 tk)) fun D σ H ⟨ρ, F, rel, h⟩ =>
    ⟨ρ, F, rel, hc.mono (fun k q H1 F1 x => ite_mono q
      (fun z => ⟨ρ, F1, rel.ext x, ha.mono (endsOf_as fun i hi => List.mem_append_left _ hi) (ha.mono (endsOf_le (bs := []) x.f .refl fun _ z => nomatch z) z)⟩)
      (fun z => ⟨ρ, F1, rel.ext x, hb.mono (endsOf_as fun i hi => List.mem_append_right _ hi) (hb.mono (endsOf_le (bs := []) x.f .refl fun _ z => nomatch z) z)⟩)) (fun _ z => exq rel z) h⟩
/-- while: an invariant by a falling number -/
def wWhile (tc : TTW) (wb : TSW) : TSW := fun D ρ => ∃ I : Nat → Sg → Prop, (∃ n, I n ρ) ∧ ∀ n ρ, I n ρ → tc ρ (fun k => if k = true then wb { nx := fun ρ' => ∃ m, m < n ∧ I m ρ', rt := D.rt, bk := D.nx, ct := fun ρ' => ∃ m, m < n ∧ I m ρ', ex := D.ex } ρ else D.nx ρ) (D.ex ρ)
theorem s_while (hp : ∀ W, Takes X W → PassesOwn (model X.prog X.w) X.A X.env X.xe) (hc : QT X c tc) (hb : QSs X b as wb) : QS X (.While c b [] pos) as (wWhile tc wb) where
  mono := fun {D D' ρ} l ⟨I, h0, h⟩ => ⟨I, h0, fun n ρ hi => hc.mono (fun k q => ite_mono q (fun z => hb.mono (D := { nx := fun ρ' => ∃ m, m < n ∧ I m ρ', rt := D.rt, bk := D.nx, ct := fun ρ' => ∃ m, m < n ∧ I m ρ', ex := D.ex }) ⟨fun _ z => z, l.rt, l.nx, fun _ z => z, l.ex⟩ z) (l.nx _)) (l.ex _) (h n ρ hi)⟩
  run := fun W F0 H0 tk => psImp (ps_while (hp W tk) (hc.run W F0 H0 tk) (hb.run W F0 H0 tk)) fun D σ H ⟨ρ, F, rel, I, ⟨n, hn⟩, h⟩ => by
    refine ⟨fun m σ' H' => ∃ ρ' F', Same F F' ∧ Rel X.K F0 H0 ρ' σ' [] [] F' H' ∧ Frm as σ σ' ∧ I m ρ', ⟨n, ρ, F, .refl _, rel, .refl, hn⟩, ?_⟩
    rintro m σ' H' ⟨ρ', F', s, rel', f, hi⟩
    have q := h m ρ' hi
    refine ⟨ρ', F', rel', hc.mono (fun k q H1 F1 x => ?_) (fun y z => exq (as := as) (D := D) rel' z) q⟩
    refine ite_mono q (fun z => ?_) (fun z => ?_)
    · refine ⟨fun σ2 H2 => ∃ m', m' < m ∧ ∃ ρ' F', Same F F' ∧ Rel X.K F0 H0 ρ' σ2 [] [] F' H2 ∧ Frm as σ σ2 ∧ I m' ρ', fun σ2 H2 ⟨m', hm, r⟩ => ⟨m', hm, r⟩, ρ', F1, rel'.ext x, hb.mono ?_ z⟩
      refine ⟨fun ρ2 h2 => ?_, fun y z => ?_, fun ρ2 z => ?_, fun ρ2 h2 => ?_, fun _ _ z => z⟩
      · obtain ⟨m', hm, hi2⟩ := h2
        exact fun σ2 F2 H2 s2 r2 f2 => ⟨m', hm, ρ2, F2, (s.trans x.f).trans s2, r2, f.trans f2 (fun _ z => z) (fun _ z => z), hi2⟩
      · exact fun hr v F2 H2 fp s2 => z hr v F2 H2 fp ((s.trans x.f).trans s2)
      · exact fun σ2 F2 H2 s2 r2 f2 => z σ2 F2 H2 ((s.trans x.f).trans s2) r2 (f.trans f2 (fun _ z => z) (fun _ z => z))
      · obtain ⟨m', hm, hi2⟩ := h2
        exact fun σ2 F2 H2 s2 r2 f2 => ⟨m', hm, ρ2, F2, (s.trans x.f).trans s2, r2, f.trans f2 (fun _ z => z) (fun _ z => z), hi2⟩
    · exact z σ' F1 H1 (s.trans x.f) (rel'.ext x) f
end
end RT
namespace RT
open PySem PySem.Spec PyProof.Rows L2
section
variable {X : Cx} {K : PySem.W.Frag} {F F' H H' H0 F0 : Hp}
/-! ### targets, of pure things -/
abbrev TGD := D → Sg → (Sg → Prop) → Prop
abbrev TGDs := List D → Sg → (Sg → Prop) → Prop
theorem pgImp {tg : Expr} {t t' : TG} (h : PG X tg t) (i : ∀ v σ H Q, t' v σ H Q → t v σ H Q) : PG X tg t' := ⟨fun pins s σ H v u Q I r q => h.run pins s σ H v u Q I r (i v σ H Q q)⟩
theorem pgsImp {tg : List Expr} {t t' : TGs} (h : PGs X tg t) (i : ∀ v σ H Q, t' v σ H Q → t v σ H Q) : PGs X tg t' := ⟨fun pins s σ H v u Q I r q => h.run pins s σ H v u Q I r (i v σ H Q q)⟩
def liftG (X : Cx) (F0 H0 : Hp) (as : List Nat) (g : TGD) : TG := fun v σ H Qh => ∃ ρ F x, Rel X.K F0 H0 ρ σ [] [] F H ∧ RepD X.K F x v ∧ g x ρ (fun ρ' => ∀ σ', Rel X.K F0 H0 ρ' σ' [] [] F H → Frm as σ σ' → Qh σ' H)
def liftGs (X : Cx) (F0 H0 : Hp) (as : List Nat) (g : TGDs) : TGs := fun v σ H Qh => ∃ ρ F x, Rel X.K F0 H0 ρ σ [] [] F H ∧ RepDs X.K F x v ∧ g x ρ (fun ρ' => ∀ σ', Rel X.K F0 H0 ρ' σ' [] [] F H → Frm as σ σ' → Qh σ' H)
structure QG (X : Cx) (tg : Expr) (as : List Nat) (g : TGD) : Prop where
  mono : ∀ {x : D} {ρ : Sg} {Q Q' : Sg → Prop}, (∀ ρ, Q ρ → Q' ρ) → g x ρ Q → g x ρ Q'
  run : ∀ (F0 H0 : Hp), PG X tg (liftG X F0 H0 as g)
structure QGs (X : Cx) (tg : List Expr) (as : List Nat) (g : TGDs) : Prop where
  mono : ∀ {x : List D} {ρ : Sg} {Q Q' : Sg → Prop}, (∀ ρ, Q ρ → Q' ρ) → g x ρ Q → g x ρ Q'
  run : ∀ (F0 H0 : Hp), PGs X tg (liftGs X F0 H0 as g)
def gNm (i : Nat) : TGD := fun x ρ Q => Q (ρ.set i (some (.d x)))
theorem g_nm (i : Nat) {x : Str} {pos : Pos} (hN : X.N.Nodup) (hi : X.N[i]? = some x := by rfl) (hx : Loc X.env.scope x := by first | exact Or.inl rfl | exact Or.inr rfl) (hf : X.fn x = true ∨ X.env.scope.names.lookup x = some .local := by first | exact .inl rfl | exact .inr rfl | assumption) : QG X (.Name x pos) [i] (gNm i) where
  mono := fun h q => h _ q
  run := fun F0 H0 => pgImp (pg_name hN hi hx hf) fun v σ H Qh ⟨ρ, F, x, rel, r, h⟩ => by
    have rel' := (rel.push (.refl rel.s) (RepM.d r) (fun _ z => nomatch z) List.nodup_nil).set (by unfold M.sto; rfl) i
    exact h _ rel' .set
def gNilD : TGDs := fun l ρ Q => match l with
  | [] => Q ρ
  | _ => False
theorem gs_nil : QGs X [] [] gNilD where
  mono := fun h q => by unfold gNilD at q ⊢; split at q <;> first | exact h _ q | exact q
  run := fun F0 H0 => pgsImp pgs_nil fun v σ H Qh ⟨ρ, F, x, rel, r, h⟩ => by
    unfold gNilD at h
    split at h
    · unfold RepDs at r
      exact ⟨r, h σ rel .refl⟩
    · exact h.elim
def gConsD (g : TGD) (gs : TGDs) : TGDs := fun l ρ Q => match l with
  | x :: xs => g x ρ (fun ρ' => gs xs ρ' Q)
  | [] => False
theorem gs_cons {e : Expr} {es : List Expr} {as bs : List Nat} {g : TGD} {gs : TGDs} (h1 : QG X e as g) (h2 : QGs X es bs gs) (hs : (assignEach (e :: es) X.env).map (·.2) = assign e X.env :: (assignEach es X.env).map (·.2) := by rfl) : QGs X (e :: es) (as ++ bs) (gConsD g gs) where
  mono := fun h q => by
    unfold gConsD at q ⊢
    split at q
    · exact h1.mono (fun _ z => h2.mono h z) q
    · exact q
  run := fun F0 H0 => pgsImp (pgs_cons (h1.run F0 H0) (h2.run F0 H0) hs) fun v σ H Qh ⟨ρ, F, x, rel, r, h⟩ => by
    unfold gConsD at h
    split at h
    · rename_i y ys
      unfold RepDs at r
      obtain ⟨u, w, e, q, z⟩ := r
      refine ⟨u, w, e, ρ, F, y, rel, q, h1.mono (fun ρ' hh σ' rel' f => ?_) h⟩
      exact ⟨ρ', F, ys, rel', z, h2.mono (fun ρ2 h3 σ2 r2 f2 => h3 σ2 r2 (f.trans f2 (fun i hi => List.mem_append_left _ hi) fun i hi => List.mem_append_right _ hi)) hh⟩
    · exact h.elim
def gTpD (n : Nat) (gs : TGDs) : TGD := fun x ρ Q => match x with
  | .tup l => l.length = n ∧ gs l ρ Q
  | .lst l => l.length = n ∧ gs l ρ Q
  | _ => False
theorem g_tp {es : List Expr} {k : Nat} {as : List Nat} {gs : TGDs} {n : Nat} {pos : Pos} (hc : X.calm = true) (h : QGs X es as gs) (hn : (assignEach es X.env).length = n := by rfl) (hst : (assignEach es X.env).findIdx? (·.1) = none := by rfl) : QG X (.Tuple es k pos) as (gTpD n gs) where
  mono := fun h' q => by
    unfold gTpD at q ⊢
    split at q
    · exact ⟨q.1, h.mono h' q.2⟩
    · exact ⟨q.1, h.mono h' q.2⟩
    · exact q
  run := fun F0 H0 => ⟨fun pins s σ H v u Qh I r hq => by
    obtain ⟨ρ, F, x, rel, rx, q⟩ := hq
    unfold gTpD at q
    split at q
    · obtain ⟨a, vs, e, p, r2⟩ := (by unfold RepD at rx; exact rx)
      exact (pg_tup hc (h.run F0 H0) hn hst).run pins s σ H v u Qh I r ⟨a, vs, e, Same.sqT rel.s p.sq, by rw [← r2.length]; exact q.1, ρ, F, _, rel, r2, q.2⟩
    · obtain ⟨a, vs, e, p, r2⟩ := (by unfold RepD at rx; exact rx)
      exact (pg_lst hc (h.run F0 H0) hn hst).run pins s σ H v u Qh I r ⟨a, vs, e, SqL.of (rel.s _ _ p), by rw [← r2.length]; exact q.1, ρ, F, _, rel, r2, q.2⟩
    · exact q.elim⟩
/-! ### what is walked -/
abbrev TIW := Sg → (List D → Prop) → XP → Prop
structure ItOk (K : PySem.W.Frag) (F H0 : Hp) (J : It) (l : List D) : Prop where
  go : ∀ (i : Nat) x, l[i]? = some x → ∀ F1 H1, Same F F1 → Same F1 H1 → Same H0 H1 → J.go i H1 ∧ ∀ v H2, J.yld i H1 v H2 → ∃ F2, Ext F1 H1 F2 H2 ∧ RepD K F2 x v
  stop : ∀ F1 H1, Same F F1 → Same F1 H1 → Same H0 H1 → J.stop l.length H1
def liftI (X : Cx) (c : Bool) (W : WX) (F0 H0 : Hp) (w : TIW) : TI := fun σ H R => ∃ ρ F, Rel X.K F0 H0 ρ σ [] [] F H ∧ w ρ (fun l => l.length ≤ 16777216 → ∀ J F' H', Ext F H F' H' → ItOk X.K F' (if c = true then H' else H0) J l → R J H') (XQ X W σ F H)
/-- c: within a comprehension (where nothing that stood changes) -/
structure QI (X : Cx) (c : Bool) (tg iter : Expr) (w : TIW) : Prop where
  mono : ∀ {ρ : Sg} {Q Q' : List D → Prop} {E E' : XP}, (∀ l, Q l → Q' l) → (∀ x, E x → E' x) → w ρ Q E → w ρ Q' E'
  run : ∀ (W : WX) (F0 H0 : Hp), Takes X W → PI X tg iter (liftI X c W F0 H0 w)
theorem piImp {tg it : Expr} {t t' : TI} (h : PI X tg it t) (i : ∀ σ H Q, t' σ H Q → t σ H Q) : PI X tg it t' := ⟨fun pins s σ H Q I q => h.run pins s σ H Q I (i σ H Q q)⟩
def iSeq (K : PySem.W.Frag) (tl : TE) : TI := fun σ H R => tl σ H fun x H1 => ∃ a, x = .ref a ∧ ((∃ xs, SqL K H1 a xs ∧ (xs.length ≤ 16777216 → R (Itl K a) H1)) ∨ ∃ xs, SqT K H1 a xs ∧ (xs.length ≤ 16777216 → R (Itt K a) H1))
theorem pi_seq {tg l : Expr} {tl : TE} (hl : PE X l tl) : PI X tg l (iSeq X.K tl) := by
  refine ⟨fun pins s σ H R I h => ?_⟩
  refine thn (hl.run pins s σ H _ I h) fun v s1 ⟨x, H1, I1, r1, q1⟩ => ?_
  obtain ⟨a, e, q⟩ := q1
  subst e
  cases r1
  have hs := sizeLine_eq
  rcases q with ⟨xs, hq, q⟩ | ⟨xs, hq, q⟩
  · obtain ⟨its, rv, p, hz⟩ := I1.list hq
    refine wpAny_pyIter_list p.isList ?_
    refine ⟨s1.heap.objs.size, [s1.heap.objs.size], _, _, H1, rfl, I1.kept (t' := s1.toks) fun b o e => Heap.get?_push_of_some _ e, turn_list a _, ⟨_, Heap.get?_push_size _ rfl, rfl, rfl⟩, fun b hb => ?_, q (by omega)⟩
    have e : b = s1.heap.objs.size := by simpa using hb
    subst e
    exact I1.fpOk (Nat.le_refl _) (I1.hok.fresh (Nat.le_refl _))
  · obtain ⟨its, rv, p, hz⟩ := I1.tuple hq
    refine wpAny_pyIter_tuple (show s1.heap.IsTuple a its.toArray from p) ?_
    refine ⟨s1.heap.objs.size, [s1.heap.objs.size], _, _, H1, rfl, I1.kept (t' := s1.toks) fun b o e => Heap.get?_push_of_some _ e, turn_tuple a _, ⟨_, Heap.get?_push_size _ rfl, rfl, rfl⟩, fun b hb => ?_, q (by omega)⟩
    have e : b = s1.heap.objs.size := by simpa using hb
    subst e
    exact I1.fpOk (Nat.le_refl _) (I1.hok.fresh (Nat.le_refl _))
/-- what may be walked while other things change: pure, the caller's, or just made -/
def M.itD (c : Bool) : M → Option (List D)
  | .d (.tup l) => some l
  | .d (.lst l) => some l
  | .d (.scr l) => some l
  | .fl .o l => some l
  | .fl .p l => some l
  | .fl .r l => if c = true then some l else none
  | _ => none
theorem it_list {a : Addr} {l : List D} {vs : List V} (uniq : ∀ F1 H1, Same F F1 → Same F1 H1 → Same H0 H1 → SqL K H1 a vs) (r : RepDs K F l vs) : ItOk K F H0 (Itl K a) l where
  go := fun i x hx F1 H1 s1 s2 z1 => by
    obtain ⟨u, hu, ru⟩ := r.get hx
    exact ⟨⟨vs, u, uniq F1 H1 s1 s2 z1, hu⟩, fun v H2 ⟨e, y⟩ => by
      subst e
      have := y vs (uniq F1 _ s1 s2 z1)
      rw [hu] at this; cases this
      exact ⟨F1, .refl s2, ru.mono s1⟩⟩
  stop := fun F1 H1 s1 s2 z1 => ⟨vs, uniq F1 H1 s1 s2 z1, by rw [r.length]; exact Nat.le_refl _⟩
theorem it_tup {a : Addr} {l : List D} {vs : List V} (uniq : ∀ F1 H1, Same F F1 → Same F1 H1 → Same H0 H1 → SqT K H1 a vs) (r : RepDs K F l vs) : ItOk K F H0 (Itt K a) l where
  go := fun i x hx F1 H1 s1 s2 z1 => by
    obtain ⟨u, hu, ru⟩ := r.get hx
    exact ⟨⟨vs, u, uniq F1 H1 s1 s2 z1, hu⟩, fun v H2 ⟨e, y⟩ => by
      subst e
      have := y vs (uniq F1 _ s1 s2 z1)
      rw [hu] at this; cases this
      exact ⟨F1, .refl s2, ru.mono s1⟩⟩
  stop := fun F1 H1 s1 s2 z1 => ⟨vs, uniq F1 H1 s1 s2 z1, by rw [r.length]; exact Nat.le_refl _⟩
/-- where what is to be walked stands, now and later: a list, or a tuple -/
theorem walk_from {c : Bool} {H1 F1 : Hp} {m : M} {v : V} {fp : List Addr} {l : List D} (x : Ext F H F1 H1) (z1 : Same H0 H1) (r : RepM K F1 H0 H1 m v fp) (hf : ∀ a ∈ fp, H a = none) (e : m.itD c = some l) :
    ∃ a vs F2, v = .ref a ∧ Ext F H F2 H1 ∧ RepDs K F2 l vs ∧ ((SqL K H1 a vs ∧ ∀ F3 H3, Same F2 F3 → Same F3 H3 → Same (if c = true then H1 else H0) H3 → SqL K H3 a vs) ∨ (SqT K H1 a vs ∧ ∀ F3 H3, Same F2 F3 → Same F3 H3 → Same (if c = true then H1 else H0) H3 → SqT K H3 a vs)) := by
  unfold M.itD at e
  split at e
  · cases e
    obtain ⟨a, vs, e, p, r2⟩ := (by have := r.ofD.2; unfold RepD at this; exact this)
    exact ⟨a, vs, F1, e, x, r2, .inr ⟨Same.sqT x.s p.sq, fun F3 H3 s1 s2 _ => Same.sqT (s1.trans s2) p.sq⟩⟩
  · cases e
    obtain ⟨a, vs, e, p, r2⟩ := (by have := r.ofD.2; unfold RepD at this; exact this)
    exact ⟨a, vs, F1, e, x, r2, .inl ⟨SqL.of (x.s _ _ p), fun F3 H3 s1 s2 _ => SqL.of ((s1.trans s2) _ _ p)⟩⟩
  · cases e
    obtain ⟨a, vs, e, p, r2⟩ := (by have := r.ofD.2; unfold RepD at this; exact this)
    exact ⟨a, vs, F1, e, x, r2, .inl ⟨x.s.seq p, fun F3 H3 s1 s2 _ => (s1.trans s2).seq p⟩⟩
  · cases e
    have own := r.own
    unfold RepM at r
    obtain ⟨a, vs, e, ⟨e1, h1, h2, h3⟩, r2⟩ := r
    have ha : a ∈ fp := by rw [e1]; exact List.mem_cons_self
    have s2 := frzH_same (H := H1) fun b hb => (own b hb).1
    have x2 : Ext F H (frzH F1 H1 fp) H1 := by
      refine ⟨x.h, x.f.trans s2, fun b o hb => ?_, fun b o hb => ?_⟩
      · by_cases hb' : b ∈ fp
        · rw [frzH_in hb'] at hb; exact hb
        · rw [frzH_out hb'] at hb; exact x.s _ _ hb
      · by_cases hb' : b ∈ fp
        · exact .inr (hf b hb')
        · rw [frzH_out hb'] at hb; exact x.n b o hb
    have pf : frzH F1 H1 fp a = some (.lst vs) := by rw [frzH_in ha]; exact h1
    exact ⟨a, vs, _, e, x2, r2.mono s2, .inl ⟨SqL.of h1, fun F3 H3 s1 s3 _ => SqL.of ((s1.trans s3) _ _ pf)⟩⟩
  · cases e
    unfold RepM at r
    obtain ⟨a, vs, e, ⟨e1, h1⟩, r2⟩ := r
    refine ⟨a, vs, F1, e, x, r2, .inl ⟨SqL.of (z1 _ _ h1), fun F3 H3 s1 s2 z2 => SqL.of ?_⟩⟩
    cases c with
    | true => exact z2 _ _ (z1 _ _ h1)
    | false => exact z2 _ _ h1
  · cases c with
    | true =>
      cases e
      unfold RepM at r
      obtain ⟨a, vs, e, ⟨e1, h1⟩, r2⟩ := r
      exact ⟨a, vs, F1, e, x, r2, .inl ⟨SqL.of h1, fun F3 H3 s1 s2 z2 => SqL.of (z2 _ _ h1)⟩⟩
    | false => cases e
  · cases e
variable {e : Expr} {we : TW} {c : Bool}
def wISeq (c : Bool) (we : TW) : TIW := fun ρ Q E => we ρ (fun m => ∃ l, m.itD c = some l ∧ Q l) E
theorem qi_seq {tg : Expr} (he : QE X e we) : QI X c tg e (wISeq c we) where
  mono := fun hq h z => he.mono (fun m ⟨l, e, q⟩ => ⟨l, e, hq _ q⟩) h z
  run := fun W F0 H0 tk => piImp (pi_seq (he.run W F0 H0 tk)) fun σ H R ⟨ρ, F, rel, z⟩ => by
    refine ⟨ρ, F, rel, he.mono (fun m hm => ?_) (fun _ q => q) z⟩
    obtain ⟨l, hl, q⟩ := hm
    intro v H1 F1 fp x r hf hn
    obtain ⟨a, vs, F2, e1, x2, r2, hq⟩ := walk_from x (rel.e.h.trans x.h) r hf hl
    refine ⟨a, e1, ?_⟩
    rcases hq with ⟨h1, h2⟩ | ⟨h1, h2⟩
    · exact .inl ⟨vs, h1, fun hz => q (by rw [r2.length]; exact hz) _ F2 H1 x2 (it_list h2 r2)⟩
    · exact .inr ⟨vs, h1, fun hz => q (by rw [r2.length]; exact hz) _ F2 H1 x2 (it_tup h2 r2)⟩
/-- range(n), range(a, b) -/
def rg (lo : Int) (n : Nat) : List D := (List.range n).map fun (i : Nat) => .int (lo + i)
theorem rg_length (lo : Int) (n : Nat) : (rg lo n).length = n := by unfold rg; rw [List.length_map, List.length_range]
theorem it_rng {lo : Int} {n : Nat} : ItOk K F H0 (Itr lo n) (rg lo n) where
  go := fun i x hx F1 H1 s1 s2 z1 => by
    have hi : i < n := by
      have := (List.getElem?_eq_some_iff.mp hx).1
      rw [rg_length] at this; exact this
    refine ⟨hi, fun v H2 ⟨e1, e2⟩ => ?_⟩
    subst e1 e2
    unfold rg at hx
    rw [List.getElem?_map, List.getElem?_range hi] at hx
    cases hx
    exact ⟨F1, .refl s2, .int⟩
  stop := fun F1 H1 s1 s2 z1 => by rw [rg_length]; exact Nat.le_refl n
def wRg1 (we : TW) : TIW := fun ρ Q E => we ρ (fun m => match m with
  | .d (.int n) => -16777216 ≤ n ∧ n ≤ 16777216 ∧ Q (rg 0 n.toNat)
  | _ => False) E
theorem qi_rg1 {tg : Expr} {p pos : Pos} (hg : Gl X "range") (hm : X.mg "range" = none) (he : QE X e we) (hs : starEach [e] X.env = [(false, eval e X.env)] := by rfl) : QI X c tg (.Call (.Name "range" p) [e] [] pos) (wRg1 we) where
  mono := fun hq h z => he.mono (fun m q => by split at q <;> first | exact ⟨q.1, q.2.1, hq _ q.2.2⟩ | exact q) h z
  run := fun W F0 H0 tk => piImp (pi_range1 hg hm (pa_cons (he.run W F0 H0 tk) pa_nil hs) hs) fun σ H R ⟨ρ, F, rel, z⟩ => by
    refine ⟨ρ, F, rel, he.mono (fun m hm v H1 F1 fp x r hf hn => ?_) (fun _ q => q) z⟩
    split at hm
    · rename_i n
      obtain ⟨h1, h2, q⟩ := hm
      exact ⟨n, by rw [r.ofD.2.ofInt], by omega, by omega, q (by rw [rg_length]; omega) _ F1 H1 x it_rng⟩
    · exact hm.elim
def wRg2 (wa wb : TW) : TIW := fun ρ Q E => wa ρ (fun x => wb ρ (fun y => onI2 (fun i j => -16777216 ≤ i ∧ i ≤ 16777216 ∧ -16777216 ≤ j ∧ j ≤ 16777216 ∧ (j - i).toNat ≤ 16777216 ∧ Q (rg i (j - i).toNat)) x y) E) E
theorem qi_rg2 {tg e2 : Expr} {we2 : TW} {p pos : Pos} (hg : Gl X "range") (hm : X.mg "range" = none) (he : QE X e we) (he2 : QE X e2 we2) (hs : starEach [e, e2] X.env = [(false, eval e X.env), (false, eval e2 X.env)] := by rfl) (hs2 : starEach [e2] X.env = [(false, eval e2 X.env)] := by rfl) :
    QI X c tg (.Call (.Name "range" p) [e, e2] [] pos) (wRg2 we we2) where
  mono := fun hq h z => he.mono (fun m q => he2.mono (fun m2 q2 => onI2_mono (fun i j ⟨a, b, c, d, f, q⟩ => ⟨a, b, c, d, f, hq _ q⟩) q2) h q) h z
  run := fun W F0 H0 tk => piImp (pi_range2 hg hm (pa_cons (he.run W F0 H0 tk) (pa_cons (he2.run W F0 H0 tk) pa_nil hs2) (by rw [hs, hs2])) hs hs2) fun σ H R ⟨ρ, F, rel, z⟩ => by
    refine two he he2 (r := fun u v H2 => ∃ i j : Int, [u, v] = [.int i, .int j] ∧ (-(2 ^ 62) ≤ i ∧ i < 2 ^ 62 ∧ -(2 ^ 62) ≤ j ∧ j < 2 ^ 62) ∧ R (Itr i (j - i).toNat) H2) rel z fun x y u v fx fy F2 H2 x2 rx ry _ _ _ zz hxy => ?_
    obtain ⟨i, j, e1, e2, h1, h2, h3, h4, h5, q⟩ := onI2_of hxy rx ry
    exact ⟨i, j, by rw [e1, e2], ⟨by omega, by omega, by omega, by omega⟩, q (by rw [rg_length]; omega) _ F2 H2 x2 it_rng⟩
/-! ### for -/
def wLoop (g : TGD) (wb : TSW) (D : EndW) : List RT.D → Sg → Prop
  | [], ρ => D.nx ρ
  | x :: xs, ρ => g x ρ (fun ρ' => wb { nx := wLoop g wb D xs, rt := D.rt, bk := D.nx, ct := wLoop g wb D xs, ex := D.ex } ρ')
def wFor (wi : TIW) (g : TGD) (wb : TSW) : TSW := fun D ρ => wi ρ (fun l => wLoop g wb D l ρ) (D.ex ρ)
theorem wLoop_mono {tg : Expr} {b : List Stmt} {as bs : List Nat} {g : TGD} {wb : TSW} (hg : QG X tg as g) (hb : QSs X b bs wb) {D D' : EndW} (l : D.Le D') : ∀ (xs : List RT.D) (ρ : Sg), wLoop g wb D xs ρ → wLoop g wb D' xs ρ
  | [], ρ, h => l.nx _ h
  | x :: xs, ρ, h => by
    unfold wLoop at h ⊢
    exact hg.mono (fun ρ' q => hb.mono (D := { nx := wLoop g wb D xs, rt := D.rt, bk := D.nx, ct := wLoop g wb D xs, ex := D.ex }) ⟨fun ρ z => wLoop_mono hg hb l xs ρ z, l.rt, l.nx, fun ρ z => wLoop_mono hg hb l xs ρ z, l.ex⟩ q) h
theorem s_for {tg iter : Expr} {b : List Stmt} {as bs : List Nat} {wi : TIW} {g : TGD} {wb : TSW} {pos : Pos} (hc : X.calm = true) (hp : ∀ W, Takes X W → PassesOwn (model X.prog X.w) X.A X.env X.xe) (hi : QI X false tg iter wi) (hg : QG X tg as g) (hb : QSs X b bs wb)
    (hs : ∀ x, foldedSetIterable iter X.env x = pure x := by intro _; rfl) : QS X (.For tg iter b [] pos) (as ++ bs) (wFor wi g wb) where
  mono := fun l h => hi.mono (fun xs q => wLoop_mono hg hb l xs _ q) (l.ex _) h
  run := fun W F0 H0 tk => psImp (ps_for (hp W tk) hc (hi.run W F0 H0 tk) (hg.run F0 H0) (hb.run W F0 H0 tk) hs) fun D σ H ⟨ρ, F, rel, h⟩ => by
    refine ⟨ρ, F, rel, hi.mono (fun l hl hz J F1 H1 x1 ok => ?_) (fun _ z => exq rel z) h⟩
    generalize hD : endsOf X W F0 H0 (as ++ bs) σ F D = DD at hl
    refine ⟨fun i m σ' H' => m = l.length - i ∧ i ≤ l.length ∧ ∃ ρ' F', Same F1 F' ∧ Rel X.K F0 H0 ρ' σ' [] [] F' H' ∧ Frm (as ++ bs) σ σ' ∧ wLoop g wb DD (l.drop i) ρ', ⟨l.length, by simp, Nat.zero_le _, ρ, F1, .refl _, rel.ext x1, .refl, by simpa using hl⟩, ?_⟩
    rintro i m σ' H' ⟨rfl, hi', ρ', F', s1, rel', f', q⟩
    by_cases hlt : i < l.length
    · obtain ⟨x, hx⟩ : ∃ x, l[i]? = some x := ⟨l[i], List.getElem?_eq_getElem hlt⟩
      have hd : l.drop i = x :: l.drop (i + 1) := by
        rw [List.drop_eq_getElem_cons hlt]
        have := (List.getElem?_eq_some_iff.mp hx).2
        rw [this]
      rw [hd] at q
      unfold wLoop at q
      obtain ⟨hgo, hy⟩ := ok.go i x hx F' H' s1 rel'.s rel'.e.h
      refine .inr ⟨hgo, fun σ2 H2 => ∃ ρ2 F2, Same F1 F2 ∧ Rel X.K F0 H0 ρ2 σ2 [] [] F2 H2 ∧ Frm (as ++ bs) σ σ2 ∧ wLoop g wb DD (l.drop (i + 1)) ρ2, fun σ2 H2 h2 => ⟨l.length - (i + 1), by omega, rfl, hlt, h2⟩, fun v H2 yy => ?_⟩
      obtain ⟨F2, x2, r2⟩ := hy v H2 yy
      refine ⟨ρ', F2, x, rel'.ext x2, r2, hg.mono (fun ρ3 h3 σ3 rel3 f3 => ?_) q⟩
      refine ⟨ρ3, F2, rel3, hb.mono ?_ h3⟩
      have f4 : Frm (as ++ bs) σ σ3 := f'.trans f3 (fun _ z => z) fun i hi => List.mem_append_left _ hi
      refine ⟨fun ρ4 h4 => ?_, fun y z => ?_, fun ρ4 z => ?_, fun ρ4 h4 => ?_, fun ρ4 y z => ?_⟩
      · exact fun σ4 F4 H4 s4 r4 f5 => ⟨ρ4, F4, (s1.trans x2.f).trans s4, r4, f4.trans f5 (fun _ z => z) fun i hi => List.mem_append_right _ hi, h4⟩
      · subst hD
        exact fun hr v F4 H4 fp s4 => z hr v F4 H4 fp (((x1.f.trans s1).trans x2.f).trans s4)
      · subst hD
        exact fun σ4 F4 H4 s4 r4 f5 => z σ4 F4 H4 (((x1.f.trans s1).trans x2.f).trans s4) r4 (f4.trans f5 (fun _ z => z) fun i hi => List.mem_append_right _ hi)
      · exact fun σ4 F4 H4 s4 r4 f5 => ⟨ρ4, F4, (s1.trans x2.f).trans s4, r4, f4.trans f5 (fun _ z => z) fun i hi => List.mem_append_right _ hi, h4⟩
      · subst hD
        exact z
    · have e : i = l.length := by omega
      subst e
      rw [List.drop_length] at q
      unfold wLoop at q
      refine .inl ⟨ok.stop F' H' s1 rel'.s rel'.e.h, ?_⟩
      subst hD
      exact q σ' F' H' (x1.f.trans s1) rel' f'
end
end RT
namespace RT
open PySem PySem.Spec PyProof.Rows L2
section
variable {X : Cx} {K : PySem.W.Frag} {F F' H H' H0 F0 : Hp} {ρ : Sg} {σ : L2.St} {i : Nat} {l l' : List D} {vs vs' : List V} {ts : List M} {tv : List V} {a : Addr}
/-! ### a list of one's own changes -/
theorem Rel.updFl (r : Rel K F0 H0 ρ σ ts tv F H) (ht : M.stos ts = true) (h : ρ[i]? = some (some (.fl .o l))) : ∃ a vs, σ[i]? = some (some (.ref a)) ∧ H a = some (.lst vs) ∧ RepDs K F l vs ∧
    ∀ l' vs', RepDs K F l' vs' → Rel K F0 H0 (ρ.set i (some (.fl .o l'))) σ ts tv F (L2.upd H a (.lst vs')) := by
  obtain ⟨v, fp, e1, _, q, n, fin⟩ := r.upd ht h
  unfold RepM at q
  obtain ⟨a, vs, e, ⟨e2, h1, h2, h3⟩, r2⟩ := q
  subst e
  refine ⟨a, vs, e1, h1, r2, fun l' vs' r' => fin (.fl .o l') fp _ ?_ (by unfold M.sto; rfl) n (fun b o hb hn => ?_) (fun b hb => .inl hb)⟩
  · unfold RepM
    exact ⟨a, vs', rfl, ⟨e2, upd_same, h2, h3⟩, r'⟩
  · rw [L2.upd_ne (fun z => hn (by rw [z, e2]; exact List.mem_cons_self))]; exact hb
theorem Rel.updT (r : Rel K F0 H0 ρ σ (.fl .o l :: ts) (.ref a :: tv) F H) (ht : M.stos ts = true) (r' : RepDs K F l' vs') : Rel K F0 H0 ρ σ (.fl .o l' :: ts) (.ref a :: tv) F (L2.upd H a (.lst vs')) := by
  obtain ⟨e, ln, fs, ft, n1, n2, ow, dj, dt, rt, sl⟩ := r
  unfold RepMs at rt
  obtain ⟨u, w, f, g, e1, e2, q, z⟩ := rt
  cases e1
  subst e2
  unfold RepM at q
  obtain ⟨a', vs, e3, ⟨e4, h1, h2, h3⟩, r2⟩ := q
  cases e3
  subst e4
  have nda : ∀ b ∈ g, b ≠ a := fun b hb z => (List.nodup_cons.mp n1).1 (by rw [← z]; exact hb)
  have ndf : ∀ i b, b ∈ fs i → b ≠ a := fun i b hb z => dt i b hb (by rw [z]; exact List.mem_cons_self)
  refine ⟨⟨fun b o hb => ?_, e.f, fun b o hb => ?_, e.n⟩, ln, fs, a :: g, n1, n2, fun i b hb => ?_, dj, dt, ?_, fun i m hm => ?_⟩
  · rw [upd_ne (fun z => by rw [z, h3] at hb; cases hb)]; exact e.h _ _ hb
  · rw [upd_ne (fun z => by rw [z, h2] at hb; cases hb)]; exact e.s _ _ hb
  · obtain ⟨x1, ⟨o, x2⟩, x3⟩ := ow i b hb
    exact ⟨x1, ⟨o, by rw [upd_ne (ndf i b hb)]; exact x2⟩, x3⟩
  · unfold RepMs
    refine ⟨.ref a, tv, [a], g, rfl, rfl, ?_, z.keep ht fun b hb => upd_ne (nda b hb)⟩
    unfold RepM
    exact ⟨a, vs', rfl, ⟨rfl, upd_same, h2, h3⟩, r'⟩
  · obtain ⟨v, y1, y2, y3⟩ := sl i m hm
    exact ⟨v, y1, y2, y3.keep y2 fun b hb => upd_ne (ndf i b hb)⟩
/-! ### comprehensions -/
def wipeR (ρ : Sg) : List Nat → Sg
  | [] => ρ
  | v :: vs => (wipeR ρ vs).set v none
theorem Rel.wipe (r : Rel K F0 H0 ρ σ ts tv F H) : ∀ vs : List Nat, Rel K F0 H0 (wipeR ρ vs) (L2.wipe σ vs) ts tv F H
  | [] => r
  | v :: vs => (Rel.wipe r vs).kill v none
theorem wipe_at (σ : L2.St) (i : Nat) : ∀ vs : List Nat, (L2.wipe σ vs)[i]? = if i ∈ vs then σ[i]?.map (fun _ => none) else σ[i]?
  | [] => by simp [L2.wipe]
  | v :: vs => by
    have ih := wipe_at σ i vs
    unfold L2.wipe
    by_cases h : v = i
    · subst h
      rw [if_pos List.mem_cons_self]
      by_cases hl : v < σ.length
      · rw [List.getElem?_set_self (by rw [wipe_length]; exact hl), List.getElem?_eq_getElem hl]; rfl
      · rw [List.getElem?_eq_none (by rw [List.length_set, wipe_length]; omega), List.getElem?_eq_none (by omega)]; rfl
    · rw [List.getElem?_set_ne h, ih]
      by_cases h2 : i ∈ vs
      · rw [if_pos h2, if_pos (List.mem_cons_of_mem _ h2)]
      · rw [if_neg h2, if_neg (fun z => (List.mem_cons.mp z).elim (fun e => h e.symm) h2)]
theorem wipe_frm {as vs : List Nat} {σ2 : L2.St} (f : Frm as (L2.wipe σ vs) σ2) (h : ∀ i ∈ as, i ∈ vs) : L2.wipe σ2 vs = L2.wipe σ vs := by
  apply List.ext_getElem?
  intro i
  rw [wipe_at, wipe_at]
  have hl := f.1
  rw [wipe_length] at hl
  by_cases hi : i ∈ vs
  · rw [if_pos hi, if_pos hi]
    by_cases h1 : i < σ.length
    · rw [List.getElem?_eq_getElem h1, List.getElem?_eq_getElem (by omega)]; rfl
    · rw [List.getElem?_eq_none (by omega), List.getElem?_eq_none (by omega)]
  · rw [if_neg hi, if_neg hi]
    have := f.2 i fun z => hi (h i z)
    rw [this, wipe_at, if_neg hi]
def wCmp (g : TGD) (tt : TTW) (te : TW) (ρ : Sg) : List D → (List D → Prop) → Prop
  | [], Q => Q []
  | x :: xs, Q => g x ρ (fun ρ2 => tt ρ2 (fun b => if b = true then te ρ2 (fun m => ∃ y, m.frz = some y ∧ wCmp g tt te ρ xs (fun ys => Q (y :: ys))) (fun _ => False) else wCmp g tt te ρ xs Q) (fun _ => False))
def wLc (wi : TIW) (g : TGD) (tt : TTW) (te : TW) (vs : List Nat) : TW := fun ρ Q E => wi ρ (fun l => wCmp g tt te (wipeR ρ vs) l (fun ys => Q (.fl .o ys))) E
def tYesW : TTW := fun _ Q _ => Q true
structure QTs (X : Cx) (ifs : List Expr) (w : TTW) : Prop where
  mono : ∀ {ρ : Sg} {Q Q' : Bool → Prop} {E E' : XP}, (∀ m, Q m → Q' m) → (∀ x, E x → E' x) → w ρ Q E → w ρ Q' E'
  run : ∀ (W : WX) (F0 H0 : Hp), Takes X W → PTs X ifs (liftT X W F0 H0 w)
theorem ptsImp {es : List Expr} {t t' : TT} (h : PTs X es t) (i : ∀ σ H Q, t' σ H Q → t σ H Q) : PTs X es t' := ⟨fun pins s σ H Q I q => h.run pins s σ H Q I (i σ H Q q)⟩
theorem qts_nil : QTs X [] tYesW := ⟨fun hq _ h => hq _ h, fun W F0 H0 tk => ptsImp pts_nil fun σ H Qh ⟨ρ, F, rel, h⟩ => h H F (.refl rel.s)⟩
theorem qts_one {c : Expr} {t : TTW} (h : QT X c t) : QTs X [c] t := ⟨h.mono, fun W F0 H0 tk => pts_one (h.run W F0 H0 tk)⟩
abbrev Blk (X : Cx) (scope : Scope) (s : Shared) (H : Hp) (C : Addr) (cl : List (Str × Addr)) (fp : List Addr) : Cx := X.blk s H scope (compEnvC scope cl C X.env) fp
variable {elt tg iter : Expr} {ifs : List Expr} {scope : Scope} {own : List (Str × Nat)} {pos : Pos} {wi : TIW} {g : TGD} {tt : TTW} {te : TW} {as : List Nat}
theorem wCmp_mono (hg : ∀ (s : Shared) (H : Hp) (C : Addr) (cl : List (Str × Addr)) (fp : List Addr), QG (Blk X scope s H C cl fp) tg as g) (ht : ∀ (s : Shared) (H : Hp) (C : Addr) (cl : List (Str × Addr)) (fp : List Addr), QTs (Blk X scope s H C cl fp) ifs tt)
    (he : ∀ (s : Shared) (H : Hp) (C : Addr) (cl : List (Str × Addr)) (fp : List Addr), QE (Blk X scope s H C cl fp) elt te) (s : Shared) (Hb : Hp) : ∀ (xs : List D) {Q Q' : List D → Prop}, (∀ ys, Q ys → Q' ys) → wCmp g tt te ρ xs Q → wCmp g tt te ρ xs Q'
  | [], Q, Q', hq, h => hq _ h
  | x :: xs, Q, Q', hq, h => by
    unfold wCmp at h ⊢
    refine (hg s Hb 0 [] []).mono (fun ρ2 h2 => (ht s Hb 0 [] []).mono (fun b h3 => ite_mono h3 (fun z => (he s Hb 0 [] []).mono (fun m ⟨y, e, z⟩ => ⟨y, e, wCmp_mono hg ht he s Hb xs (fun ys => hq _) z⟩) (fun _ z => z) z) (fun z => wCmp_mono hg ht he s Hb xs hq z)) (fun _ z => z) h2) h
theorem ext_frz {m : M} {v : V} {fp : List Addr} (x : Ext F H F' H') (r : RepM K F' H0 H' m v fp) (hf : ∀ a ∈ fp, H a = none) : Ext F H (frzH F' H' fp) H' := by
  have own := r.own
  refine ⟨x.h, x.f.trans (frzH_same fun b hb => (own b hb).1), fun b o hb => ?_, fun b o hb => ?_⟩
  · by_cases hb' : b ∈ fp
    · rw [frzH_in hb'] at hb; exact hb
    · rw [frzH_out hb'] at hb; exact x.s _ _ hb
  · by_cases hb' : b ∈ fp
    · exact .inr (hf b hb')
    · rw [frzH_out hb'] at hb; exact x.n b o hb
theorem Ext.put {o : HO} (x : Ext F H F' H') (h : H a = none) (hf : F' a = none) : Ext F H F' (upd H' a o) :=
  ⟨fun b u e => by rw [upd_ne (ne_of_none e h)]; exact x.h _ _ e, x.f, fun b u e => by rw [upd_ne (ne_of_none e hf)]; exact x.s _ _ e, x.n⟩
theorem takes00 {Y : Cx} : Takes Y (fun _ _ _ _ => False) := takes0
theorem lc_run {W : WX} {Qh : VK} (hi : QI X true tg iter wi) (hg : ∀ (s : Shared) (H : Hp) (C : Addr) (cl : List (Str × Addr)) (fp : List Addr), QG (Blk X scope s H C cl fp) tg as g) (ht : ∀ (s : Shared) (H : Hp) (C : Addr) (cl : List (Str × Addr)) (fp : List Addr), QTs (Blk X scope s H C cl fp) ifs tt)
    (he : ∀ (s : Shared) (H : Hp) (C : Addr) (cl : List (Str × Addr)) (fp : List Addr), QE (Blk X scope s H C cl fp) elt te) {vs : List Nat} (hv : ∀ i ∈ as, i ∈ vs) (rel : Rel X.K F0 H0 ρ σ [] [] F H) {E : XP} (hE : ∀ x, E x → XQ X W σ F H x)
    (h : wLc wi g tt te vs ρ (KQ X.K H0 F H Qh) E) (s0 : Shared) :
    tLc (liftI X true W F0 H0 wi) (liftG X F0 H0 as g) (liftT X (fun _ _ _ _ => False) F0 H0 tt) (liftE X (fun _ _ _ _ => False) F0 H0 te) vs σ H Qh := by
  refine ⟨ρ, F, rel, hi.mono (fun l hl hz J F1 H1 x1 ok => ?_) hE h⟩
  intro D hD
  have hDH : H D = none := x1.h.free hD
  refine ⟨fun i m H' => m = l.length - i ∧ i ≤ l.length ∧ ∃ F' accD, (Same F1 F' ∧ Same H1 H') ∧ Ext F H F' H' ∧ accD.length ≤ i ∧ Rel X.K F0 H0 ρ σ [.fl .o accD] [.ref D] F' H' ∧ wCmp g tt te (wipeR ρ vs) (l.drop i) (fun ys => KQ X.K H0 F H Qh (.fl .o (accD ++ ys))),
    ⟨l.length, by simp, Nat.zero_le _, F1, [], ⟨.refl _, (Ext.mine x1.s hD).h⟩, x1.trans (Ext.mine x1.s hD), Nat.le_refl _, ?_, by simpa using hl⟩, ?_⟩
  · refine Rel.push (fp := [D]) (rel.ext x1) (Ext.mine x1.s hD) ?_ (fun b hb => by rw [List.mem_singleton.mp hb]; exact hD) (List.nodup_cons.mpr ⟨(by simp), List.nodup_nil⟩)
    unfold RepM
    exact ⟨D, [], rfl, ⟨rfl, upd_same, x1.s.free hD, (rel.e.h.trans x1.h).free hD⟩, .nil⟩
  rintro i m H' ⟨rfl, hi', F', accD, ⟨s1, sh⟩, x2, ha, relD, q⟩
  have rel' := relD.pop
  by_cases hlt : i < l.length
  · obtain ⟨x, hx⟩ : ∃ x, l[i]? = some x := ⟨l[i], List.getElem?_eq_getElem hlt⟩
    have hd : l.drop i = x :: l.drop (i + 1) := by
      rw [List.drop_eq_getElem_cons hlt]
      have := (List.getElem?_eq_some_iff.mp hx).2
      rw [this]
    rw [hd] at q
    unfold wCmp at q
    obtain ⟨hgo, hy⟩ := ok.go i x hx F' H' s1 relD.s sh
    refine .inr ⟨hgo, fun H2 => ∃ F2 acc2, (Same F1 F2 ∧ Same H1 H2) ∧ Ext F H F2 H2 ∧ acc2.length ≤ i + 1 ∧ Rel X.K F0 H0 ρ σ [.fl .o acc2] [.ref D] F2 H2 ∧ wCmp g tt te (wipeR ρ vs) (l.drop (i + 1)) (fun ys => KQ X.K H0 F H Qh (.fl .o (acc2 ++ ys))), fun H2 h2 => ⟨l.length - (i + 1), by omega, rfl, hlt, h2⟩, fun v H2 yy => ?_⟩
    obtain ⟨F2, x3, r2⟩ := hy v H2 yy
    refine ⟨wipeR ρ vs, F2, x, (rel'.ext x3).wipe vs, r2, (hg s0 H 0 [] []).mono (fun ρ3 h3 σ3 rel3 f3 => ⟨wipe_frm f3 hv, ?_⟩) q⟩
    refine ⟨ρ3, F2, rel3, (ht s0 H 0 [] []).mono (fun b hb H3 F3 x4 => ?_) (fun _ z => z.elim) h3⟩
    refine ite_mono hb (fun z => ?_) (fun z => ?_)
    · refine ⟨ρ3, F3, rel3.ext x4, (he s0 H 0 [] []).mono (fun m hm => ?_) (fun _ z => z.elim) z⟩
      intro yv H4 F4 fp x5 rm hf hn
      obtain ⟨y, hfz, q2⟩ := hm
      have x5' := ext_frz x5 rm hf
      have ry := rm.frz (frzH_frz fun b hb => (rm.own b hb).1) hfz
      generalize frzH F4 H4 fp = F5 at x5' ry
      have relD5 := ((relD.ext x3).ext x4).ext x5'
      obtain ⟨fs, ft, _, _, _, _, _, rt, _⟩ := relD5.sl
      unfold RepMs at rt
      obtain ⟨u, w, f, gg, e1, e2, qD, _⟩ := rt
      cases e1
      unfold RepM at qD
      obtain ⟨a', acc, e3, ⟨_, hD4, hF5, _⟩, rA⟩ := qD
      cases e3
      have hl : acc.length = accD.length := rA.length.symm
      refine ⟨acc, hD4, by rw [sizeLine_eq]; omega, F5, accD ++ [y], ⟨((s1.trans x3.f).trans x4.f).trans x5'.f, fun b o hb => by rw [L2.upd_ne (ne_of_none hb hD)]; exact (((sh.trans x3.h).trans x4.h).trans x5'.h) _ _ hb⟩, (((x2.trans x3).trans x4).trans x5').put hDH hF5, by rw [List.length_append]; simp; omega, relD5.updT rfl (rA.append (.cons ry .nil)), ?_⟩
      refine wCmp_mono hg ht he s0 H _ (fun ys z => ?_) q2
      rw [List.append_assoc]; exact z
    · exact ⟨F3, accD, ⟨(s1.trans x3.f).trans x4.f, (sh.trans x3.h).trans x4.h⟩, (x2.trans x3).trans x4, by omega, (relD.ext x3).ext x4, z⟩
  · have e : i = l.length := by omega
    subst e
    rw [List.drop_length] at q
    unfold wCmp at q
    rw [List.append_nil] at q
    refine .inl ⟨ok.stop F' H' s1 relD.s sh, ?_⟩
    obtain ⟨fs, ft, n1, _, _, _, _, rt, _⟩ := relD.sl
    unfold RepMs at rt
    obtain ⟨u, w, f, gg, e1, e2, qD, _⟩ := rt
    cases e1
    have e3 : f = [D] := by unfold RepM at qD; obtain ⟨a', acc, e3, ⟨e4, _⟩, _⟩ := qD; cases e3; exact e4
    subst e3
    exact q (.ref D) H' F' [D] x2 qD (fun b hb => by rw [List.mem_singleton.mp hb]; exact hDH) (List.nodup_cons.mpr ⟨(by simp), List.nodup_nil⟩)
end
end RT
namespace RT
open PySem PySem.Spec PyProof.Rows L2
section
variable {X : Cx} {K : PySem.W.Frag} {F F' H H' H0 F0 : Hp} {ρ : Sg} {σ : L2.St}
variable {elt tg iter : Expr} {ifs : List Expr} {scope : Scope} {own : List (Str × Nat)} {pos : Pos} {wi : TIW} {g : TGD} {tt : TTW} {te : TW} {as : List Nat}
/-- [elt for tg in iter if ..] -/
theorem q_lc (s0 : Shared) (hc : X.calm = true) (hN : X.N.Nodup) (hi : QI X true tg iter wi) (ok : BlkOk X.N X.env.scope scope own) (hg : ∀ (s : Shared) (H : Hp) (C : Addr) (cl : List (Str × Addr)) (fp : List Addr), QG (Blk X scope s H C cl fp) tg as g)
    (ht : ∀ (s : Shared) (H : Hp) (C : Addr) (cl : List (Str × Addr)) (fp : List Addr), QTs (Blk X scope s H C cl fp) ifs tt) (he : ∀ (s : Shared) (H : Hp) (C : Addr) (cl : List (Str × Addr)) (fp : List Addr), QE (Blk X scope s H C cl fp) elt te)
    (hv : ∀ i ∈ as, i ∈ own.map (·.2) := by decide) (hs : ∀ x, foldedSetIterable iter X.env x = pure x := by intro _; rfl) : QE X (.ListComp elt [⟨tg, iter, ifs, 0⟩] scope pos) (wLc wi g tt te (own.map (·.2))) where
  mono := fun hq h z => hi.mono (fun l q => wCmp_mono hg ht he s0 (fun _ => none) l (fun ys => hq _) q) h z
  run := fun W F0 H0 tk => peImp (pe_lc hc hN (hi.run W F0 H0 tk) ok (fun s H C cl fp => (hg s H C cl fp).run F0 H0) (fun s H C cl fp => (ht s H C cl fp).run _ F0 H0 takes00) (fun s H C cl fp => (he s H C cl fp).run _ F0 H0 takes00) hs)
    fun σ H Qh ⟨ρ, F, rel, z⟩ => lc_run hi hg ht he hv rel (fun _ q => q) z s0
/-- x = [..] on one line -/
theorem s_asgLc (s0 : Shared) (i : Nat) {y : Str} {py spos : Pos} (hc : X.calm = true) (hN : X.N.Nodup) (hi : QI X true tg iter wi) (ok : BlkOk X.N X.env.scope scope own) (hg : ∀ (s : Shared) (H : Hp) (C : Addr) (cl : List (Str × Addr)) (fp : List Addr), QG (Blk X scope s H C cl fp) tg as g)
    (ht : ∀ (s : Shared) (H : Hp) (C : Addr) (cl : List (Str × Addr)) (fp : List Addr), QTs (Blk X scope s H C cl fp) ifs tt) (he : ∀ (s : Shared) (H : Hp) (C : Addr) (cl : List (Str × Addr)) (fp : List Addr), QE (Blk X scope s H C cl fp) elt te)
    (hy : X.N[i]? = some y := by rfl) (hyl : X.env.scope.names.lookup y = some .local := by rfl) (hsw : swapsWith (.ListComp elt [⟨tg, iter, ifs, 0⟩] scope pos) (some (.Name y py)) spos.line X.env = pure true := by exact sw_true rfl rfl rfl (by decide +kernel))
    (hv : ∀ i ∈ as, i ∈ own.map (·.2) := by decide) (hs : ∀ x, foldedSetIterable iter X.env x = pure x := by intro _; rfl) : QS X (.Assign [.Name y py] (.ListComp elt [⟨tg, iter, ifs, 0⟩] scope pos) spos) [i] (wAsg i (wLc wi g tt te (own.map (·.2)))) where
  mono := fun l h => hi.mono (fun xs q => wCmp_mono hg ht he s0 (fun _ => none) xs (fun ys q => ⟨q.1, l.nx _ q.2⟩) q) (l.ex _) h
  run := fun W F0 H0 tk => psImp (ps_setLc hc hN hy hyl hsw (hi.run W F0 H0 tk) ok (fun s H C cl fp => (hg s H C cl fp).run F0 H0) (fun s H C cl fp => (ht s H C cl fp).run _ F0 H0 takes00) (fun s H C cl fp => (he s H C cl fp).run _ F0 H0 takes00) hs)
    fun D σ H ⟨ρ, F, rel, z⟩ => by
      refine lc_run (Qh := fun x H1 => D.nx (σ.set i (some x)) H1) hi hg ht he hv rel (E := XQ X W σ F H) (fun _ q => q) ?_ s0
      refine hi.mono (fun xs q => wCmp_mono hg ht he s0 (fun _ => none) xs (fun ys q => ?_) q) (fun _ q => exq rel q) z
      intro v H1 F1 fp x r hf hn
      exact q.2 _ F1 H1 x.f ((rel.push x r hf hn).set q.1 i) .set
/-! ### lists of one's own, changed -/
def onFl (ρ : Sg) (i : Nat) (P : List D → Prop) : Prop := match ρ[i]? with
  | some (some (.fl .o l)) => P l
  | _ => False
theorem onFl_mono {i : Nat} {P P' : List D → Prop} (h : ∀ l, P l → P' l) (q : onFl ρ i P) : onFl ρ i P' := by
  unfold onFl at q ⊢; split at q <;> first | exact h _ q | exact q
theorem onFl_of {i : Nat} {P : List D → Prop} (q : onFl ρ i P) : ∃ l, ρ[i]? = some (some (.fl .o l)) ∧ P l := by
  unfold onFl at q; split at q <;> first | exact ⟨_, by assumption, q⟩ | exact q.elim
theorem set_none {i : Nat} {m : M} : (ρ.set i (some m)).length = ρ.length := List.length_set
variable {e e2 : Expr} {we we2 : TW} {x : Str} {p apos cpos : Pos} {spos : Pos}
/-- the slot's list, a method of it that changes it: r tells how -/
theorem mut_fl {i : Nat} {F H : Hp} (rel : Rel X.K F0 H0 ρ σ [] [] F H) {P : List D → Prop} (q : onFl ρ i P) : ∃ a vs l, ρ[i]? = some (some (.fl .o l)) ∧ σ[i]? = some (some (.ref a)) ∧ H a = some (.lst vs) ∧ RepDs X.K F l vs ∧ P l ∧ ∀ l' vs', RepDs X.K F l' vs' → Rel X.K F0 H0 (ρ.set i (some (.fl .o l'))) σ [] [] F (L2.upd H a (.lst vs')) := by
  obtain ⟨l, e, q⟩ := onFl_of q
  obtain ⟨a, vs, h1, h2, h3, h4⟩ := rel.updFl rfl e
  exact ⟨a, vs, l, e, h1, h2, h3, q, h4⟩
theorem fl_later {i : Nat} {F H F2 H2 : Hp} {l : List D} {a : Addr} (rel : Rel X.K F0 H0 ρ σ [] [] F H) (x : Ext F H F2 H2) (e : ρ[i]? = some (some (.fl .o l))) (h : σ[i]? = some (some (.ref a))) :
    ∃ vs, H2 a = some (.lst vs) ∧ RepDs X.K F2 l vs ∧ ∀ l' vs', RepDs X.K F2 l' vs' → Rel X.K F0 H0 (ρ.set i (some (.fl .o l'))) σ [] [] F2 (L2.upd H2 a (.lst vs')) := by
  obtain ⟨a', vs', g1, g2, g3, g4⟩ := (rel.ext x).updFl rfl e
  rw [h] at g1; cases g1
  exact ⟨vs', g2, g3, g4⟩
/-- x.append(e) -/
def wApp (i : Nat) (we : TW) : TSW := fun D ρ => onFl ρ i fun l => we ρ (fun m => ∃ y, m.frz = some y ∧ l.length < 16777216 ∧ D.nx (ρ.set i (some (.fl .o (l ++ [y]))))) (D.ex ρ)
theorem lt_line {n : Nat} (h : n < 16777216) : n < sizeLine := by rw [sizeLine_eq]; exact h
theorem s_app (i : Nat) (he : QE X e we) (hN : X.N[i]? = some x := by rfl) (hv : Vis X.env.scope x := by first | exact Or.inl rfl | exact Or.inr (Or.inl rfl) | exact Or.inr (Or.inr rfl)) (hd : (x == ("__debug__" : Str)) = false := by decide) (hcd : (x == ("__classdict__" : Str)) = false := by decide)
    (hfew : ((backTo cpos (starEach [e] X.env)).all (fun x => !x.1) && (backToKw cpos (keywordEach [] X.env)).all (fun x => x.1.isSome) && decide (([e] : List Expr).length + ([] : List Keyword).length + (if ([] : List Keyword).isEmpty then 0 else 1) < 30)) = true := by rfl)
    (hline : (apos.endLine == cpos.line) = true := by rfl) (hs : starEach [e] X.env = [(false, eval e X.env)] := by rfl) (hbase : attributeBase (.Name x p) "append" X.env (eval (.Name x p) X.env) = eval (.Name x p) X.env := by rfl) (hsw : swapsWith (.Call (.Attribute (.Name x p) "append" apos) [e] [] cpos) none spos.line X.env = pure false := by rfl) :
    QS X (.Expr (.Call (.Attribute (.Name x p) "append" apos) [e] [] cpos) spos) [] (wApp i we) where
  mono := fun l h => onFl_mono (fun _ z => he.mono (fun m ⟨y, e, h1, q⟩ => ⟨y, e, h1, l.nx _ q⟩) (l.ex _) z) h
  run := fun W F0 H0 tk => psImp (ps_expr (pe_bm PySem.F.plainAttrs_list PySem.F.slot_list_append PySem.F.type_list_append mt_append (pe_var hN hv hd hcd) (pa_cons (he.run W F0 H0 tk) pa_nil hs) hbase hfew hline hs rfl) hsw) fun D σ H ⟨ρ, F, rel, z⟩ => by
    obtain ⟨a, vs, l, e0, h1, h2, h3, q, _⟩ := mut_fl rel z
    refine ⟨.ref a, h1, .inl ⟨rfl, vs, SqL.of h2⟩, ρ, F, rel, he.mono (fun m hm => ?_) (fun _ z => exq rel z) q⟩
    obtain ⟨y, hy, hl, q⟩ := hm
    intro v H1 F1 fp x1 r hf hn
    have x2 := ext_frz x1 r hf
    have ry := r.frz (frzH_frz fun b hb => (r.own b hb).1) hy
    generalize frzH F1 H1 fp = F2 at x2 ry
    obtain ⟨vs', g2, g3, g4⟩ := fl_later rel x2 e0 h1
    exact ⟨a, vs', v, rfl, rfl, g2, lt_line (by rw [← g3.length]; exact hl), q _ F2 _ x2.f (g4 _ _ (g3.append (.cons ry .nil))) .refl⟩
end
end RT
namespace RT
open PySem PySem.Spec PyProof.Rows L2
section
variable {P : Program} {w : World} {K : PySem.W.Frag} {mg : Str → Option Value} {base : Heap}
theorem repms_get : ∀ {ms : List M} {vs : List V} {F H0 H : Hp} {i : Nat} {m : M}, RepMs K F H0 H ms vs [] → ms[i]? = some m → ∃ v, vs[i]? = some v ∧ RepM K F H0 H m v []
  | [], _, _, _, _, _, _, _, e => by simp at e
  | x :: xs, vs, F, H0, H, 0, m, r, e => by
    unfold RepMs at r
    obtain ⟨v, w, f, g, e1, e2, r1, r2⟩ := r
    obtain ⟨rfl, rfl⟩ := List.append_eq_nil_iff.mp e2.symm
    simp at e; subst e
    exact ⟨v, by rw [e1]; rfl, r1⟩
  | x :: xs, vs, F, H0, H, i + 1, m, r, e => by
    unfold RepMs at r
    obtain ⟨v, w, f, g, e1, e2, r1, r2⟩ := r
    obtain ⟨rfl, rfl⟩ := List.append_eq_nil_iff.mp e2.symm
    obtain ⟨v2, h1, h2⟩ := repms_get (i := i) r2 (by simpa using e)
    exact ⟨v2, by rw [e1]; simpa using h1, h2⟩
/-- the slots at a def's entry -/
def entry (n : Nat) (ms : List M) : Sg := ms.map some ++ List.replicate (n - ms.length) none
theorem rel_entry {F H : Hp} {N : List Str} {ms : List M} {vs : List V} (s : Same F H) (r : RepMs K F H H ms vs []) (hs : M.stos ms = true) : Rel K F H (entry N.length ms) (L2.start N vs) [] [] F H := by
  have hl := r.length
  refine ⟨.refl s, ?_, fun _ => [], [], List.nodup_nil, fun _ => List.nodup_nil, ?_, ?_, ?_, by unfold RepMs; exact ⟨rfl, rfl⟩, fun i m e => ?_⟩
  · unfold entry L2.start
    rw [List.length_append, List.length_append, List.length_map, List.length_map, List.length_replicate, List.length_replicate, hl]
  · intro i a z; cases z
  · intro i j a z; cases z
  · intro i a z; cases z
  · have hi : i < ms.length := by
      by_cases hi : i < ms.length
      · exact hi
      · unfold entry at e
        rw [List.getElem?_append_right (by simpa using hi), List.getElem?_replicate] at e
        split at e <;> cases e
    unfold entry at e
    rw [List.getElem?_append_left (by simpa using hi), List.getElem?_map] at e
    cases q : ms[i]? with
    | none => rw [q] at e; cases e
    | some m' =>
      rw [q] at e; cases e
      obtain ⟨v, h1, h2⟩ := repms_get r q
      refine ⟨v, ?_, ?_, h2⟩
      · unfold L2.start
        rw [List.getElem?_append_left (by rw [List.length_map, ← hl]; exact hi), List.getElem?_map, h1]; rfl
      · have all : ∀ (ms : List M), M.stos ms = true → ∀ m ∈ ms, m.sto = true := by
          intro ms
          induction ms with
          | nil => intro _ m hm; cases hm
          | cons x xs ih =>
            intro h m hm
            unfold M.stos at h
            rw [Bool.and_eq_true] at h
            rcases List.mem_cons.mp hm with rfl | hm
            · exact h.1
            · exact ih h.2 m hm
        exact all ms hs m (List.mem_of_getElem? q)
/-- THE RULE for a def: its body's tree reading w keeps T -/
theorem fn_ok {x qual : Str} {st : Stmt} {f : Addr} {fd : FuncData} {N ps : List Str} {k : Nat} {as : List Nat} {T : TSp} {wb : TSW} (F : Fun K x qual st f fd) (S : FnScope N ps (defScope st))
    (body : ∀ (cdv : Value) (A : Around) (outer : List Env) (s : Shared) (H : Hp) (E : XK), Room k (A.deeper (envOfC qual (defScope st) s.heap.objs.size f cdv)) →
      QSs (cxOf (L2.CX P w) P w K mg base N qual (defScope st) f cdv A outer s H E) (defBody st) as wb)
    (hl : ∀ ms Q E, T ms Q E → ms.length = ps.length ∧ M.stos ms = true)
    (h : ∀ ms Q E, T ms Q E → wb { nx := fun _ => Q (.d .non), rt := Q, ex := fun _ => E } (entry N.length ms)) : FnOk P w K mg base (L2.CX P w) (k + 1) f fd ps (spOf mg K T) := by
  refine F.okX S (fun vs H Q E hs => ?_) (fun cdv A outer s H vs Q E hr hs => ?_)
  · obtain ⟨F, ms, sF, r, t⟩ := hs
    rw [← r.length]; exact (hl _ _ _ t).1
  · obtain ⟨F, ms, sF, r, t⟩ := hs
    have B := body cdv A outer s H E hr
    refine ⟨_, B.run (fun cls d _ H' => E cls d H') F H (takes_of rfl rfl rfl rfl), entry N.length ms, F, rel_entry sF r (hl _ _ _ t).2, B.mono ?_ (h ms _ _ t)⟩
    refine ⟨fun ρ q => ?_, fun m q => ?_, fun _ z => z.elim, fun _ z => z.elim, fun ρ x q => ?_⟩
    · intro σ' F' H' s1 rel f1
      exact q (by unfold M.ret; rfl) .non H' F' [] rel.e (.d .non) List.nodup_nil
    · intro hr v F' H' fp s1 x1 rm hn
      exact q hr v H' F' fp x1 rm hn
    · intro cls d σ' F' H' rel rx
      exact q cls d H' F' rel.e rx
end
end RT
namespace RT
open PySem PySem.Spec PyProof.Rows L2
/-! ### enumerate(x), x a list or a tuple: new pairs whose objects are known -/
def SqX (t : Bool) (K : PySem.W.Frag) (H : Hp) (a : Addr) (xs : List V) : Prop := if t = true then SqT K H a xs else SqL K H a xs
def ItrAt (t : Bool) (h : Heap) (it a : Addr) (i : Nat) : Prop := if t = true then h.IsTupleIter it a i else h.IsListIter it a i
def Items (t : Bool) (h : Heap) (a : Addr) (its : Array Value) : Prop := if t = true then h.IsTuple a its else h.IsList a its
theorem Items.ty {t : Bool} {h : Heap} {a : Addr} {its : Array Value} (x : Items t h a its) : ∃ o, h.get? a = some o ∧ (o.cls = .type "tuple" ∨ o.cls = .type "list") := by
  cases t with
  | true => obtain ⟨o, e, c, _⟩ := (show h.IsTuple a its from x); exact ⟨o, e, .inl c⟩
  | false => obtain ⟨o, e, c, _⟩ := (show h.IsList a its from x); exact ⟨o, e, .inr c⟩
theorem ItrAt.ty {t : Bool} {h : Heap} {it a : Addr} {i : Nat} (x : ItrAt t h it a i) : ∃ o, h.get? it = some o ∧ (o.cls = .type "tuple_iterator" ∨ o.cls = .type "list_iterator") ∧ ∀ v, o.data ≠ .cell v := by
  cases t with
  | true => obtain ⟨o, e, c, d⟩ := (show h.IsTupleIter it a i from x); exact ⟨o, e, .inl c, fun v z => by rw [d] at z; cases z⟩
  | false => obtain ⟨o, e, c, d⟩ := (show h.IsListIter it a i from x); exact ⟨o, e, .inr c, fun v z => by rw [d] at z; cases z⟩
theorem ItrAt.keep {t : Bool} {h h' : Heap} {it a : Addr} {i : Nat} (x : ItrAt t h it a i) (k : ∀ o, h.get? it = some o → h'.get? it = some o) : ItrAt t h' it a i := by
  cases t with
  | true => exact (show h.IsTupleIter it a i from x).at k
  | false => exact (show h.IsListIter it a i from x).at k
theorem itr_ne {t t' : Bool} {h : Heap} {it a b : Addr} {i : Nat} {its : Array Value} (x : ItrAt t h it a i) (y : Items t' h b its) : b ≠ it := by
  obtain ⟨o, e, c, _⟩ := x.ty
  obtain ⟨o', e', c'⟩ := y.ty
  intro z
  rw [z, e] at e'; cases e'
  rcases c with c | c <;> rcases c' with c' | c' <;> (rw [c] at c'; exact absurd c' (by decide))
def DrSt (t : Bool) (it a : Addr) (its : Array Value) : Nat → Heap → Prop := fun i h => ItrAt t h it a i ∧ Items t h a its
theorem draws_of {P : Program} {w : World} {A : Around} (hh : A.handled = none) (t : Bool) (it a : Addr) (hne : a ≠ it) (its : Array Value) : Draws P w A it [it, a] its.size (fun i v => its[i]? = some v) (DrSt t it a its) := by
  cases t with
  | true => exact Draws.tuple hh it a hne its
  | false => exact Draws.list hh it a hne its
section
variable {X : Cx} {pins : List (Addr × Obj)} {σ : L2.St} {H : Hp} {s : Shared}
theorem _root_.L2.Inv.seqX {t : Bool} {a : Addr} {xs : List V} (I : Inv X pins σ H s) (h : SqX t X.K H a xs) : ∃ its : List Value, Vals xs its ∧ Items t s.heap a its.toArray ∧ xs.length ≤ sizeLine := by
  cases t with
  | true =>
    obtain ⟨its, r, p, z⟩ := I.tuple (show SqT X.K H a xs from h)
    exact ⟨its, r, (show s.heap.IsTuple a its.toArray from p), z⟩
  | false =>
    obtain ⟨its, r, p, z⟩ := I.list (show SqL X.K H a xs from h)
    exact ⟨its, r, p.isList, z⟩
theorem _root_.L2.Inv.seqX_inj {t : Bool} {a : Addr} {xs ys : List V} (I : Inv X pins σ H s) (h : SqX t X.K H a xs) (h' : SqX t X.K H a ys) : xs = ys := by
  cases t with
  | true => exact I.tuple_inj h h'
  | false => exact I.list_inj h h'
end
theorem enum_endX {prog : Program} {w : World} {A : Around} {E : Value → Shared → Prop} {s : Shared} {t : Bool} {e it l : Addr} {i : Nat} {items : Array Value} {old : Value} {Q : Option Value → Shared → Prop} (hh : A.handled = none)
    (he : IsEnum s.heap e it i old) (hit : ItrAt t s.heap it l i) (hl : Items t s.heap l items) (hx : items[i]? = none)
    (hQ : ∀ h', Heap.ExtBut it s.heap h' → Q none { s with heap := h' }) : wpAny (model prog w) A (pyNext (.ref e)) Q E s := by
  cases t with
  | false => exact wpAny_pyNext_enum_end hh he hit hl hx hQ
  | true =>
    have hT : s.TypeIs (.ref e) "enumerate" := ⟨_, he, rfl⟩
    unfold pyNext
    refine wpAny_bind (wpAny_attempt (wpAny_callSpecial?_slot (name := Str.ofString "__next__") hT F.slot_enumerate_next
      (wpAny_call_entry F.slot_enumerate_next hT F.entry_enumerate_next ?_ (F.args_enumerate_next_1 _))))
    show wpAny _ _ (field (.ref e) 2 >>= _) _ _ _
    refine wpAny_bind (wpAny_field he rfl (x := .ref it) rfl ?_)
    refine wpAny_bind (wpAny_nextOf_tuple_end hh hit hl hx fun h' x he' hx' => ?_)
    obtain ⟨o, ho, hc⟩ := hx'
    refine wpAny_bind (wpAny_isInstance (T := "StopIteration") (b := true) ⟨o, ho, hc⟩ isSubtype_stop ?_)
    exact wpAny_pure (hQ _ he')
def Iteq (t : Bool) (K : PySem.W.Frag) (a : Addr) : It :=
  ⟨fun i H => ∃ (xs : List V) (x : V), SqX t K H a xs ∧ xs[i]? = some x, fun i H v H' => ∃ T o x, v = .ref T ∧ H T = none ∧ o.dict = none ∧ H' = L2.upd H T (.frz o (.tup [.int (i : Nat), x])) ∧ ∀ xs, SqX t K H a xs → xs[i]? = some x,
    fun i H => ∃ xs : List V, SqX t K H a xs ∧ xs.length ≤ i⟩
theorem turn_enumX {P : Program} {w : World} {K : PySem.W.Frag} {elts : List Expr} {kk : Nat} {tpos : Pos} (t : Bool) (a e it : Addr) :
    Turn P w K (.Tuple elts kk tpos) (Iteq t K a) [e, it] e (fun i h => (∃ old, IsEnum h e it ((i : Nat) : Int) old) ∧ ItrAt t h it a i ∧ e ≠ it) where
  mem := by simp
  obj := fun i h st b hb => by
    obtain ⟨⟨old, he⟩, hi, _⟩ := st
    obtain ⟨o, ho, _, hd⟩ := hi.ty
    have e' : b = e ∨ b = it := by simpa using hb
    rcases e' with z | z
    · rw [z]; exact ⟨_, he, fun v q => nomatch q⟩
    · rw [z]; exact ⟨o, ho, hd⟩
  keep := fun i h h' st k => let ⟨⟨old, he⟩, hi, hne⟩ := st; ⟨⟨old, k e (by simp) _ he⟩, hi.keep fun o q => k it (by simp) o q, hne⟩
  item := by
    intro X hP hw hK hc i pins s σ H E I hf st hg
    subst hP hw hK
    obtain ⟨⟨old, he⟩, hit, hne⟩ := st
    obtain ⟨xs, x, hq, hx⟩ := hg
    obtain ⟨its, rv, p, hz⟩ := I.seqX hq
    obtain ⟨u, hu, ru⟩ := rv.get hx
    have hel : e < s.heap.objs.size := Heap.lt_size he
    have hil : it < s.heap.objs.size := by obtain ⟨_, q, _⟩ := hit.ty; exact Heap.lt_size q
    have hae : a ≠ e := fun z => by
      obtain ⟨o, e1, c1⟩ := p.ty
      rw [z, he] at e1; cases e1
      rcases c1 with c1 | c1 <;> (simp at c1)
    have hlt : i < its.toArray.size := by have := (List.getElem?_eq_some_iff.mp hu).1; simpa using this
    refine wpAny_pyNext_enum_itemD (draws_of (A := X.A.in1) (show X.A.in1.handled = none from I.ok.hd hc) t it a (itr_ne hit p) its.toArray) he ⟨hit, p⟩ hlt hne (fun z => ?_) fun x' h' tk hx' ho hst' hT hsz hk => ?_
    · rcases List.mem_cons.mp z with z | z
      · exact hne z
      · exact hae (List.mem_singleton.mp z).symm
    have exu : x' = u := by
      have : its.toArray[i]? = some u := by simpa using hu
      rw [this] at hx'; cases hx'; rfl
    subst exu
    refine ⟨_, rfl, wpAny_letOwnedTupleGo_enum (s := { s with heap := h', toks := tk + 1 }) ho fun h'' he' sb => ?_⟩
    have hT2 : h''.get? s.heap.objs.size = some { cls := .type "tuple", data := .seq #[.int i tk, x'] } := (sb.2 _ (Nat.ne_of_gt hel)).trans hT
    have new : ObjOk X.prog X.w (L2.upd H s.heap.objs.size (.frz { cls := .type "tuple", data := .seq #[.int i tk, x'] } (.tup [.int (i : Nat), x]))) h'' s.heap.objs.size (.frz { cls := .type "tuple", data := .seq #[.int i tk, x'] } (.tup [.int (i : Nat), x])) :=
      ⟨hT2, by show 2 ≤ sizeLine; decide, [.int i tk, x'], .cons ⟨_, rfl⟩ (.cons ru .nil), ⟨_, hT2, rfl, _, rfl⟩⟩
    have I1 : Inv X pins σ (L2.upd H s.heap.objs.size (.frz { cls := .type "tuple", data := .seq #[.int i tk, x'] } (.tup [.int (i : Nat), x]))) { s with heap := h'', toks := tk + 1 } :=
      I.turnedNew (ch := [e, it]) (fun b ob hb q => (sb.2 b (fun z => hb (by simp [z]))).trans (hk b ob (fun z => hb (by simp [z])) (fun z => hb (by simp [z])) q)) hf (Nat.le_refl _) new
    refine ⟨.ref s.heap.objs.size, _, I1, rfl, ⟨_, _, x, rfl, I.hok.fresh (Nat.le_refl _), rfl, rfl, fun ys hy => by rw [I.seqX_inj hy hq]; exact hx⟩, ⟨⟨x', ?_⟩, hst'.1.keep fun o q => (sb.2 it (Ne.symm hne)).trans q, hne⟩, fun b hb => ?_⟩
    · have e1 : ((i + 1 : Nat) : Int) = (i : Int) + 1 := by omega
      rw [e1]; exact he'
    · have hb' : b < s.heap.objs.size := by
        have e' : b = e ∨ b = it := by simpa using hb
        rcases e' with z | z
        · rw [z]; exact hel
        · rw [z]; exact hil
      rw [L2.upd_ne (Nat.ne_of_lt hb')]
      exact (hf b hb).1
  done := by
    intro X hP hw hK hc i pins s σ H E I hf st hg
    subst hP hw hK
    obtain ⟨⟨old, he⟩, hit, hne⟩ := st
    obtain ⟨xs, hq, hx⟩ := hg
    obtain ⟨its, rv, p, hz⟩ := I.seqX hq
    obtain ⟨f0, f1, f2, f3, f4, f5⟩ := hf it (by simp)
    have hl := rv.length
    have hn : its.toArray.size ≤ i := by simp; omega
    exact enum_endX (I.ok.hd hc) he hit p (by simp; omega) fun h' eb => ⟨rfl, I.turned (t' := s.toks) (fun b o hb q => eb b o hb q) f0 f1 f3 f4 f5⟩
  self := fun A i s Q E st h => let ⟨⟨_, he⟩, _⟩ := st; wpAny_pyIter_enum he h
theorem meets_enumerate_newT (l : Addr) (items : Array Value) :
    Meets (Builtin.«enumerate.__new__» ⟨[.type "enumerate", .ref l], []⟩) (fun _ R s => s.heap.IsTuple l items ∧
      R (.ok (.ret (.ref (s.heap.push { cls := .type "tuple_iterator", data := .fields #[.ref l, .int 0 0] }).objs.size)))
        { s with heap := (s.heap.push { cls := .type "tuple_iterator", data := .fields #[.ref l, .int 0 0] }).push { cls := .type "enumerate", data := .fields #[.none, .bool false, .ref s.heap.objs.size, rawInt 0, .none, .none] } }) :=
  .of_wp fun prog w A R s h => by
    obtain ⟨hp, g, d, tk, os⟩ := s; obtain ⟨hL, h⟩ := h
    have hsub := sub_enumerate
    have hl := hL
    obtain ⟨o, ho, hc, n, hd⟩ := hl
    wp_walk using wpAny_pyIter_tuple hL
    refine wpAny_stack_any fun st => wpAny_pure ?_
    split
    · rename_i c _ _ _ _ _
      cases (c == Value.type "enumerate")
      · wp_walk using wpAny_pyIter_tuple hL
        exact ⟨_, rfl, h⟩
      · wp_walk using wpAny_pyIter_tuple hL
        exact ⟨_, rfl, h⟩
    · wp_walk using wpAny_pyIter_tuple hL
      exact ⟨_, rfl, h⟩
/-- enumerate(x): its two new cells -/
theorem call_enumerate_tup {prog : Program} {w : World} {A : Around} {E : Value → Shared → Prop} {s : Shared} {l : Addr} {items : Array Value} {Q : Value → Shared → Prop} (hL : s.heap.IsTuple l items)
    (h : ∀ h', IsEnum h' (s.heap.objs.size + 1) s.heap.objs.size 0 .none → h'.IsTupleIter s.heap.objs.size l 0 → h'.objs.size = s.heap.objs.size + 2 →
      (∀ b o, s.heap.get? b = some o → h'.get? b = some o) → Q (.ref (s.heap.objs.size + 1)) { s with heap := h' }) :
    wpAny (model prog w) A (call (.type "enumerate") [.ref l]) Q E s := by
  refine callType_new F.called_enumerate (by decide) (F.typeCall_enumerate_1 _) (F.newCall_enumerate_1 _) (fun obj => F.args_object_init_2 obj _) F.entry_enumerate_new
    (meets_enumerate_newT l items) ⟨hL, ?_⟩
  have hz : (s.heap.push { cls := .type "tuple_iterator", data := .fields #[.ref l, .int 0 0] }).objs.size = s.heap.objs.size + 1 := Heap.size_push ..
  show _ ∧ _
  rw [hz]
  have he : IsEnum ((s.heap.push { cls := .type "tuple_iterator", data := .fields #[.ref l, .int 0 0] }).push
      { cls := .type "enumerate", data := .fields #[.none, .bool false, .ref s.heap.objs.size, rawInt 0, .none, .none] }) (s.heap.objs.size + 1) s.heap.objs.size 0 .none := by
    have := Heap.get?_push_size (s.heap.push { cls := .type "tuple_iterator", data := .fields #[.ref l, .int 0 0] })
      (o := { cls := .type "enumerate", data := .fields #[.none, .bool false, .ref s.heap.objs.size, rawInt 0, .none, .none] }) rfl
    rw [hz] at this; exact this
  refine ⟨⟨_, he, rfl⟩, h _ he ⟨_, Heap.get?_push_of_some _ (Heap.get?_push_size _ rfl), rfl, rfl⟩ (by rw [Heap.size_push, hz]) fun b o x => Heap.get?_push_of_some _ (Heap.get?_push_of_some _ x)⟩
section
variable {X : Cx} {K : PySem.W.Frag} {F F' H H' H0 F0 : Hp} {e : Expr} {we : TW} {c : Bool}
def iEnumX (K : PySem.W.Frag) (te : TE) : TI := fun σ H R => te σ H fun x H1 => ∃ a xs t, [x] = [V.ref a] ∧ SqX t K H1 a xs ∧ (xs.length ≤ 16777216 → R (Iteq t K a) H1)
theorem pi_enumX {ta : TE} {p pos tpos : Pos} {elts : List Expr} {kk : Nat} (hg : Gl X "enumerate") (hm : X.mg "enumerate" = none) (ha : PE X e ta) (hs : starEach [e] X.env = [(false, eval e X.env)] := by rfl) :
    PI X (.Tuple elts kk tpos) (.Call (.Name "enumerate" p) [e] [] pos) (iEnumX X.K ta) := by
  refine ⟨fun pins s σ H R I h => ?_⟩
  refine Call_ (ld_blt I hg hm boot_enumerate (PyProof.Rows.callWith_type1 (thn ((pa_cons ha pa_nil hs).run pos pins s σ H (fun vs H1 => ∃ a xs t, vs = [V.ref a] ∧ SqX t X.K H1 a xs ∧ (xs.length ≤ 16777216 → R (Iteq t X.K a) H1)) I h) fun us s1 ⟨vs, H1, I1, r1, q1⟩ => ?_) hs rfl))
  · obtain ⟨a, xs, t, ex, hq, q⟩ := q1
    subst ex
    cases r1 with
    | cons r rr =>
      cases rr
      cases r
      obtain ⟨its, rv, p', hz⟩ := I1.seqX hq
      have hs := sizeLine_eq
      have fin : ∀ h', IsEnum h' (s1.heap.objs.size + 1) s1.heap.objs.size 0 .none → ItrAt t h' s1.heap.objs.size a 0 → h'.objs.size = s1.heap.objs.size + 2 → (∀ b o, s1.heap.get? b = some o → h'.get? b = some o) →
          wpAny (model X.prog X.w) X.A (pyIter (.ref (s1.heap.objs.size + 1))) (PIE X pins σ (.Tuple elts kk tpos) R) X.xe { s1 with heap := h' } := fun h' he hit hsz hk => by
        refine wpAny_pyIter_enum he ?_
        have I2 : Inv X pins σ H1 { s1 with heap := h' } := I1.kept (t' := s1.toks) hk
        refine ⟨s1.heap.objs.size + 1, [s1.heap.objs.size + 1, s1.heap.objs.size], _, _, H1, rfl, I2, turn_enumX t a (s1.heap.objs.size + 1) s1.heap.objs.size, ⟨⟨.none, he⟩, hit, Nat.succ_ne_self _⟩, fun b hb => ?_, q (by omega)⟩
        have e' : b = s1.heap.objs.size + 1 ∨ b = s1.heap.objs.size := by simpa using hb
        have hle : s1.heap.objs.size ≤ b := by
          rcases e' with z | z
          · rw [z]; exact Nat.le_add_right _ _
          · rw [z]; exact Nat.le_refl _
        exact I1.fpOk hle (I1.hok.fresh hle)
      cases t with
      | true => exact call_enumerate_tup p' fin
      | false => exact call_enumerate_list p' fin
/-- the pairs of enumerate -/
def enumD (l : List D) : List D := (List.range l.length).zipWith (fun (i : Nat) x => .tup [.int i, x]) l
theorem enumD_get {l : List D} {i : Nat} {x : D} : (enumD l)[i]? = some x ↔ ∃ y, l[i]? = some y ∧ x = .tup [.int i, y] := by
  unfold enumD
  rw [List.getElem?_zipWith]
  by_cases hi : i < l.length
  · rw [List.getElem?_range hi, List.getElem?_eq_getElem hi]
    simp only [Option.some.injEq]
    constructor
    · intro h; exact ⟨_, rfl, h.symm⟩
    · rintro ⟨y, rfl, h⟩; exact h.symm
  · rw [List.getElem?_eq_none (by simpa using hi), List.getElem?_eq_none (by omega)]
    simp
theorem enumD_length (l : List D) : (enumD l).length = l.length := by unfold enumD; rw [List.length_zipWith, List.length_range, Nat.min_self]
theorem it_enum {t : Bool} {a : Addr} {l : List D} {vs : List V} (uniq : ∀ F1 H1, Same F F1 → Same F1 H1 → Same H0 H1 → SqX t K H1 a vs) (r : RepDs K F l vs) : ItOk K F H0 (Iteq t K a) (enumD l) where
  go := fun i x hx F1 H1 s1 s2 z1 => by
    obtain ⟨y, hy, e⟩ := enumD_get.mp hx
    obtain ⟨u, hu, ru⟩ := r.get hy
    refine ⟨⟨vs, u, uniq F1 H1 s1 s2 z1, hu⟩, fun v H2 ⟨T, o, x', ev, hT, ho, eH, hx'⟩ => ?_⟩
    have := hx' vs (uniq F1 H1 s1 s2 z1)
    rw [hu] at this; cases this
    subst ev eH e
    refine ⟨L2.upd F1 T (.frz o (.tup [.int (i : Nat), u])), Ext.pure s2 hT, ?_⟩
    unfold RepD
    exact ⟨T, _, rfl, .inl ⟨o, L2.upd_same, ho⟩, .cons .int (.cons ((ru.mono s1).mono (Ext.pure s2 hT).f) .nil)⟩
  stop := fun F1 H1 s1 s2 z1 => ⟨vs, uniq F1 H1 s1 s2 z1, by rw [enumD_length, r.length]; exact Nat.le_refl _⟩
def wEnum (c : Bool) (we : TW) : TIW := fun ρ Q E => we ρ (fun m => ∃ l, m.itD c = some l ∧ Q (enumD l)) E
theorem qi_enum {p pos tpos : Pos} {elts : List Expr} {kk : Nat} (hg : Gl X "enumerate") (hm : X.mg "enumerate" = none) (he : QE X e we) (hs : starEach [e] X.env = [(false, eval e X.env)] := by rfl) : QI X c (.Tuple elts kk tpos) (.Call (.Name "enumerate" p) [e] [] pos) (wEnum c we) where
  mono := fun hq h z => he.mono (fun m ⟨l, e, q⟩ => ⟨l, e, hq _ q⟩) h z
  run := fun W F0 H0 tk => piImp (pi_enumX hg hm (he.run W F0 H0 tk) hs) fun σ H R ⟨ρ, F, rel, z⟩ => by
    refine ⟨ρ, F, rel, he.mono (fun m hm => ?_) (fun _ q => q) z⟩
    obtain ⟨l, hl, q⟩ := hm
    intro v H1 F1 fp x r hf hn
    obtain ⟨a, vs, F2, e1, x2, r2, hq⟩ := walk_from x (rel.e.h.trans x.h) r hf hl
    rcases hq with ⟨h1, h2⟩ | ⟨h1, h2⟩
    · exact ⟨a, vs, false, by rw [e1], h1, fun hz => q (by rw [enumD_length, r2.length]; exact hz) _ F2 H1 x2 (it_enum (t := false) h2 r2)⟩
    · exact ⟨a, vs, true, by rw [e1], h1, fun hz => q (by rw [enumD_length, r2.length]; exact hz) _ F2 H1 x2 (it_enum (t := true) h2 r2)⟩
end
end RT
namespace RT
open PySem PySem.Spec PyProof.Rows L2
section
variable {X : Cx} {K : PySem.W.Frag} {F F' H H' H0 F0 : Hp} {ρ : Sg} {σ : L2.St}
variable {a b c e e2 : Expr} {es : List Expr} {wa wb wc we we2 : TW} {pos p apos cpos spos : Pos} {x : Str}
/-! ### chains -/
def wChn (r r' : WR2) (wa wb wc : TW) : TW := fun ρ Q E => wa ρ (fun x => wb ρ (fun y => r x y (onB fun k => if k = true then wc ρ (fun z => r' y z Q) E else Q (.d (.bl false)))) E) E
theorem chn_mono {r r' : R2} {w1 w2 : WR2} (s1 : OpS X r w1) (s2 : OpS X r' w2) (ha : QE X a wa) (hb : QE X b wb) (hc : QE X c wc) {ρ : Sg} {Q Q' : M → Prop} {E E' : XP} (hq : ∀ m, Q m → Q' m) (he : ∀ x, E x → E' x) (h : wChn w1 w2 wa wb wc ρ Q E) : wChn w1 w2 wa wb wc ρ Q' E' :=
  ha.mono (fun x hx => hb.mono (fun y hy => s1.mono (fun m hm => onB_mono (fun k hk => ite_mono hk (fun z => hc.mono (fun z' q => s2.mono hq q) he z) (hq _)) hm) hy) he hx) he h
theorem chn_run {r r' : R2} {w1 w2 : WR2} (s1 : OpS X r w1) (s2 : OpS X r' w2) (ha : QE X a wa) (hb : QE X b wb) (hc : QE X c wc) {W : WX} {σ : L2.St} {H : Hp} {Qh : VK} (h : liftE X W F0 H0 (wChn w1 w2 wa wb wc) σ H Qh) :
    tChain r r' (liftE X W F0 H0 wa) (liftE X W F0 H0 wb) (liftE X W F0 H0 wc) σ H Qh := by
  obtain ⟨ρ, F, rel, h⟩ := h
  refine two (R := fun x y => w1 x y (onB fun k => if k = true then wc ρ (fun z => w2 y z (KQ X.K H0 F H Qh)) (XQ X W σ F H) else KQ X.K H0 F H Qh (.d (.bl false)))) ha hb rel h fun x y u v fx fy F2 H2 x2 rx ry _ _ _ z hxy => ?_
  refine s1.run (Qh := fun z' H3 => ∃ k, z' = V.bl k ∧ (if k = true then liftE X W F0 H0 wc σ H3 fun w' H4 => r' v w' H4 Qh else Qh (.bl false) H3)) (rel.ext x2).s z rx ry hxy fun m hm => ?_
  intro vb H3 F3 fp x3 rm _ _
  obtain ⟨k, ek, hk⟩ := onB_of hm rm
  refine ⟨k, ek, ite_mono hk (fun q => ?_) (fun q => ((q.ext x2).ext x3).here ((rel.ext x2).ext x3).s (.d .bl))⟩
  refine ⟨ρ, F3, (rel.ext x2).ext x3, hc.mono (fun z' q' => ?_) (fun _ q => (q.ext x2).ext x3) q⟩
  intro w' H4 F4 fz x4 rz _ _
  exact s2.run (((rel.ext x2).ext x3).ext x4).s ((((rel.ext x2).ext x3).ext x4).e.h) ((ry.ext x3).ext x4) rz q' fun m hm => ((hm.ext x2).ext x3).ext x4
theorem q_chn {op op' : CmpOp} {r r' : R2} {w1 w2 : WR2} (ho : OpR X (compareOp op) r) (ho' : OpR X (compareOp op') r') (s1 : OpS X r w1) (s2 : OpS X r' w2) (ha : QE X a wa) (hb : QE X b wb) (hc : QE X c wc) (hm : lastMarks [op, op'] [b, c] = false := by with_unfolding_all rfl) :
    QE X (.Compare a [op, op'] [b, c] pos) (wChn w1 w2 wa wb wc) where
  mono := chn_mono s1 s2 ha hb hc
  run := fun W F0 H0 tk => peImp (pe_chain ho ho' (ha.run W F0 H0 tk) (hb.run W F0 H0 tk) (hc.run W F0 H0 tk) hm) fun σ H Qh h => chn_run s1 s2 ha hb hc h
theorem t_chn {op op' : CmpOp} {r r' : R2} {w1 w2 : WR2} (ho : OpR X (compareOp op) r) (ho' : OpR X (compareOp op') r') (s1 : OpS X r w1) (s2 : OpS X r' w2) (ha : QE X a wa) (hb : QE X b wb) (hc : QE X c wc) (hm : lastMarks [op, op'] [b, c] = false := by with_unfolding_all rfl) :
    QT X (.Compare a [op, op'] [b, c] pos) (wTB (wChn w1 w2 wa wb wc)) where
  mono := fun hq he z => chn_mono s1 s2 ha hb hc (fun m hm => by split at hm <;> first | exact hq _ hm | exact hm) he z
  run := fun W F0 H0 tk => ptImp (pt_chain ho ho' (ha.run W F0 H0 tk) (hb.run W F0 H0 tk) (hc.run W F0 H0 tk) hm) fun σ H Qh ⟨ρ, F, rel, h⟩ => by
    refine chn_run s1 s2 ha hb hc (W := W) (F0 := F0) (H0 := H0) (Qh := fun x H1 => ∃ k, x = V.bl k ∧ Qh k H1) ⟨ρ, F, rel, chn_mono s1 s2 ha hb hc (fun m hm => ?_) (fun _ q => q) h⟩
    intro v H' F' fp x rm _ _
    split at hm
    · exact ⟨_, rm.ofD.2.ofBl, hm H' F' x⟩
    · exact hm.elim
theorem q_leLt (ha : QE X a wa) (hb : QE X b wb) (hc : QE X c wc) (hm : lastMarks [.LtE, .Lt] [b, c] = false := by with_unfolding_all rfl) : QE X (.Compare a [.LtE, .Lt] [b, c] pos) (wChn (wB0 fun i j => decide (i ≤ j)) (wB0 fun i j => decide (i < j)) wa wb wc) := q_chn op_le op_lt s_B0 s_B0 ha hb hc hm
theorem t_leLt (ha : QE X a wa) (hb : QE X b wb) (hc : QE X c wc) (hm : lastMarks [.LtE, .Lt] [b, c] = false := by with_unfolding_all rfl) : QT X (.Compare a [.LtE, .Lt] [b, c] pos) (wTB (wChn (wB0 fun i j => decide (i ≤ j)) (wB0 fun i j => decide (i < j)) wa wb wc)) := t_chn op_le op_lt s_B0 s_B0 ha hb hc hm
theorem q_leLe (ha : QE X a wa) (hb : QE X b wb) (hc : QE X c wc) (hm : lastMarks [.LtE, .LtE] [b, c] = false := by with_unfolding_all rfl) : QE X (.Compare a [.LtE, .LtE] [b, c] pos) (wChn (wB0 fun i j => decide (i ≤ j)) (wB0 fun i j => decide (i ≤ j)) wa wb wc) := q_chn op_le op_le s_B0 s_B0 ha hb hc hm
theorem t_leLe (ha : QE X a wa) (hb : QE X b wb) (hc : QE X c wc) (hm : lastMarks [.LtE, .LtE] [b, c] = false := by with_unfolding_all rfl) : QT X (.Compare a [.LtE, .LtE] [b, c] pos) (wTB (wChn (wB0 fun i j => decide (i ≤ j)) (wB0 fun i j => decide (i ≤ j)) wa wb wc)) := t_chn op_le op_le s_B0 s_B0 ha hb hc hm
theorem t_ltLt (ha : QE X a wa) (hb : QE X b wb) (hc : QE X c wc) (hm : lastMarks [.Lt, .Lt] [b, c] = false := by with_unfolding_all rfl) : QT X (.Compare a [.Lt, .Lt] [b, c] pos) (wTB (wChn (wB0 fun i j => decide (i < j)) (wB0 fun i j => decide (i < j)) wa wb wc)) := t_chn op_lt op_lt s_B0 s_B0 ha hb hc hm
/-! ### a list's truth -/
def M.tru : M → Option Bool
  | .d .non => some false
  | .d (.bl b) => some b
  | .d (.int i) => some (i != 0)
  | .d (.tup l) => some (!l.isEmpty)
  | .d (.lst l) => some (!l.isEmpty)
  | .d (.scr l) => some (!l.isEmpty)
  | .fl _ l => some (!l.isEmpty)
  | .fd _ l => some (!l.isEmpty)
  | _ => none
def wTru (we : TW) : TTW := fun ρ Q E => we ρ (fun m => ∃ b, m.tru = some b ∧ Q b) E
theorem emp_len {α β : Type} {l : List α} {m : List β} (h : l.length = m.length) : (!l.isEmpty) = !m.isEmpty := by
  cases l <;> cases m <;> simp at h ⊢
theorem RepM.tru (s : Same F H) (z : Same H0 H) {m : M} {v : V} {fp : List Addr} {k : Bool} (e : m.tru = some k) (r : RepM K F H0 H m v fp) : TruV K v H k := by
  have sq : ∀ l : List D, m.seqD = some l → k = !l.isEmpty → TruV K v H k := fun l e1 e2 => by
    obtain ⟨a, vs, ev, hq, r2⟩ := r.seq s z e1
    rw [ev]
    rcases hq with hq | hq
    · exact .inl ⟨vs, hq, by rw [e2]; exact emp_len r2.length⟩
    · exact .inr (.inl ⟨vs, hq, by rw [e2]; exact emp_len r2.length⟩)
  cases m with
  | d y =>
    cases y with
    | non => cases e; rw [r.ofD.2.ofNon]; exact (rfl : (false : Bool) = false)
    | bl b => cases e; rw [r.ofD.2.ofBl]; exact (rfl : k = k)
    | int i => cases e; rw [r.ofD.2.ofInt]; exact (rfl : (i != 0) = (i != 0))
    | str _ => cases e
    | tup l => cases e; exact sq l rfl rfl
    | lst l => cases e; exact sq l rfl rfl
    | scr l => cases e; exact sq l rfl rfl
    | exc _ _ _ => cases e
    | dct _ _ => cases e
    | obj _ _ _ => cases e
    | fn _ => cases e
  | fl k l => cases e; exact sq l rfl rfl
  | fd k l =>
    cases e
    unfold RepM at r
    obtain ⟨a, kvs, e, q, e2, r⟩ := r
    rw [e]
    exact .inr (.inr ⟨kvs, q.now z, emp_len (by have := congrArg List.length e2; simpa using this.symm)⟩)
  | ml _ _ => cases e
  | md _ _ _ => cases e
  | ob _ _ _ _ _ => cases e
  | pk _ _ => cases e
  | mt _ => cases e
theorem t_tru (h : QE X e we) (he : ∀ whole, isTrue e X.env whole = (do let v ← whole; standAt e.pos; holding [v] (truthy v)) := by intro _; rfl) : QT X e (wTru we) where
  mono := fun hq hx z => h.mono (fun m ⟨b, e, q⟩ => ⟨b, e, hq _ q⟩) hx z
  run := fun W F0 H0 tk => ptImp (pt_truth (h.run W F0 H0 tk) he) fun σ H Qh ⟨ρ, F, rel, z⟩ =>
    ⟨ρ, F, rel, h.mono (fun m ⟨b, e, q⟩ v H1 F1 fp x r _ _ => ⟨b, r.tru x.s (rel.e.h.trans x.h) e, q H1 F1 x⟩) (fun _ q => q) z⟩
/-! ### isinstance(x, T), T built in -/
def M.ty : M → String
  | .d .non => "NoneType"
  | .d (.bl _) => "bool"
  | .d (.int _) => "int"
  | .d (.str _) => "str"
  | .d (.tup _) => "tuple"
  | .d (.lst _) => "list"
  | .d (.scr _) => "scr"
  | .d (.exc _ _ _) => "scr"
  | .d (.dct _ _) => "scr"
  | .d (.obj _ _ _) => "scr"
  | .d (.fn _) => "scr"
  | .fl _ _ => "list"
  | .ml _ _ => "list"
  | .fd _ _ => "dict"
  | .md _ _ _ => "dict"
  | .mt _ => "tuple"
  | .ob _ _ _ _ _ => "scr"
  | .pk _ _ => "scr"
def isB (t T : String) : Bool := t == T || (t == "bool" && T == "int")
theorem RepM.tyX (s : Same F H) (z : Same H0 H) {m : M} {v : V} {fp : List Addr} (hm : m.ty ≠ "scr") (r : RepM K F H0 H m v fp) : TyX K H v (.type m.ty) := by
  cases m with
  | d y =>
    cases y with
    | non => rw [r.ofD.2.ofNon]; exact .base .non
    | bl b => rw [r.ofD.2.ofBl]; exact .base (.bl b)
    | int i => rw [r.ofD.2.ofInt]; exact .base (.int i)
    | str x => rw [r.ofD.2.ofStr]; exact .base (.str x)
    | tup l =>
      obtain ⟨a, vs, e, p, _⟩ := (by have := r.ofD.2; unfold RepD at this; exact this)
      rw [e]
      rcases p with ⟨o, h1, _⟩ | ⟨o, its, n, h1, h2, _⟩
      · exact .fTuple (s _ _ h1)
      · exact .kTuple h1 h2
    | lst l =>
      obtain ⟨a, vs, e, p, _⟩ := (by have := r.ofD.2; unfold RepD at this; exact this)
      rw [e]; exact .base (.lst (s _ _ p))
    | scr l => exact absurd rfl hm
    | exc _ _ _ => exact absurd rfl hm
    | dct _ _ => exact absurd rfl hm
    | obj _ _ _ => exact absurd rfl hm
    | fn _ => exact absurd rfl hm
  | fl k l => unfold RepM at r; obtain ⟨a, vs, e, q, _⟩ := r; rw [e]; exact .base (.lst (q.now z))
  | ml k l => unfold RepM at r; obtain ⟨a, vs, f, e, q, _⟩ := r; rw [e]; exact .base (.lst (q.now z))
  | fd k l => unfold RepM at r; obtain ⟨a, vs, e, q, _⟩ := r; rw [e]; exact .base (.dK (q.now z))
  | ob _ _ _ _ _ => exact absurd rfl hm
  | pk _ _ => exact absurd rfl hm
  | md k ks l => unfold RepM at r; obtain ⟨a, vs, f, e, q, _⟩ := r; rw [e]; exact .base (.dK (q.now z))
  | mt l =>
    unfold RepM at r
    obtain ⟨a, vs, e, p, _⟩ := r
    rw [e]
    rcases p with ⟨o, h1, _⟩ | ⟨o, its, n, h1, h2, _⟩
    · exact .fTuple (s _ _ h1)
    · exact .kTuple h1 h2
def tys : List String := ["NoneType", "bool", "int", "str", "tuple", "list", "dict"]
theorem M.ty_in (m : M) : m.ty ≠ "scr" → m.ty ∈ tys := by
  cases m with
  | d y => cases y <;> simp [M.ty, tys]
  | fl _ _ => simp [M.ty, tys]
  | fd _ _ => simp [M.ty, tys]
  | ml _ _ => simp [M.ty, tys]
  | md _ _ _ => simp [M.ty, tys]
  | ob _ _ _ _ _ => simp [M.ty, tys]
  | pk _ _ => simp [M.ty, tys]
  | mt _ => simp [M.ty, tys]
def wIsi (T : String) (we : TW) : TW := fun ρ Q E => we ρ (fun m => m.ty ≠ "scr" ∧ Q (.d (.bl (isB m.ty T)))) E
theorem q_isi {T : String} {y : Str} {p2 : Pos} (ha : QE X e we) (hk : ∀ t ∈ tys, kitB t T = some (isB t T)) (hg : Gl X "isinstance") (hm : X.mg "isinstance" = none) (hg2 : Gl X y) (hm2 : X.mg y = none) (hv2 : bootBuiltins y = some (.type T)) (hn2 : y ≠ "__name__" := by decide) (hd2 : (y == ("__debug__" : Str)) = false := by decide)
    (he : starEach (e :: [.Name y p2]) X.env = (false, eval e X.env) :: starEach [.Name y p2] X.env := by rfl) (hpl : (backTo pos (starEach [.Name y p2] X.env)).any (·.1) = false := by rfl) (hs2 : starEach [.Name y p2] X.env = [(false, eval (.Name y p2) X.env)] := by rfl) :
    QE X (.Call (.Name "isinstance" p) [e, .Name y p2] [] pos) (wIsi T we) where
  mono := fun hq hx z => ha.mono (fun m q => ⟨q.1, hq _ q.2⟩) hx z
  run := fun W F0 H0 tk => peImp (pe_callB (call_isi (X := X)) hg hm PyProof.Rows.boot_isinstance (pa_cons (ha.run W F0 H0 tk) (pa_cons (pe_bltn hg2 hm2 hv2 (v := .ty T) rfl hn2 hd2) pa_nil hs2) he) (by decide) (by decide) he hpl) fun σ H Qh ⟨ρ, F, rel, z⟩ =>
    ⟨ρ, F, rel, ha.mono (fun m q v H1 F1 fp x r _ _ => ⟨v, .ty T, .type m.ty, .type T, _, rfl, .ty T, r.tyX x.s (rel.e.h.trans x.h) q.1, kit_ty (hk _ (m.ty_in q.1)), (q.2.ext x).here x.s (.d .bl)⟩) (fun _ q => q) z⟩
theorem is_int : ∀ t ∈ tys, kitB t "int" = some (isB t "int") := by decide +kernel
theorem is_bool : ∀ t ∈ tys, kitB t "bool" = some (isB t "bool") := by decide +kernel
theorem is_tuple : ∀ t ∈ tys, kitB t "tuple" = some (isB t "tuple") := by decide +kernel
theorem is_list : ∀ t ∈ tys, kitB t "list" = some (isB t "list") := by decide +kernel
theorem is_str : ∀ t ∈ tys, kitB t "str" = some (isB t "str") := by decide +kernel
/-! ### - n, abs, int, sums -/
def wNeg (we : TW) : TW := fun ρ Q E => we ρ (fun m => match m with
  | .d (.int i) => Q (.d (.int (-i)))
  | _ => False) E
theorem q_neg (h : QE X e we) : QE X (.UnaryOp .USub e pos) (wNeg we) where
  mono := fun hq hx z => h.mono (fun m q => by split at q <;> first | exact hq _ q | exact q) hx z
  run := fun W F0 H0 tk => peImp (pe_un un_neg (h.run W F0 H0 tk)) fun σ H Qh ⟨ρ, F, rel, z⟩ =>
    ⟨ρ, F, rel, h.mono (fun m q v H1 F1 fp x r _ _ => by
      split at q
      · exact ⟨_, r.ofD.2.ofInt, (KQ.ext q x).here x.s (.d .int)⟩
      · exact q.elim) (fun _ q => q) z⟩
def wAbs : WCl := fun xs Q => on1 (fun m => match m with
  | .d (.int i) => Q (.d (.int (if i < 0 then -i else i)))
  | _ => False) xs
theorem s_abs : CalS X (fun xs H Q => ∃ i, xs = [.int i] ∧ Q (.int (if i < 0 then -i else i)) H) wAbs where
  mono := fun h q => on1_mono (fun m q => by split at q <;> first | exact h _ q | exact q) q
  run := fun {H0 F H xs vs fp Q Qh} s z rs q h => by
    obtain ⟨m, e, qq⟩ := on1_of q
    clear q
    subst e
    obtain ⟨v, e, r⟩ := rs.one
    subst e
    split at qq
    · exact ⟨_, by rw [r.ofD.2.ofInt], (h _ qq).here s (.d .int)⟩
    · exact qq.elim
theorem q_abs (hg : Gl X "abs") (hm : X.mg "abs" = none) (ha : QE X a wa) (hs : starEach [a] X.env = [(false, eval a X.env)] := by rfl) : QE X (.Call (.Name "abs" p) [a] [] pos) (wCl wAbs (wCons wa wNil)) :=
  q_cb s_abs call_abs hg hm (by decide +kernel) (qa_cons ha qa_nil hs) (by decide) (by decide) hs rfl
def wInt : WCl := fun xs Q => on1 (fun m => match m with
  | .d (.int i) => Q (.d (.int i))
  | .d (.bl k) => Q (.d (.int (if k then 1 else 0)))
  | _ => False) xs
theorem s_int : CalS X (fun xs H Q => (∃ i, xs = [.int i] ∧ Q (.int i) H) ∨ ∃ k, xs = [.bl k] ∧ Q (.int (if k then 1 else 0)) H) wInt where
  mono := fun h q => on1_mono (fun m q => by split at q <;> first | exact h _ q | exact q) q
  run := fun {H0 F H xs vs fp Q Qh} s z rs q h => by
    obtain ⟨m, e, qq⟩ := on1_of q
    clear q
    subst e
    obtain ⟨v, e, r⟩ := rs.one
    subst e
    split at qq
    · exact .inl ⟨_, by rw [r.ofD.2.ofInt], (h _ qq).here s (.d .int)⟩
    · exact .inr ⟨_, by rw [r.ofD.2.ofBl], (h _ qq).here s (.d .int)⟩
    · exact qq.elim
theorem q_int1 (hg : Gl X "int") (hm : X.mg "int" = none) (ha : QE X a wa) (hs : starEach [a] X.env = [(false, eval a X.env)] := by rfl) : QE X (.Call (.Name "int" p) [a] [] pos) (wCl wInt (wCons wa wNil)) :=
  q_ct s_int call_int1 hg hm boot_int (qa_cons ha qa_nil hs) (by decide) (by decide) hs rfl
/-- the ints of a list -/
def D.ints : List D → Option (List Int)
  | [] => some []
  | .int i :: r => (D.ints r).map (i :: ·)
  | _ :: _ => none
theorem RepDs.ints : ∀ {l : List D} {vs : List V} {ns : List Int}, D.ints l = some ns → RepDs K F l vs → vs = ns.map V.int
  | [], vs, ns, e, r => by unfold D.ints at e; cases e; unfold RepDs at r; rw [r]; rfl
  | .int i :: l, vs, ns, e, r => by
    unfold D.ints at e
    cases q : D.ints l with
    | none => rw [q] at e; cases e
    | some ns' =>
      rw [q] at e; cases e
      unfold RepDs at r
      obtain ⟨v, w, e1, r1, r2⟩ := r
      rw [e1, r1.ofInt, RepDs.ints q r2]; rfl
  | .non :: l, vs, ns, e, r => by unfold D.ints at e; cases e
  | .bl _ :: l, vs, ns, e, r => by unfold D.ints at e; cases e
  | .str _ :: l, vs, ns, e, r => by unfold D.ints at e; cases e
  | .tup _ :: l, vs, ns, e, r => by unfold D.ints at e; cases e
  | .lst _ :: l, vs, ns, e, r => by unfold D.ints at e; cases e
  | .scr _ :: l, vs, ns, e, r => by unfold D.ints at e; cases e
  | .exc _ _ _ :: l, vs, ns, e, r => by unfold D.ints at e; cases e
  | .dct _ _ :: l, vs, ns, e, r => by unfold D.ints at e; cases e
  | .obj _ _ _ :: l, vs, ns, e, r => by unfold D.ints at e; cases e
  | .fn _ :: l, vs, ns, e, r => by unfold D.ints at e; cases e
theorem ints_map : ∀ ns : List Int, D.ints (ns.map D.int) = some ns
  | [] => rfl
  | n :: ns => by
    show (D.ints (ns.map D.int)).map (n :: ·) = _
    rw [ints_map ns]; rfl
def M.lstI : M → Option (List Int)
  | .d (.lst l) => D.ints l
  | .d (.scr l) => D.ints l
  | .fl _ l => D.ints l
  | _ => none
theorem RepM.lstI (s : Same F H) (z : Same H0 H) {m : M} {v : V} {fp : List Addr} {ns : List Int} (e : m.lstI = some ns) (r : RepM K F H0 H m v fp) : ∃ a, v = .ref a ∧ SqL K H a (ns.map V.int) := by
  unfold M.lstI at e
  split at e
  · obtain ⟨a, vs, e1, p, r2⟩ := (by have := r.ofD.2; unfold RepD at this; exact this)
    exact ⟨a, e1, by rw [← r2.ints e]; exact SqL.of (s _ _ p)⟩
  · obtain ⟨a, vs, e1, p, r2⟩ := (by have := r.ofD.2; unfold RepD at this; exact this)
    exact ⟨a, e1, by rw [← r2.ints e]; exact s.seq p⟩
  · unfold RepM at r
    obtain ⟨a, vs, e1, p, r2⟩ := r
    exact ⟨a, e1, by rw [← r2.ints e]; exact SqL.of (p.now z)⟩
  · cases e
def wSum : WCl := fun xs Q => on1 (fun m => ∃ ns, m.lstI = some ns ∧ Q (.d (.int ns.sum))) xs
theorem s_sum : CalS X (rSum X.K) wSum where
  mono := fun h q => on1_mono (fun m ⟨ns, e, q⟩ => ⟨ns, e, h _ q⟩) q
  run := fun {H0 F H xs vs fp Q Qh} s z rs q h => by
    obtain ⟨m, e, ns, hl, qq⟩ := on1_of q
    clear q
    subst e
    obtain ⟨v, e, r⟩ := rs.one
    subst e
    obtain ⟨a, e1, p⟩ := r.lstI s z hl
    exact ⟨a, ns, by rw [e1], p, (h _ qq).here s (.d .int)⟩
theorem q_sum (hc : X.calm = true) (hg : Gl X "sum") (hm : X.mg "sum" = none) (ha : QE X a wa) (hs : starEach [a] X.env = [(false, eval a X.env)] := by rfl) : QE X (.Call (.Name "sum" p) [a] [] pos) (wCl wSum (wCons wa wNil)) :=
  q_cb s_sum (cr_sum hc) hg hm (by decide +kernel) (qa_cons ha qa_nil hs) (by decide) (by decide) hs rfl
def srt (ns : List Int) : List Int := ns.mergeSort (fun x y => decide (x ≤ y))
def wSorted : WCl := fun xs Q => on1 (fun m => ∃ ns, m.lstI = some ns ∧ ns.length < 64 ∧ Q (.fl .o ((srt ns).map .int))) xs
theorem s_sorted : CalS X (rSorted X.K) wSorted where
  mono := fun h q => on1_mono (fun m ⟨ns, e, h1, q⟩ => ⟨ns, e, h1, h _ q⟩) q
  run := fun {H0 F H xs vs fp Q Qh} s z rs q h => by
    obtain ⟨m, e, ns, hl, h64, qq⟩ := on1_of q
    clear q
    subst e
    obtain ⟨v, e, r⟩ := rs.one
    subst e
    obtain ⟨a, e1, p⟩ := r.lstI s z hl
    refine ⟨a, ns, by rw [e1], p, h64, fun ns' p' pm pw hp => ?_⟩
    have : ns' = srt ns := PySem.W.os_sorted_mergeSort pm pw
    rw [this]
    exact (h _ qq).mine s z (reps_map (fun i => .int) _) p' hp
theorem q_sorted (hg : Gl X "sorted") (hm : X.mg "sorted" = none) (ha : QE X a wa) (hs : starEach [a] X.env = [(false, eval a X.env)] := by rfl) : QE X (.Call (.Name "sorted" p) [a] [] pos) (wCl wSorted (wCons wa wNil)) :=
  q_cb s_sorted cr_sorted hg hm (by decide +kernel) (qa_cons ha qa_nil hs) (by decide) (by decide) hs rfl
end
end RT
namespace RT
open PySem PySem.Spec PyProof.Rows L2
section
variable {X : Cx} {K : PySem.W.Frag} {F F' H H' H0 F0 : Hp} {ρ : Sg} {σ : L2.St}
variable {a b c e e2 o i f : Expr} {es : List Expr} {wa wb wc we we2 wo wi wf : TW} {pos pos' p apos cpos spos : Pos} {x : Str}
/-! ### dicts -/
def D.key : D → Option Key
  | .int n => some (.inl n)
  | .str z => some (.inr z)
  | _ => none
theorem RepD.key {y : D} {v : V} {k : Key} (e : y.key = some k) (r : RepD K F y v) : v = kV k := by
  cases y with
  | int n => cases e; exact r.ofInt
  | str z => cases e; exact r.ofStr
  | non => cases e
  | bl _ => cases e
  | tup _ => cases e
  | lst _ => cases e
  | scr _ => cases e
  | exc _ _ _ => cases e
  | dct _ _ => cases e
  | obj _ _ _ => cases e
  | fn _ => cases e
def look (l : List (Key × D)) (k : Key) : Option D := (l.find? fun p => decide (p.1 = k)).map (·.2)
theorem look_val : ∀ {l : List (Key × D)} {kvs : List (Key × V)} (k : Key), kvs.map (·.1) = l.map (·.1) → RepDs K F (l.map (·.2)) (kvs.map (·.2)) →
    (∀ y, look l k = some y → ∃ v, valV kvs k = some v ∧ RepD K F y v) ∧ (look l k = none → valV kvs k = none)
  | [], [], k, _, _ => ⟨fun y h => (by cases h), fun _ => rfl⟩
  | [], _ :: _, k, h, _ => by cases h
  | _ :: _, [], k, h, _ => by cases h
  | (k1, y1) :: l, (k2, v2) :: kvs, k, h, r => by
    have h1 : k2 = k1 := (List.cons.inj h).1
    have h2 := (List.cons.inj h).2
    subst h1
    have r' : RepDs K F (y1 :: l.map (·.2)) (v2 :: kvs.map (·.2)) := r
    unfold RepDs at r'
    obtain ⟨u, w, e, q, z⟩ := r'
    cases e
    obtain ⟨i1, i2⟩ := look_val (l := l) (kvs := kvs) k h2 z
    by_cases hk : k2 = k
    · have e1 : look ((k2, y1) :: l) k = some y1 := by unfold look; rw [List.find?_cons_of_pos (by simp [hk])]; rfl
      rw [e1, valV_pos hk]
      exact ⟨fun y hy => (by cases hy; exact ⟨v2, rfl, q⟩), fun z => (by cases z)⟩
    · have e1 : look ((k2, y1) :: l) k = look l k := by unfold look; rw [List.find?_cons_of_neg (by simp [hk])]
      rw [e1, valV_neg hk]
      exact ⟨i1, i2⟩
def M.dic : M → Option (List (Key × D))
  | .fd _ l => some l
  | _ => none
theorem RepM.dic (z : Same H0 H) {m : M} {v : V} {fp : List Addr} {l : List (Key × D)} (e : m.dic = some l) (r : RepM K F H0 H m v fp) : ∃ a kvs, v = .ref a ∧ H a = some (.dK kvs) ∧ kvs.map (·.1) = l.map (·.1) ∧ RepDs K F (l.map (·.2)) (kvs.map (·.2)) := by
  cases m with
  | fd k l' =>
    cases e
    unfold RepM at r
    obtain ⟨a, kvs, e, q, e2, r⟩ := r
    exact ⟨a, kvs, e, q.now z, e2, r⟩
  | d _ => cases e
  | fl _ _ => cases e
  | ml _ _ => cases e
  | md _ _ _ => cases e
  | ob _ _ _ _ _ => cases e
  | pk _ _ => cases e
  | mt _ => cases e
/-- the dict's entry that a key tells -/
def onDic (P : List (Key × D) → Key → Prop) : M → M → Prop := fun x y => match x.dic, y with
  | some l, .d kd => ∃ k, kd.key = some k ∧ P l k
  | _, _ => False
theorem onDic_mono {P P' : List (Key × D) → Key → Prop} {x y : M} (h : ∀ l k, P l k → P' l k) (q : onDic P x y) : onDic P' x y := by
  unfold onDic at q ⊢
  split at q
  · obtain ⟨k, e, q⟩ := q; exact ⟨k, e, h _ _ q⟩
  · exact q
theorem onDic_of {P : List (Key × D) → Key → Prop} {x y : M} {u v : V} {fx fy : List Addr} (z : Same H0 H) (q : onDic P x y) (rx : RepM K F H0 H x u fx) (ry : RepM K F H0 H y v fy) :
    ∃ a kvs l k, u = .ref a ∧ v = kV k ∧ H a = some (.dK kvs) ∧ kvs.map (·.1) = l.map (·.1) ∧ RepDs K F (l.map (·.2)) (kvs.map (·.2)) ∧ x.dic = some l ∧ P l k := by
  unfold onDic at q
  split at q
  · rename_i e1
    obtain ⟨k, e, q⟩ := q
    obtain ⟨a, kvs, e2, h1, h2, r⟩ := rx.dic z e1
    exact ⟨a, kvs, _, k, e2, ry.ofD.2.key e, h1, h2, r, e1, q⟩
  · exact q.elim
def wDget (wo wi : TW) : TW := fun ρ Q E => wo ρ (fun x => wi ρ (fun y => onDic (fun l k => ∃ z, look l k = some z ∧ Q (.d z)) x y) E) E
theorem q_dget (hu : X.A.units + 1 < cLine) (ho : QE X o wo) (hi : QE X i wi) (hs : NoSl i := by intro _ _; rfl) : QE X (.Subscript o i pos) (wDget wo wi) where
  mono := fun hq he h => ho.mono (fun x z => hi.mono (fun y z => onDic_mono (fun l k ⟨w, e, q⟩ => ⟨w, e, hq _ q⟩) z) he z) he h
  run := fun W F0 H0 tk => peImp (pe_dget hu (ho.run W F0 H0 tk) (hi.run W F0 H0 tk) hs) fun σ H Qh ⟨ρ, F, rel, z⟩ => by
    refine two (R := fun x y => onDic (fun l k => ∃ z, look l k = some z ∧ KQ X.K H0 F H Qh (.d z)) x y) ho hi rel z fun x y u v fx fy F2 H2 x2 rx ry _ _ _ zz hxy => ?_
    obtain ⟨a, kvs, l, k, e1, e2, h1, h2, r, _, w, hw, q⟩ := onDic_of zz hxy rx ry
    obtain ⟨v2, h3, r3⟩ := (look_val k h2 r).1 w hw
    refine ⟨a, v2, e1, ?_, (q.ext x2).here (rel.ext x2).s (.d r3)⟩
    rw [e2, ← h3]; exact DGet.k h1
def wDin (neg : Bool) (wi wo : TW) : TW := fun ρ Q E => wi ρ (fun y => wo ρ (fun x => onDic (fun l k => Q (.d (.bl (if neg then !(look l k).isSome else (look l k).isSome)))) x y) E) E
theorem din_mono {neg : Bool} (hi : QE X i wi) (ho : QE X o wo) {ρ : Sg} {Q Q' : M → Prop} {E E' : XP} (hq : ∀ m, Q m → Q' m) (he : ∀ x, E x → E' x) (h : wDin neg wi wo ρ Q E) : wDin neg wi wo ρ Q' E' :=
  hi.mono (fun y z => ho.mono (fun x z => onDic_mono (fun l k q => hq _ q) z) he z) he h
theorem din_run {neg : Bool} {W : WX} (hi : QE X i wi) (ho : QE X o wo) {σ : L2.St} {H : Hp} {Qh : VK} (h : liftE X W F0 H0 (wDin neg wi wo) σ H Qh) :
    liftE X W F0 H0 wi σ H fun y H1 => liftE X W F0 H0 wo σ H1 fun x H2 => ∃ a ov, x = .ref a ∧ DGet H2 a y ov ∧ Qh (.bl (if neg then !ov.isSome else ov.isSome)) H2 := by
  obtain ⟨ρ, F, rel, z⟩ := h
  refine two (R := fun y x => onDic (fun l k => KQ X.K H0 F H Qh (.d (.bl (if neg then !(look l k).isSome else (look l k).isSome)))) x y) hi ho rel z fun y x v u fy fx F2 H2 x2 ry rx _ _ _ zz hxy => ?_
  obtain ⟨a, kvs, l, k, e1, e2, h1, h2, r, _, q⟩ := onDic_of zz hxy rx ry
  refine ⟨a, valV kvs k, e1, by rw [e2]; exact DGet.k h1, ?_⟩
  have es : (valV kvs k).isSome = (look l k).isSome := by
    cases hl : look l k with
    | none => rw [(look_val k h2 r).2 hl]; rfl
    | some w => obtain ⟨v2, h3, _⟩ := (look_val k h2 r).1 w hl; rw [h3]; rfl
  rw [es]
  exact (q.ext x2).here (rel.ext x2).s (.d .bl)
theorem q_din (hu : X.A.units + 1 < cLine) (hi : QE X i wi) (ho : QE X o wo) (hm : behindInMarks .In o = false := by rfl) : QE X (.Compare i [.In] [o] pos) (wDin false wi wo) where
  mono := din_mono hi ho
  run := fun W F0 H0 tk => peImp (pe_cmp (pc_din hu (hi.run W F0 H0 tk) (ho.run W F0 H0 tk)) hm) fun σ H Qh h => din_run hi ho h
theorem q_dnin (hu : X.A.units + 1 < cLine) (hi : QE X i wi) (ho : QE X o wo) (hm : behindInMarks .NotIn o = false := by rfl) : QE X (.Compare i [.NotIn] [o] pos) (wDin true wi wo) where
  mono := din_mono hi ho
  run := fun W F0 H0 tk => peImp (pe_cmp (pc_dnotin hu (hi.run W F0 H0 tk) (ho.run W F0 H0 tk)) hm) fun σ H Qh h => din_run hi ho h
theorem tb_lift {w : TW} {e : Expr} (h : QE X e w) {W : WX} {σ : L2.St} {H : Hp} {Qh : Bool → Hp → Prop} (q : liftT X W F0 H0 (wTB w) σ H Qh) : liftE X W F0 H0 w σ H fun x H1 => ∃ c, x = .bl c ∧ Qh c H1 := tB_of h q
theorem t_din (hu : X.A.units + 1 < cLine) (hi : QE X i wi) (ho : QE X o wo) (hm : behindInMarks .In o = false := by rfl) : QT X (.Compare i [.In] [o] pos) (wTB (wDin false wi wo)) where
  mono := wTB_mono (q_din (pos := pos) hu hi ho hm)
  run := fun W F0 H0 tk => ptImp (pt_cmp (pc_din hu (hi.run W F0 H0 tk) (ho.run W F0 H0 tk)) hm) fun σ H Qh h => din_run hi ho (Qh := fun x H1 => ∃ c, x = V.bl c ∧ Qh c H1) (tb_lift (q_din (pos := pos) hu hi ho hm) h)
theorem t_dnin (hu : X.A.units + 1 < cLine) (hi : QE X i wi) (ho : QE X o wo) (hm : behindInMarks .NotIn o = false := by rfl) : QT X (.Compare i [.NotIn] [o] pos) (wTB (wDin true wi wo)) where
  mono := wTB_mono (q_dnin (pos := pos) hu hi ho hm)
  run := fun W F0 H0 tk => ptImp (pt_cmp (pc_dnotin hu (hi.run W F0 H0 tk) (ho.run W F0 H0 tk)) hm) fun σ H Qh h => din_run hi ho (Qh := fun x H1 => ∃ c, x = V.bl c ∧ Qh c H1) (tb_lift (q_dnin (pos := pos) hu hi ho hm) h)
/-- d.get(k, y) -/
def wDget2 (wo wi wf : TW) : TW := fun ρ Q E => wo ρ (fun x => match x.dic with
  | some l => wi ρ (fun y => wf ρ (fun z => match y, z with
    | .d kd, .d zd => ∃ k, kd.key = some k ∧ Q (.d ((look l k).getD zd))
    | _, _ => False) E) E
  | none => False) E
theorem q_dget2 (hu : X.A.units + 1 < cLine) (ho : QE X o wo) (hi : QE X i wi) (hf : QE X f wf) (m : M2 X o "get" apos i f cpos := by exact ⟨rfl, rfl, rfl, rfl⟩) : QE X (.Call (.Attribute o "get" apos) [i, f] [] cpos) (wDget2 wo wi wf) where
  mono := fun hq he h => ho.mono (fun x z => by
    split at z
    · exact hi.mono (fun y z => hf.mono (fun w z => by
        split at z
        · obtain ⟨k, e, q⟩ := z; exact ⟨k, e, hq _ q⟩
        · exact z) he z) he z
    · exact z) he h
  run := fun W F0 H0 tk => peImp (pe_dget2 hu (ho.run W F0 H0 tk) (hi.run W F0 H0 tk) (hf.run W F0 H0 tk) m) fun σ H Qh ⟨ρ, F, rel, z⟩ => by
    refine ⟨ρ, F, rel, ho.mono (fun x hx v1 H1 F1 fx x1 rx _ _ => ?_) (fun _ q => q) z⟩
    split at hx
    · rename_i l el
      obtain ⟨a, kvs, e1, h1, h2, r⟩ := rx.dic (rel.ext x1).e.h el
      refine ⟨a, e1, .inl ⟨kvs, .inl h1⟩, ?_⟩
      refine ⟨ρ, F1, rel.ext x1, hi.mono (fun y hy v2 H2 F2 fy x2 ry _ _ => ?_) (fun _ q => q.ext x1) hx⟩
      refine ⟨ρ, F2, (rel.ext x1).ext x2, hf.mono (fun w hw v3 H3 F3 fw x3 rw' _ _ => ?_) (fun _ q => (q.ext x1).ext x2) hy⟩
      split at hw
      · rename_i kd zd
        obtain ⟨k, ek, q⟩ := hw
        have hk := ry.ofD.2.key ek
        have hH : H3 a = some (.dK kvs) := x3.h _ _ (x2.h _ _ h1)
        have r3 := (r.mono x2.f).mono x3.f
        refine ⟨valV kvs k, by rw [hk]; exact DGet.k hH, ?_⟩
        have q3 := (((q.ext x1).ext x2).ext x3)
        cases hl : look l k with
        | none =>
          rw [hl] at q3
          rw [(look_val k h2 r3).2 hl]
          exact q3.here (((rel.ext x1).ext x2).ext x3).s (.d (rw'.ofD.2))
        | some w' =>
          rw [hl] at q3
          obtain ⟨v4, h4, r4⟩ := (look_val k h2 r3).1 w' hl
          rw [h4]
          exact q3.here (((rel.ext x1).ext x2).ext x3).s (.d r4)
      · exact hw.elim
    · exact hx.elim
/-- d[k] = y -/
def putD (l : List (Key × D)) (k : Key) (y : D) : List (Key × D) :=
  if (l.any fun p => decide (p.1 = k)) = true then l.map (fun p => if p.1 = k then (p.1, y) else p) else l ++ [(k, y)]
theorem any_keys : ∀ {l : List (Key × D)} {kvs : List (Key × V)} (k : Key), kvs.map (·.1) = l.map (·.1) → (kvs.any fun p => decide (p.1 = k)) = (l.any fun p => decide (p.1 = k))
  | [], [], _, _ => rfl
  | [], _ :: _, _, h => by cases h
  | _ :: _, [], _, h => by cases h
  | (k1, y1) :: l, (k2, v2) :: kvs, k, h => by
    have h1 : k2 = k1 := (List.cons.inj h).1
    rw [List.any_cons, List.any_cons, any_keys k (List.cons.inj h).2, h1]
theorem map_put {y : D} {u : V} (ry : RepD K F y u) (k : Key) : ∀ {l : List (Key × D)} {kvs : List (Key × V)}, kvs.map (·.1) = l.map (·.1) → RepDs K F (l.map (·.2)) (kvs.map (·.2)) →
    (kvs.map (fun p => if p.1 = k then (p.1, u) else p)).map (·.1) = (l.map (fun p => if p.1 = k then (p.1, y) else p)).map (·.1) ∧ RepDs K F ((l.map (fun p => if p.1 = k then (p.1, y) else p)).map (·.2)) ((kvs.map (fun p => if p.1 = k then (p.1, u) else p)).map (·.2))
  | [], [], _, _ => ⟨rfl, .nil⟩
  | [], _ :: _, h, _ => by cases h
  | _ :: _, [], h, _ => by cases h
  | (k1, y1) :: l, (k2, v2) :: kvs, h, r => by
    have h1 : k2 = k1 := (List.cons.inj h).1
    subst h1
    have r' : RepDs K F (y1 :: l.map (·.2)) (v2 :: kvs.map (·.2)) := r
    unfold RepDs at r'
    obtain ⟨u', w, e, q, z⟩ := r'
    cases e
    obtain ⟨i1, i2⟩ := map_put ry k (List.cons.inj h).2 z
    by_cases hk : k2 = k
    · simp only [List.map_cons, hk, if_true]
      exact ⟨by rw [i1], .cons ry i2⟩
    · simp only [List.map_cons, hk, if_false]
      exact ⟨by rw [i1], .cons q i2⟩
theorem put_rep {l : List (Key × D)} {kvs : List (Key × V)} {k : Key} {y : D} {u : V} (h : kvs.map (·.1) = l.map (·.1)) (r : RepDs K F (l.map (·.2)) (kvs.map (·.2))) (ry : RepD K F y u) :
    (putK kvs k u).map (·.1) = (putD l k y).map (·.1) ∧ RepDs K F ((putD l k y).map (·.2)) ((putK kvs k u).map (·.2)) := by
  unfold putK putD
  rw [any_keys k h]
  by_cases ha : (l.any fun p => decide (p.1 = k)) = true
  · rw [if_pos ha, if_pos ha]; exact map_put ry k h r
  · rw [if_neg ha, if_neg ha]
    simp only [List.map_append, List.map_cons, List.map_nil]
    exact ⟨by rw [h], r.append (.cons ry .nil)⟩
def onFd (ρ : Sg) (i : Nat) (P : List (Key × D) → Prop) : Prop := match ρ[i]? with
  | some (some (.fd .o l)) => P l
  | _ => False
theorem onFd_mono {i : Nat} {P P' : List (Key × D) → Prop} (h : ∀ l, P l → P' l) (q : onFd ρ i P) : onFd ρ i P' := by
  unfold onFd at q ⊢; split at q <;> first | exact h _ q | exact q
theorem onFd_of {i : Nat} {P : List (Key × D) → Prop} (q : onFd ρ i P) : ∃ l, ρ[i]? = some (some (.fd .o l)) ∧ P l := by
  unfold onFd at q; split at q <;> first | exact ⟨_, by assumption, q⟩ | exact q.elim
theorem Rel.updFd {i : Nat} {l : List (Key × D)} {ts : List M} {tv : List V} (r : Rel K F0 H0 ρ σ ts tv F H) (ht : M.stos ts = true) (h : ρ[i]? = some (some (.fd .o l))) : ∃ a kvs, σ[i]? = some (some (.ref a)) ∧ H a = some (.dK kvs) ∧ kvs.map (·.1) = l.map (·.1) ∧ RepDs K F (l.map (·.2)) (kvs.map (·.2)) ∧
    ∀ l' kvs', kvs'.map (·.1) = l'.map (·.1) → RepDs K F (l'.map (·.2)) (kvs'.map (·.2)) → Rel K F0 H0 (ρ.set i (some (.fd .o l'))) σ ts tv F (L2.upd H a (.dK kvs')) := by
  obtain ⟨v, fp, e1, _, q, n, fin⟩ := r.upd ht h
  unfold RepM at q
  obtain ⟨a, vs, e, ⟨e2, h1, h2, h3⟩, e3, r2⟩ := q
  subst e
  refine ⟨a, vs, e1, h1, e3, r2, fun l' vs' r0 r' => fin (.fd .o l') fp _ ?_ (by unfold M.sto; rfl) n (fun b o hb hn => ?_) (fun b hb => .inl hb)⟩
  · unfold RepM
    exact ⟨a, vs', rfl, ⟨e2, L2.upd_same, h2, h3⟩, r0, r'⟩
  · rw [L2.upd_ne (fun z => hn (by rw [z, e2]; exact List.mem_cons_self))]; exact hb
theorem fd_later {n : Nat} {F H F2 H2 : Hp} {l : List (Key × D)} {a : Addr} (rel : Rel X.K F0 H0 ρ σ [] [] F H) (x : Ext F H F2 H2) (e : ρ[n]? = some (some (.fd .o l))) (h : σ[n]? = some (some (.ref a))) :
    ∃ kvs, H2 a = some (.dK kvs) ∧ kvs.map (·.1) = l.map (·.1) ∧ RepDs X.K F2 (l.map (·.2)) (kvs.map (·.2)) ∧ ∀ l' kvs', kvs'.map (·.1) = l'.map (·.1) → RepDs X.K F2 (l'.map (·.2)) (kvs'.map (·.2)) → Rel X.K F0 H0 (ρ.set n (some (.fd .o l'))) σ [] [] F2 (L2.upd H2 a (.dK kvs')) := by
  obtain ⟨a', vs', g1, g2, g3, g4, g5⟩ := (rel.ext x).updFd rfl e
  rw [h] at g1; cases g1
  exact ⟨vs', g2, g3, g4, g5⟩
/-- x[k] = e, x a dict of one's own -/
def wDput (n : Nat) (wi we : TW) : TSW := fun D ρ => onFd ρ n fun l => we ρ (fun m => ∃ y, m.frz = some y ∧ wi ρ (fun kd => match kd with
  | .d kd => ∃ k, kd.key = some k ∧ l.length < 16777216 ∧ D.nx (ρ.set n (some (.fd .o (putD l k y))))
  | _ => False) (D.ex ρ)) (D.ex ρ)
theorem s_dput (n : Nat) (hu : X.A.units + 1 < cLine) (hi : QE X i wi) (he : QE X e we) (hN : X.N[n]? = some x := by rfl) (hv : Vis X.env.scope x := by first | exact Or.inl rfl | exact Or.inr (Or.inl rfl) | exact Or.inr (Or.inr rfl)) (hd : (x == ("__debug__" : Str)) = false := by decide) (hcd : (x == ("__classdict__" : Str)) = false := by decide)
    (hs : swapsWith e (some (.Subscript (.Name x p) i pos')) pos.line X.env = pure false := by rfl) : QS X (.Assign [.Subscript (.Name x p) i pos'] e pos) [] (wDput n wi we) where
  mono := fun l h => onFd_mono (fun _ h => he.mono (fun m ⟨y, ey, z⟩ => ⟨y, ey, hi.mono (fun kd q => by
    split at q
    · obtain ⟨k, ek, z1, z2⟩ := q; exact ⟨k, ek, z1, l.nx _ z2⟩
    · exact q) (l.ex _) z⟩) (l.ex _) h) h
  run := fun W F0 H0 tk => psImp (ps_dput hu (pe_var hN hv hd hcd) (hi.run W F0 H0 tk) (he.run W F0 H0 tk) hs) fun D σ H ⟨ρ, F, rel, z⟩ => by
    obtain ⟨l, e0, z⟩ := onFd_of z
    obtain ⟨a, kvs0, g1, _⟩ := rel.updFd rfl e0
    refine ⟨ρ, F, rel, he.mono (fun m hm v1 H1 F1 fp x1 r hf hn => ?_) (fun _ q => exq rel q) z⟩
    obtain ⟨y, ey, q⟩ := hm
    have x2 := ext_frz x1 r hf
    have ry := r.frz (frzH_frz fun b hb => (r.own b hb).1) ey
    generalize frzH F1 H1 fp = F2 at x2 ry
    refine ⟨.ref a, g1, ρ, F2, rel.ext x2, hi.mono (fun kd hk v2 H3 F3 fk x3 rk _ _ => ?_) (fun _ q => exq (as := []) (D := D) (rel.ext x2) q) q⟩
    split at hk
    · rename_i kd
      obtain ⟨k, ek, h1, q⟩ := hk
      obtain ⟨kvs, h2, h3, h4, h5⟩ := fd_later rel (x2.trans x3) e0 g1
      have hl : kvs.length = l.length := by have := congrArg List.length h3; simpa using this
      obtain ⟨p1, p2⟩ := put_rep (k := k) h3 h4 (ry.mono x3.f)
      refine ⟨a, _, rfl, ?_, q σ F3 _ (x2.trans x3).f (h5 _ _ p1 p2) .refl⟩
      rw [rk.ofD.2.key ek]
      exact DPut.k h2 (by rw [hl]; exact lt_line h1)
    · exact hk.elim
/-- x[i] = e, x a list of one's own -/
def wSetI (n : Nat) (wi we : TW) : TSW := fun D ρ => onFl ρ n fun l => we ρ (fun m => ∃ y, m.frz = some y ∧ wi ρ (fun kd => match kd with
  | .d (.int k) => ∃ j, ixN l.length k = some j ∧ D.nx (ρ.set n (some (.fl .o (l.set j y))))
  | _ => False) (D.ex ρ)) (D.ex ρ)
theorem s_seti (n : Nat) (hi : QE X i wi) (he : QE X e we) (ha : ∀ v, assign (.Subscript (.Name x p) i pos') X.env v = (do
      let ov ← holding [v] (eval (.Name x p) X.env)
      let iv ← holding [v, ov] (eval i X.env)
      standAt pos'
      holding [v, ov, iv] (setItem ov iv v)
      release [v, ov, iv] []) := by intro _; rfl) (hN : X.N[n]? = some x := by rfl) (hv : Vis X.env.scope x := by first | exact Or.inl rfl | exact Or.inr (Or.inl rfl) | exact Or.inr (Or.inr rfl)) (hd : (x == ("__debug__" : Str)) = false := by decide) (hcd : (x == ("__classdict__" : Str)) = false := by decide)
    (hs : swapsWithSole [.Subscript (.Name x p) i pos'] e pos.line X.env = pure false := by rfl) (hw : swappedStores [.Subscript (.Name x p) i pos'] e X.env = pure none := by rfl) : QS X (.Assign [.Subscript (.Name x p) i pos'] e pos) [] (wSetI n wi we) where
  mono := fun l h => onFl_mono (fun _ h => he.mono (fun m ⟨y, ey, z⟩ => ⟨y, ey, hi.mono (fun kd q => by
    split at q
    · obtain ⟨j, ej, z2⟩ := q; exact ⟨j, ej, l.nx _ z2⟩
    · exact q) (l.ex _) z⟩) (l.ex _) h) h
  run := fun W F0 H0 tk => psImp (ps_asg (he.run W F0 H0 tk) (pg_sub (pe_var hN hv hd hcd) (hi.run W F0 H0 tk) set_list ha) hs hw) fun D σ H ⟨ρ, F, rel, z⟩ => by
    obtain ⟨a, vs0, l, e0, g1, _, _, z, _⟩ := mut_fl rel z
    refine ⟨ρ, F, rel, he.mono (fun m hm v1 H1 F1 fp x1 r hf hn => ?_) (fun _ q => exq rel q) z⟩
    obtain ⟨y, ey, q⟩ := hm
    have x2 := ext_frz x1 r hf
    have ry := r.frz (frzH_frz fun b hb => (r.own b hb).1) ey
    generalize frzH F1 H1 fp = F2 at x2 ry
    refine ⟨.ref a, g1, ρ, F2, rel.ext x2, hi.mono (fun kd hk v2 H3 F3 fk x3 rk _ _ => ?_) (fun _ q => exq (as := []) (D := D) (rel.ext x2) q) q⟩
    split at hk
    · rename_i k
      obtain ⟨j, ej, q⟩ := hk
      obtain ⟨vs, h2, h4, h5⟩ := fl_later rel (x2.trans x3) e0 g1
      exact ⟨a, vs, k, j, rfl, rk.ofD.2.ofInt, h2, by rw [← h4.length]; exact ej, q σ F3 _ (x2.trans x3).f (h5 _ _ (RepDs.set (ry.mono x3.f) j h4)) .refl⟩
    · exact hk.elim
/-- x.remove(e): ints -/
def wRem (n : Nat) (we : TW) : TSW := fun D ρ => onFl ρ n fun l => we ρ (fun m => match m with
  | .d (.int k) => ∃ ns, RT.D.ints l = some ns ∧ k ∈ ns ∧ D.nx (ρ.set n (some (.fl .o ((ns.erase k).map .int))))
  | _ => False) (D.ex ρ)
theorem erase_ix {ns : List Int} {k : Int} (h : k ∈ ns) : ∃ j : Nat, ns[j]? = some k ∧ (∀ m : Nat, m < j → ns[m]? ≠ some k) ∧ ns.erase k = ns.eraseIdx j := by
  induction ns with
  | nil => cases h
  | cons a r ih =>
    by_cases ha : a = k
    · subst ha
      exact ⟨0, rfl, fun m hm => absurd hm (by omega), by rw [List.erase_cons_head]; rfl⟩
    · have h2 : k ∈ r := by
        rcases List.mem_cons.mp h with e | e
        · exact absurd e.symm ha
        · exact e
      obtain ⟨j, h3, h4, h5⟩ := ih h2
      refine ⟨j + 1, by simpa using h3, fun m hm => ?_, ?_⟩
      · cases m with
        | zero => intro z; simp at z; exact ha z
        | succ m => simpa using h4 m (by omega)
      · rw [List.erase_cons_tail (by simpa using ha), h5]; rfl
theorem s_rem (n : Nat) (he : QE X e we) (hN : X.N[n]? = some x := by rfl) (hv : Vis X.env.scope x := by first | exact Or.inl rfl | exact Or.inr (Or.inl rfl) | exact Or.inr (Or.inr rfl)) (hd : (x == ("__debug__" : Str)) = false := by decide) (hcd : (x == ("__classdict__" : Str)) = false := by decide)
    (hfew : ((backTo cpos (starEach [e] X.env)).all (fun x => !x.1) && (backToKw cpos (keywordEach [] X.env)).all (fun x => x.1.isSome) && decide (([e] : List Expr).length + ([] : List Keyword).length + (if ([] : List Keyword).isEmpty then 0 else 1) < 30)) = true := by rfl)
    (hline : (apos.endLine == cpos.line) = true := by rfl) (hs : starEach [e] X.env = [(false, eval e X.env)] := by rfl) (hbase : attributeBase (.Name x p) "remove" X.env (eval (.Name x p) X.env) = eval (.Name x p) X.env := by rfl) (hsw : swapsWith (.Call (.Attribute (.Name x p) "remove" apos) [e] [] cpos) none spos.line X.env = pure false := by rfl) :
    QS X (.Expr (.Call (.Attribute (.Name x p) "remove" apos) [e] [] cpos) spos) [] (wRem n we) where
  mono := fun l h => onFl_mono (fun _ z => he.mono (fun m q => by
    split at q
    · obtain ⟨ns, e1, e2, q⟩ := q; exact ⟨ns, e1, e2, l.nx _ q⟩
    · exact q) (l.ex _) z) h
  run := fun W F0 H0 tk => psImp (ps_expr (pe_bm PySem.F.plainAttrs_list PySem.F.slot_list_remove PySem.F.type_list_remove mt_remove (pe_var hN hv hd hcd) (pa_cons (he.run W F0 H0 tk) pa_nil hs) hbase hfew hline hs rfl) hsw) fun D σ H ⟨ρ, F, rel, z⟩ => by
    obtain ⟨a, vs, l, e0, h1, h2, h3, q, _⟩ := mut_fl rel z
    refine ⟨.ref a, h1, .inl ⟨rfl, vs, SqL.of h2⟩, ρ, F, rel, he.mono (fun m hm v H1 F1 fp x1 r hf hn => ?_) (fun _ z => exq rel z) q⟩
    split at hm
    · rename_i k
      obtain ⟨ns, e1, hk, q⟩ := hm
      obtain ⟨vs', g2, g3, g4⟩ := fl_later rel x1 e0 h1
      obtain ⟨j, j1, j2, j3⟩ := erase_ix hk
      have e2 := g3.ints e1
      subst e2
      refine ⟨a, ns, k, j, rfl, by rw [r.ofD.2.ofInt], g2, j1, j2, q σ F1 _ x1.f (g4 _ _ ?_) .refl⟩
      rw [j3]
      exact reps_map (fun i => .int) _
    · exact hm.elim
/-- x.insert(e, e2) -/
def wIns (n : Nat) (we we2 : TW) : TSW := fun D ρ => onFl ρ n fun l => we ρ (fun m => we2 ρ (fun m2 => match m, m2 with
  | .d (.int k), .d y => l.length < 16777216 ∧ 0 ≤ k ∧ k < 2 ^ 63 ∧ D.nx (ρ.set n (some (.fl .o (l.take k.toNat ++ [y] ++ l.drop k.toNat))))
  | _, _ => False) (D.ex ρ)) (D.ex ρ)
theorem s_ins (n : Nat) (he : QE X e we) (he2 : QE X e2 we2) (hN : X.N[n]? = some x := by rfl) (hv : Vis X.env.scope x := by first | exact Or.inl rfl | exact Or.inr (Or.inl rfl) | exact Or.inr (Or.inr rfl)) (hd : (x == ("__debug__" : Str)) = false := by decide) (hcd : (x == ("__classdict__" : Str)) = false := by decide)
    (hfew : ((backTo cpos (starEach [e, e2] X.env)).all (fun x => !x.1) && (backToKw cpos (keywordEach [] X.env)).all (fun x => x.1.isSome) && decide (([e, e2] : List Expr).length + ([] : List Keyword).length + (if ([] : List Keyword).isEmpty then 0 else 1) < 30)) = true := by rfl)
    (hline : (apos.endLine == cpos.line) = true := by rfl) (hs : starEach [e, e2] X.env = (false, eval e X.env) :: starEach [e2] X.env := by rfl) (hs2 : starEach [e2] X.env = [(false, eval e2 X.env)] := by rfl) (hpl : (backTo cpos (starEach [e2] X.env)).any (·.1) = false := by rfl)
    (hbase : attributeBase (.Name x p) "insert" X.env (eval (.Name x p) X.env) = eval (.Name x p) X.env := by rfl) (hsw : swapsWith (.Call (.Attribute (.Name x p) "insert" apos) [e, e2] [] cpos) none spos.line X.env = pure false := by rfl) :
    QS X (.Expr (.Call (.Attribute (.Name x p) "insert" apos) [e, e2] [] cpos) spos) [] (wIns n we we2) where
  mono := fun l h => onFl_mono (fun _ z => he.mono (fun m z => he2.mono (fun m2 q => by
    split at q
    · exact ⟨q.1, q.2.1, q.2.2.1, l.nx _ q.2.2.2⟩
    · exact q) (l.ex _) z) (l.ex _) z) h
  run := fun W F0 H0 tk => psImp (ps_expr (pe_bm PySem.F.plainAttrs_list PySem.F.slot_list_insert PySem.F.type_list_insert mt_insert (pe_var hN hv hd hcd) (pa_cons (he.run W F0 H0 tk) (pa_cons (he2.run W F0 H0 tk) pa_nil hs2) hs) hbase hfew hline hs hpl) hsw) fun D σ H ⟨ρ, F, rel, z⟩ => by
    obtain ⟨a, vs, l, e0, h1, h2, h3, q, _⟩ := mut_fl rel z
    refine ⟨.ref a, h1, .inl ⟨rfl, vs, SqL.of h2⟩, ρ, F, rel, he.mono (fun m hm v H1 F1 fp x1 r _ _ => ?_) (fun _ z => exq rel z) q⟩
    refine ⟨ρ, F1, rel.ext x1, he2.mono (fun m2 hm2 v2 H2 F2 fp2 x2 r2 _ _ => ?_) (fun _ z => exq (as := []) (D := D) (rel.ext x1) z) hm⟩
    split at hm2
    · rename_i k y
      obtain ⟨q1, q2, q3, q⟩ := hm2
      obtain ⟨vs', g2, g3, g4⟩ := fl_later rel (x1.trans x2) e0 h1
      exact ⟨a, vs', k, v2, rfl, by rw [r.ofD.2.ofInt], g2, lt_line (by rw [← g3.length]; exact q1), q2, q3, q σ F2 _ (x1.trans x2).f (g4 _ _ (((g3.take _).append (.cons r2.ofD.2 .nil)).append (g3.drop _))) .refl⟩
    · exact hm2.elim
/-- x.reverse(), x.clear(), x.pop() as statements -/
def wRev (n : Nat) : TSW := fun D ρ => onFl ρ n fun l => D.nx (ρ.set n (some (.fl .o l.reverse)))
theorem s_rev (n : Nat) (hN : X.N[n]? = some x := by rfl) (hv : Vis X.env.scope x := by first | exact Or.inl rfl | exact Or.inr (Or.inl rfl) | exact Or.inr (Or.inr rfl)) (hd : (x == ("__debug__" : Str)) = false := by decide) (hcd : (x == ("__classdict__" : Str)) = false := by decide)
    (hline : (apos.endLine == cpos.line) = true := by rfl) (hbase : attributeBase (.Name x p) "reverse" X.env (eval (.Name x p) X.env) = eval (.Name x p) X.env := by rfl) (hsw : swapsWith (.Call (.Attribute (.Name x p) "reverse" apos) [] [] cpos) none spos.line X.env = pure false := by rfl) : QS X (.Expr (.Call (.Attribute (.Name x p) "reverse" apos) [] [] cpos) spos) [] (wRev n) where
  mono := fun l h => onFl_mono (fun _ z => l.nx _ z) h
  run := fun W F0 H0 tk => psImp (ps_expr (pe_bm0 PySem.F.plainAttrs_list PySem.F.slot_list_reverse PySem.F.type_list_reverse mt_reverse (pe_var hN hv hd hcd) hbase hline) hsw) fun D σ H ⟨ρ, F, rel, z⟩ => by
    obtain ⟨a, vs, l, e0, h1, h2, h3, q, g⟩ := mut_fl rel z
    exact ⟨.ref a, h1, .inl ⟨rfl, vs, SqL.of h2⟩, a, vs, rfl, rfl, h2, q σ F _ (.refl _) (g _ _ h3.reverse) .refl⟩
def wClr (n : Nat) : TSW := fun D ρ => onFl ρ n fun l => D.nx (ρ.set n (some (.fl .o [])))
theorem s_clr (n : Nat) (hN : X.N[n]? = some x := by rfl) (hv : Vis X.env.scope x := by first | exact Or.inl rfl | exact Or.inr (Or.inl rfl) | exact Or.inr (Or.inr rfl)) (hd : (x == ("__debug__" : Str)) = false := by decide) (hcd : (x == ("__classdict__" : Str)) = false := by decide)
    (hline : (apos.endLine == cpos.line) = true := by rfl) (hbase : attributeBase (.Name x p) "clear" X.env (eval (.Name x p) X.env) = eval (.Name x p) X.env := by rfl) (hsw : swapsWith (.Call (.Attribute (.Name x p) "clear" apos) [] [] cpos) none spos.line X.env = pure false := by rfl) : QS X (.Expr (.Call (.Attribute (.Name x p) "clear" apos) [] [] cpos) spos) [] (wClr n) where
  mono := fun l h => onFl_mono (fun _ z => l.nx _ z) h
  run := fun W F0 H0 tk => psImp (ps_expr (pe_bm0 PySem.F.plainAttrs_list PySem.F.slot_list_clear PySem.F.type_list_clear mt_clear (pe_var hN hv hd hcd) hbase hline) hsw) fun D σ H ⟨ρ, F, rel, z⟩ => by
    obtain ⟨a, vs, l, e0, h1, h2, h3, q, g⟩ := mut_fl rel z
    exact ⟨.ref a, h1, .inl ⟨rfl, vs, SqL.of h2⟩, a, vs, rfl, rfl, h2, q σ F _ (.refl _) (g _ _ .nil) .refl⟩
def wPop (n : Nat) : TSW := fun D ρ => onFl ρ n fun l => l ≠ [] ∧ D.nx (ρ.set n (some (.fl .o l.dropLast)))
theorem s_pop (n : Nat) (hN : X.N[n]? = some x := by rfl) (hv : Vis X.env.scope x := by first | exact Or.inl rfl | exact Or.inr (Or.inl rfl) | exact Or.inr (Or.inr rfl)) (hd : (x == ("__debug__" : Str)) = false := by decide) (hcd : (x == ("__classdict__" : Str)) = false := by decide)
    (hline : (apos.endLine == cpos.line) = true := by rfl) (hbase : attributeBase (.Name x p) "pop" X.env (eval (.Name x p) X.env) = eval (.Name x p) X.env := by rfl) (hsw : swapsWith (.Call (.Attribute (.Name x p) "pop" apos) [] [] cpos) none spos.line X.env = pure false := by rfl) : QS X (.Expr (.Call (.Attribute (.Name x p) "pop" apos) [] [] cpos) spos) [] (wPop n) where
  mono := fun l h => onFl_mono (fun _ z => ⟨z.1, l.nx _ z.2⟩) h
  run := fun W F0 H0 tk => psImp (ps_expr (pe_bm0 PySem.F.plainAttrs_list PySem.F.slot_list_pop PySem.F.type_list_pop mt_pop (pe_var hN hv hd hcd) hbase hline) hsw) fun D σ H ⟨ρ, F, rel, z⟩ => by
    obtain ⟨a, vs, l, e0, h1, h2, h3, q, g⟩ := mut_fl rel z
    have hl := h3.length
    have hne : vs.length - 1 < vs.length := by
      have : l.length ≠ 0 := fun z => q.1 (List.length_eq_zero_iff.mp z)
      omega
    exact ⟨.ref a, h1, .inl ⟨rfl, vs, SqL.of h2⟩, a, vs, vs[vs.length - 1], rfl, rfl, h2, List.getElem?_eq_getElem hne, q.2 σ F _ (.refl _) (g _ _ h3.dropLast) .refl⟩
end
end RT
namespace RT
open PySem PySem.Spec PyProof.Rows L2
/-! ### from the head's facts to the contracts of the defs -/
/-- a def's own reading: n arguments, N slots, the body's tree reading -/
def tOf (n N : Nat) (wb : TSW) : TSp := fun ms Q E => ms.length = n ∧ M.stos ms = true ∧ wb { nx := fun _ => Q (.d .non), rt := Q, ex := fun _ => E } (entry N ms)
structure Top (fa : List He.Fa) (fn : List He.DefD) (h : Heap) (K : PySem.W.Frag) (mg : Str → Option Value) : Prop where
  X : K.In h
  G : h.Ns mainGlobals mg
  c : He.SaysD fa fn K
section
variable {fa : List He.Fa} {fn : List He.DefD} {h : Heap} {P : Program} {w : World} {K : PySem.W.Frag} {mg : Str → Option Value} {base : Heap}
theorem Top.glo (Z : Top fa fn h K mg) {x : Str} (i : Nat) (e : fa[i]? = some (.glo x) := by rfl) : mg x = some (.ref (He.ga K x)) := He.glo_ok Z.X Z.G (Z.c.fact i e)
theorem Top.free (Z : Top fa fn h K mg) {x : Str} (i : Nat) (e : fa[i]? = some (.free x) := by rfl) : mg x = none := He.free_ok Z.X Z.G (Z.c.fact i e)
/-- a body's derivation, for every frame -/
abbrev Body (P : Program) (w : World) (K : PySem.W.Frag) (mg : Str → Option Value) (base : Heap) (k : Nat) (N : List Str) (d : He.DefD) (wb : TSW) : Prop :=
  ∀ (f : Addr) (cdv : Value) (A : Around) (outer : List Env) (s : Shared) (H : Hp) (E : XK), Room k (A.deeper (envOfC d.qual d.scope s.heap.objs.size f cdv)) →
      ∃ as, QSs (cxOf (L2.CX P w) P w K mg base N d.qual d.scope f cdv A outer s H E) d.body as wb
theorem Body.mono {k : Nat} {N : List Str} {d : He.DefD} {wb : TSW} (B : Body P w K mg base k N d wb) (hr : Room (k + 1) callerA) {D D' : EndW} {ρ : Sg} (l : D.Le D') (q : wb D ρ) : wb D' ρ :=
  let ⟨_, b⟩ := B 0 .none callerA [] {} (fun _ => none) (fun _ _ _ => False) (hr.deeper _); b.mono l q
theorem fnD_ok {N ps : List Str} {k : Nat} {wb : TSW} {d : He.DefD} {dvs : List V} {kws : List (Str × V)} {f : Addr} {fd : FuncData} (F : FunD K d.name d.qual d.params d.body d.scope dvs kws f fd) (S : FnScope N ps d.scope) (B : Body P w K mg base k N d wb) :
    FnOk P w K mg base (L2.CX P w) (k + 1) f fd ps (spOf mg K (tOf ps.length N.length wb)) := by
  refine F.ok S (fun vs H Q E hs => ?_) (fun cdv A outer s H vs Q E hr hs => ?_)
  · obtain ⟨F, ms, sF, r, t⟩ := hs
    rw [← r.length]; exact t.1
  · obtain ⟨F, ms, sF, r, t⟩ := hs
    obtain ⟨as, B⟩ := B f cdv A outer s H E hr
    refine ⟨_, B.run (fun cls d _ H' => E cls d H') F H (takes_of rfl rfl rfl rfl), entry N.length ms, F, rel_entry sF r t.2.1, B.mono ?_ t.2.2⟩
    refine ⟨fun ρ q => ?_, fun m q => ?_, fun _ z => z.elim, fun _ z => z.elim, fun ρ x q => ?_⟩
    · intro σ' F' H' s1 rel f1
      exact q (by unfold M.ret; rfl) .non H' F' [] rel.e (.d .non) List.nodup_nil
    · intro hr v F' H' fp s1 x1 rm hn
      exact q hr v H' F' fp x1 rm hn
    · intro cls d σ' F' H' rel rx
      exact q cls d H' F' rel.e rx
theorem tOf_mono {k n m : Nat} {N : List Str} {d : He.DefD} {wb : TSW} (B : Body P w K mg base k N d wb) (hr : Room (k + 1) callerA) {ms : List M} {Q Q' : M → Prop} {E E' : XP} (hq : ∀ m, Q m → Q' m) (he : ∀ x, E x → E' x) (t : tOf n m wb ms Q E) : tOf n m wb ms Q' E' :=
  ⟨t.1, t.2.1, B.mono hr (D := { nx := fun _ => Q (.d .non), rt := Q, ex := fun _ => E }) (D' := { nx := fun _ => Q' (.d .non), rt := Q', ex := fun _ => E' }) ⟨fun _ => hq _, hq, fun _ z => z, fun _ z => z, fun _ => he⟩ t.2.2⟩
/-- a def without defaults -/
theorem fx_of {x : Str} {N ps : List Str} {k : Nat} {wb : TSW} {d : He.DefD} (Z : Top fa fn h K mg) (i j : Nat) (S : FnScope N ps d.scope) (B : Body P w K mg base k N d wb) (hk : Room (k + 1) callerA)
    (hd : fn[i]? = some d := by rfl) (hg : fa[j]? = some (.glo x) := by rfl) (hat : d.at_ = (x, none) := by rfl) (h0 : d.dfl = [] := by rfl) (hkw : d.kwd = [] := by rfl)
    (hb : ∀ (kV doc pm : Value) (an : Option Addr) (cdv ct : Value) (us : List Value), us.length = ps.length → bindArgs (PySem.W.fnOf d.name d.qual d.params d.body d.scope .none kV doc pm an cdv ct) ⟨us, []⟩ = pure (ps.zip us)) :
    Fx P w K mg base x (k + 1) [] (tOf ps.length N.length wb) where
  mono := fun hq he t => tOf_mono B hk hq he t
  ok := by
    obtain ⟨fd, F⟩ := Z.c.def_ i hd
    have e1 : d.dvs K = [] := by unfold He.DefD.dvs; rw [h0]; rfl
    have e2 : d.kws K = [] := by unfold He.DefD.kws; rw [hkw]; rfl
    rw [e1, e2] at F
    have hgl := Z.glo j hg
    have ea : He.fAd K d.at_ = He.ga K x := by rw [hat]; rfl
    rw [ea] at F
    exact ⟨_, fd, ps, [], [], fnD_ok F S B, hgl, F.kp, F.bindsN hb, .nil, fun F => .nil⟩
/-- a def whose default is None: m arguments and None -/
theorem fx_ofN {x : Str} {N ps : List Str} {k n : Nat} {wb : TSW} {d : He.DefD} (Z : Top fa fn h K mg) (i j : Nat) (S : FnScope N ps d.scope) (B : Body P w K mg base k N d wb) (hk : Room (k + 1) callerA) (hn : n + 1 = ps.length)
    (hb : ∀ (T : Addr) (kV doc pm : Value) (an : Option Addr) (cdv ct : Value) (us its : List Value), us.length = n → its.length = 1 →
      ∃ k, bindArgs (PySem.W.fnOf d.name d.qual d.params d.body d.scope (.ref T) kV doc pm an cdv ct) ⟨us, []⟩ = seqItems? (.ref T) >>= k ∧ k (some its.toArray) = pure (ps.zip (us ++ its)))
    (hd : fn[i]? = some d := by rfl) (hg : fa[j]? = some (.glo x) := by rfl) (hat : d.at_ = (x, none) := by rfl) (h0 : d.dfl = [.non] := by rfl) (hkw : d.kwd = [] := by rfl) :
    Fx P w K mg base x (k + 1) [.non] (tOf ps.length N.length wb) where
  mono := fun hq he t => tOf_mono B hk hq he t
  ok := by
    obtain ⟨fd, F⟩ := Z.c.def_ i hd
    have e1 : d.dvs K = [.non] := by unfold He.DefD.dvs; rw [h0]; rfl
    have e2 : d.kws K = [] := by unfold He.DefD.kws; rw [hkw]; rfl
    rw [e1, e2] at F
    have hgl := Z.glo j hg
    have ea : He.fAd K d.at_ = He.ga K x := by rw [hat]; rfl
    rw [ea] at F
    obtain ⟨ds, hv, hB⟩ := F.binds1 n 0 (by simp) (by simpa using hn) hb
    exact ⟨_, fd, ps, [.non], ds, fnD_ok F S B, hgl, F.kp, hB, hv, fun F => .cons .non .nil⟩
/-- .. all arguments given -/
theorem fx_ofA {x : Str} {N ps : List Str} {k : Nat} {wb : TSW} {d : He.DefD} (Z : Top fa fn h K mg) (i j : Nat) (S : FnScope N ps d.scope) (B : Body P w K mg base k N d wb) (hk : Room (k + 1) callerA)
    (hb : ∀ (T : Addr) (kV doc pm : Value) (an : Option Addr) (cdv ct : Value) (us its : List Value), us.length = ps.length → its.length = 1 →
      ∃ k, bindArgs (PySem.W.fnOf d.name d.qual d.params d.body d.scope (.ref T) kV doc pm an cdv ct) ⟨us, []⟩ = seqItems? (.ref T) >>= k ∧ k (some its.toArray) = pure (ps.zip (us ++ its.drop 1)))
    (hd : fn[i]? = some d := by rfl) (hg : fa[j]? = some (.glo x) := by rfl) (hat : d.at_ = (x, none) := by rfl) (h0 : d.dfl = [.non] := by rfl) (hkw : d.kwd = [] := by rfl) :
    Fx P w K mg base x (k + 1) [] (tOf ps.length N.length wb) where
  mono := fun hq he t => tOf_mono B hk hq he t
  ok := by
    obtain ⟨fd, F⟩ := Z.c.def_ i hd
    have e1 : d.dvs K = [.non] := by unfold He.DefD.dvs; rw [h0]; rfl
    have e2 : d.kws K = [] := by unfold He.DefD.kws; rw [hkw]; rfl
    rw [e1, e2] at F
    have hgl := Z.glo j hg
    have ea : He.fAd K d.at_ = He.ga K x := by rw [hat]; rfl
    rw [ea] at F
    obtain ⟨ds, hv, hB⟩ := F.binds1 ps.length 1 (by simp) (by simp) hb
    have : ds = [] := by
      have := hv.length
      simpa using this.symm
    subst this
    exact ⟨_, fd, ps, [], [], fnD_ok F S B, hgl, F.kp, hB, .nil, fun F => .nil⟩
/-- the law's own def: it lets no exception out -/
abbrev Body0 (P : Program) (w : World) (K : PySem.W.Frag) (mg : Str → Option Value) (base : Heap) (k : Nat) (N : List Str) (d : He.DefD) (wb : TSW) : Prop :=
  ∀ (f : Addr) (cdv : Value) (A : Around) (outer : List Env) (s : Shared) (H : Hp) (E : XK), Room k (A.deeper (envOfC d.qual d.scope s.heap.objs.size f cdv)) →
      ∃ as, QSs (cxOf CX0 P w K mg base N d.qual d.scope f cdv A outer s H E) d.body as wb
theorem law_fn {N : List Str} {x : Str} {k : Nat} {wb : TSW} {d : He.DefD} (Z : Top fa fn h K mg) (i j : Nat) (S : FnScope N [x] d.scope) (B : ∀ base : Heap, Body0 P w K mg base k N d wb)
    {f : Addr} (hf : mg d.name = some (.ref f)) (hm : ∀ ns : List Int, ns.length ≤ 63 → tOf 1 N.length wb [.d (.scr (ns.map .int))] (fun m => m = .d (.bl true)) (fun _ => False))
    (hd : fn[i]? = some d := by rfl) (hg : fa[j]? = some (.glo d.name) := by rfl) (hat : d.at_ = (d.name, none) := by rfl) (h0 : d.dfl = [] := by rfl) (hkw : d.kwd = [] := by rfl)
    (hb : ∀ (kV doc pm : Value) (an : Option Addr) (cdv ct : Value) (us : List Value), us.length = 1 → bindArgs (PySem.W.fnOf d.name d.qual d.params d.body d.scope .none kV doc pm an cdv ct) ⟨us, []⟩ = pure ([x].zip us)) :
    ∃ K' fd sp, K'.In h ∧ (∀ (s : Shared) (u : Value), BindsTo s fd { pos := [u] } [(x, u)]) ∧
      (∀ (H : Hp) (a : Addr) (ns : List Int), ns.length ≤ 63 → Only H → SqL K' H a (ns.map V.int) → sp [V.ref a] H (fun v _ => v = V.bl true) fun _ _ _ => False) ∧
      ∀ (base : Heap), K'.In base → base.Ns mainGlobals mg → FnOk P w K' mg base CX0 (k + 1) f fd [x] sp := by
  obtain ⟨fd, F⟩ := Z.c.def_ i hd
  have e1 : d.dvs K = [] := by unfold He.DefD.dvs; rw [h0]; rfl
  have e2 : d.kws K = [] := by unfold He.DefD.kws; rw [hkw]; rfl
  rw [e1, e2] at F
  have hgl := Z.glo j hg
  have ea : He.fAd K d.at_ = He.ga K d.name := by rw [hat]; rfl
  rw [ea] at F
  have e := hf.symm.trans hgl
  cases e
  refine ⟨K, fd, fun vs H Q _ => Q = (fun v _ => v = .bl true) ∧ ∃ (a : Addr) (ns : List Int), ns.length ≤ 63 ∧ vs = [.ref a] ∧ SqL K H a (ns.map V.int), Z.X, fun s u => F.bindsA (ps := [x]) hb s [u] rfl, fun H a ns hl hO hS => ⟨rfl, a, ns, hl, rfl, hS⟩, fun base h1 h2 => ?_⟩
  refine F.ok S (fun vs H Q E ⟨_, a, ns, _, e, _⟩ => by rw [e]; rfl) (fun cdv A outer s H vs Q E hr hs => ?_)
  obtain ⟨eQ, a, ns, hl, ev, hS⟩ := hs
  subst ev
  obtain ⟨as, B⟩ := B base (He.ga K d.name) cdv A outer s H E hr
  have r : RepMs K H H H [.d (.scr (ns.map .int))] [.ref a] [] := by
    unfold RepMs
    refine ⟨_, _, [], [], rfl, rfl, .d ?_, ?_⟩
    · unfold RepD
      exact ⟨a, ns.map V.int, rfl, hS, reps_map (fun i => .int) ns⟩
    · unfold RepMs; exact ⟨rfl, rfl⟩
  have t := hm ns hl
  refine ⟨_, B.run (fun _ _ _ _ => False) H H takes0, entry N.length _, H, rel_entry (.refl _) r t.2.1, B.mono ?_ t.2.2⟩
  refine ⟨fun ρ q => ?_, fun m q => ?_, fun _ z => z.elim, fun _ z => z.elim, fun ρ x q => q.elim⟩
  · cases q
  · intro hr v F' H' fp s1 x1 rm hn
    subst q
    rw [eQ]
    exact rm.ofD.2.ofBl
end
end RT
namespace RT
open PySem PySem.Spec PyProof.Rows L2
section
variable {X : Cx} {K : PySem.W.Frag} {F F' H H' H0 F0 : Hp} {ρ : Sg} {σ : L2.St}
variable {a b c e e2 o i f : Expr} {es : List Expr} {wa wb wc we we2 wo wi wf : TW} {pos pos' p apos cpos spos : Pos} {x : Str}
/-- the bools of a list -/
def D.bls : List D → Option (List Bool)
  | [] => some []
  | .bl i :: r => (D.bls r).map (i :: ·)
  | _ :: _ => none
theorem RepDs.bls : ∀ {l : List D} {vs : List V} {ns : List Bool}, D.bls l = some ns → RepDs K F l vs → vs = ns.map V.bl
  | [], vs, ns, e, r => by unfold D.bls at e; cases e; unfold RepDs at r; rw [r]; rfl
  | .bl i :: l, vs, ns, e, r => by
    unfold D.bls at e
    cases q : D.bls l with
    | none => rw [q] at e; cases e
    | some ns' =>
      rw [q] at e; cases e
      unfold RepDs at r
      obtain ⟨v, w, e1, r1, r2⟩ := r
      rw [e1, r1.ofBl, RepDs.bls q r2]; rfl
  | .non :: l, vs, ns, e, r => by unfold D.bls at e; cases e
  | .int _ :: l, vs, ns, e, r => by unfold D.bls at e; cases e
  | .str _ :: l, vs, ns, e, r => by unfold D.bls at e; cases e
  | .tup _ :: l, vs, ns, e, r => by unfold D.bls at e; cases e
  | .lst _ :: l, vs, ns, e, r => by unfold D.bls at e; cases e
  | .scr _ :: l, vs, ns, e, r => by unfold D.bls at e; cases e
  | .exc _ _ _ :: l, vs, ns, e, r => by unfold D.bls at e; cases e
  | .dct _ _ :: l, vs, ns, e, r => by unfold D.bls at e; cases e
  | .obj _ _ _ :: l, vs, ns, e, r => by unfold D.bls at e; cases e
  | .fn _ :: l, vs, ns, e, r => by unfold D.bls at e; cases e
theorem bls_map : ∀ ns : List Bool, D.bls (ns.map D.bl) = some ns
  | [] => rfl
  | n :: ns => by
    show (D.bls (ns.map D.bl)).map (n :: ·) = _
    rw [bls_map ns]; rfl
def M.lstB : M → Option (List Bool)
  | .d (.lst l) => D.bls l
  | .fl _ l => D.bls l
  | _ => none
theorem RepM.lstB (s : Same F H) (z : Same H0 H) {m : M} {v : V} {fp : List Addr} {ns : List Bool} (e : m.lstB = some ns) (r : RepM K F H0 H m v fp) : ∃ a, v = .ref a ∧ SqL K H a (ns.map V.bl) := by
  unfold M.lstB at e
  split at e
  · obtain ⟨a, vs, e1, p, r2⟩ := (by have := r.ofD.2; unfold RepD at this; exact this)
    exact ⟨a, e1, by rw [← r2.bls e]; exact SqL.of (s _ _ p)⟩
  · unfold RepM at r
    obtain ⟨a, vs, e1, p, r2⟩ := r
    exact ⟨a, e1, by rw [← r2.bls e]; exact SqL.of (p.now z)⟩
  · cases e
def wAll : WCl := fun xs Q => on1 (fun m => ∃ ns, m.lstB = some ns ∧ Q (.d (.bl (ns.all id)))) xs
def wAny : WCl := fun xs Q => on1 (fun m => ∃ ns, m.lstB = some ns ∧ Q (.d (.bl (ns.any id)))) xs
theorem s_all : CalS X (rAll X.K) wAll where
  mono := fun h q => on1_mono (fun m ⟨ns, e, q⟩ => ⟨ns, e, h _ q⟩) q
  run := fun {H0 F H xs vs fp Q Qh} s z rs q h => by
    obtain ⟨m, e, ns, hl, qq⟩ := on1_of q
    clear q
    subst e
    obtain ⟨v, e, r⟩ := rs.one
    subst e
    obtain ⟨a, e1, p⟩ := r.lstB s z hl
    exact ⟨a, ns, by rw [e1], p, (h _ qq).here s (.d .bl)⟩
theorem s_any : CalS X (rAny X.K) wAny where
  mono := fun h q => on1_mono (fun m ⟨ns, e, q⟩ => ⟨ns, e, h _ q⟩) q
  run := fun {H0 F H xs vs fp Q Qh} s z rs q h => by
    obtain ⟨m, e, ns, hl, qq⟩ := on1_of q
    clear q
    subst e
    obtain ⟨v, e, r⟩ := rs.one
    subst e
    obtain ⟨a, e1, p⟩ := r.lstB s z hl
    exact ⟨a, ns, by rw [e1], p, (h _ qq).here s (.d .bl)⟩
theorem q_all (hc : X.calm = true) (hg : Gl X "all") (hm : X.mg "all" = none) (ha : QE X a wa) (hs : starEach [a] X.env = [(false, eval a X.env)] := by rfl) : QE X (.Call (.Name "all" p) [a] [] pos) (wCl wAll (wCons wa wNil)) :=
  q_cb s_all (cr_all hc) hg hm (by decide +kernel) (qa_cons ha qa_nil hs) (by decide) (by decide) hs rfl
theorem q_any (hc : X.calm = true) (hg : Gl X "any") (hm : X.mg "any" = none) (ha : QE X a wa) (hs : starEach [a] X.env = [(false, eval a X.env)] := by rfl) : QE X (.Call (.Name "any" p) [a] [] pos) (wCl wAny (wCons wa wNil)) :=
  q_cb s_any (cr_any hc) hg hm (by decide +kernel) (qa_cons ha qa_nil hs) (by decide) (by decide) hs rfl
/-- x += e, ints -/
def wAug (n : Nat) (g : Int → Int → Int) (we : TW) : TSW := fun D ρ => match ρ[n]? with
  | some (some (.d (.int k))) => we ρ (fun m => match m with
    | .d (.int j) => D.nx (ρ.set n (some (.d (.int (g k j)))))
    | _ => False) (D.ex ρ)
  | _ => False
theorem s_aug {op : Operator} {g : Int → Int → Int} (n : Nat) (hN : X.N.Nodup) (ho : PIp X op (ipI g)) (he : QE X e we) (hi : X.N[n]? = some x := by rfl) (hx : Loc X.env.scope x := by first | exact Or.inl rfl | exact Or.inr rfl)
    (hf : X.fn x = true ∨ X.env.scope.names.lookup x = some .local := by first | exact .inl rfl | exact .inr rfl | assumption) : QS X (.AugAssign (.Name x pos') op e pos) [n] (wAug n g we) where
  mono := fun l h => by
    unfold wAug at h ⊢
    split at h
    · exact he.mono (fun m q => by
        split at q
        · exact l.nx _ q
        · exact q) (l.ex _) h
    · exact h
  run := fun W F0 H0 tk => psImp (ps_aug hN hi hx (he.run W F0 H0 tk) ho hf) fun D σ H ⟨ρ, F, rel, h⟩ => by
    unfold wAug at h
    split at h
    · rename_i k ek
      obtain ⟨v, fp, e1, _, q, _⟩ := rel.get ek
      refine ⟨v, e1, ρ, F, rel, he.mono (fun m hm v1 H1 F1 fp x1 r hf hn => ?_) (fun _ z => exq rel z) h⟩
      split at hm
      · rename_i j
        refine ⟨k, j, q.ofD.2.ofInt, r.ofD.2.ofInt, hm _ F1 H1 x1.f ?_ .set⟩
        exact ((rel.ext x1).push (m := .d (.int (g k j))) (v := .int (g k j)) (fp := []) (.refl (rel.ext x1).s) (.d .int) (fun _ h => nomatch h) List.nodup_nil).set rfl n
      · exact hm.elim
    · exact h.elim
theorem s_augA (n : Nat) (hN : X.N.Nodup) (he : QE X e we) (hi : X.N[n]? = some x := by rfl) (hx : Loc X.env.scope x := by first | exact Or.inl rfl | exact Or.inr rfl)
    (hf : X.fn x = true ∨ X.env.scope.names.lookup x = some .local := by first | exact .inl rfl | exact .inr rfl | assumption) : QS X (.AugAssign (.Name x pos') .Add e pos) [n] (wAug n (fun i j => i + j) we) := s_aug n hN ip_add he hi hx hf
theorem s_augS (n : Nat) (hN : X.N.Nodup) (he : QE X e we) (hi : X.N[n]? = some x := by rfl) (hx : Loc X.env.scope x := by first | exact Or.inl rfl | exact Or.inr rfl)
    (hf : X.fn x = true ∨ X.env.scope.names.lookup x = some .local := by first | exact .inl rfl | exact .inr rfl | assumption) : QS X (.AugAssign (.Name x pos') .Sub e pos) [n] (wAug n (fun i j => i - j) we) := s_aug n hN ip_sub he hi hx hf
def wPart0 : TOW := fun _ Q _ => Q none
abbrev sNx : TSW := fun D ρ => D.nx ρ
abbrev sCt : TSW := fun D ρ => D.ct ρ
abbrev sBk : TSW := fun D ρ => D.bk ρ
abbrev sRn : TSW := fun D ρ => D.rt (.d .non)
abbrev sNever : TSW := fun _ _ => False
/-- one statement, then the others (named, so that readings can be matched) -/
def sSeq (w u : TSW) : TSW := fun D ρ => w { D with nx := u D } ρ
theorem ss_c {st : Stmt} {sts : List Stmt} {as bs : List Nat} {w u : TSW} (h1 : QS X st as w) (h2 : QSs X sts bs u) : QSs X (st :: sts) (as ++ bs) (sSeq w u) :=
  (ss_cons h1 h2 : QSs X (st :: sts) (as ++ bs) (fun D ρ => w { D with nx := u D } ρ))
end
end RT
namespace RT
open PySem PySem.Spec PyProof.Rows L2
/-! ### plain laws of the trees: naturals, lists of them, comprehensions -/
abbrev nD (n : Nat) : D := .int (n : Int)
def nL (l : List Nat) : List D := l.map nD
@[simp] theorem nL_length (l : List Nat) : (nL l).length = l.length := by unfold nL; rw [List.length_map]
theorem nL_nil : nL [] = [] := rfl
theorem nL_cons (x : Nat) (l : List Nat) : nL (x :: l) = nD x :: nL l := rfl
theorem nL_append (l l' : List Nat) : nL (l ++ l') = nL l ++ nL l' := by unfold nL; rw [List.map_append]
theorem nL_get (l : List Nat) (i : Nat) : (nL l)[i]? = l[i]?.map nD := by unfold nL; rw [List.getElem?_map]
theorem nL_flat (l : List Nat) : (nL l).all D.flat = true := by
  unfold nL; rw [List.all_eq_true]; intro x hx; obtain ⟨y, _, e⟩ := List.mem_map.mp hx; rw [← e]; rfl
theorem nL_ints (l : List Nat) : D.ints (nL l) = some (l.map fun n : Nat => (n : Int)) := by
  unfold nL nD; rw [show (List.map (fun n : Nat => D.int (n : Int)) l) = (l.map fun n : Nat => (n : Int)).map D.int by rw [List.map_map]; rfl]; exact ints_map _
theorem nL_mem (k : Nat) : ∀ l : List Nat, D.mem (nD k) (nL l) = decide (k ∈ l)
  | [] => rfl
  | x :: l => by
    have ih := nL_mem k l
    unfold D.mem inV at ih ⊢
    rw [nL_cons, List.map_cons, List.any_cons, ih]
    have e : eqV (D.toV (nD x)) (D.toV (nD k)) = decide (k = x) := by
      show eqV (.int (x : Int)) (.int (k : Int)) = _
      unfold eqV
      by_cases h : k = x
      · subst h; simp
      · have : (x : Int) ≠ k := by omega
        simp [this, h]
    rw [e]
    by_cases h1 : k = x <;> by_cases h2 : k ∈ l <;> simp [h1, h2]
theorem nL_set (l : List Nat) (i k : Nat) : (nL l).set i (nD k) = nL (l.set i k) := by unfold nL; rw [List.map_set]
theorem atI_nL {l : List Nat} {i x : Nat} (h : l[i]? = some x) : atI (nL l) (i : Int) = some (nD x) := atI_nat (by rw [nL_get, h]; rfl)
theorem atI_map {α β : Type} {f : α → β} {l : List α} {i : Nat} {x : α} (h : l[i]? = some x) : atI (l.map f) (i : Int) = some (f x) := atI_nat (by rw [List.getElem?_map, h]; rfl)
theorem iota_nL (n : Nat) : iota (n : Int) = nL (List.range n) := rfl
theorem rg_nL (n : Nat) : rg 0 n = nL (List.range n) := by unfold rg nL; congr 1; funext i; show D.int (0 + (i : Int)) = D.int i; rw [Int.zero_add]
/-- == of numbers -/
theorem eqb_int (i j : Int) : D.eqb (.int i) (.int j) = decide (i = j) := by
  unfold D.eqb D.py PyData.eqv
  by_cases h : i = j <;> simp [h]
theorem ok_int (i : Int) : D.ok (.int i) := rfl
theorem ok_non : D.ok .non := rfl
/-- comprehensions: what each item gives, what is kept -/
theorem cmp_map {α : Type} {i : Nat} {te : TW} {ρ : Sg} {inj f : α → D} : ∀ {l : List α} {Q : List D → Prop}, (∀ x ∈ l, ∀ P : M → Prop, (∀ m, m.frz = some (f x) → P m) → te (ρ.set i (some (.d (inj x)))) P (fun _ => False)) → Q (l.map f) → wCmp (gNm i) tYesW te ρ (l.map inj) Q
  | [], Q, _, q => q
  | x :: l, Q, h, q => by
    rw [List.map_cons]
    unfold wCmp
    simp only [gNm, tYesW, if_true]
    refine h x List.mem_cons_self _ fun m hm => ⟨f x, hm, ?_⟩
    exact cmp_map (fun y hy => h y (List.mem_cons_of_mem _ hy)) q
theorem cmp_filter {α : Type} {i : Nat} {tt : TTW} {te : TW} {ρ : Sg} {inj f : α → D} {p : α → Bool} : ∀ {l : List α} {Q : List D → Prop},
    (∀ x ∈ l, ∀ P : Bool → Prop, P (p x) → tt (ρ.set i (some (.d (inj x)))) P (fun _ => False)) →
    (∀ x ∈ l, p x = true → ∀ P : M → Prop, (∀ m, m.frz = some (f x) → P m) → te (ρ.set i (some (.d (inj x)))) P (fun _ => False)) → Q ((l.filter p).map f) → wCmp (gNm i) tt te ρ (l.map inj) Q
  | [], Q, _, _, q => q
  | x :: l, Q, h1, h, q => by
    rw [List.map_cons]
    unfold wCmp
    refine h1 x List.mem_cons_self _ ?_
    by_cases hp : p x = true
    · rw [if_pos hp]
      refine h x List.mem_cons_self hp _ fun m hm => ⟨f x, hm, ?_⟩
      rw [List.filter_cons_of_pos hp, List.map_cons] at q
      exact cmp_filter (fun y hy => h1 y (List.mem_cons_of_mem _ hy)) (fun y hy => h y (List.mem_cons_of_mem _ hy)) q
    · rw [if_neg hp]
      rw [List.filter_cons_of_neg hp] at q
      exact cmp_filter (fun y hy => h1 y (List.mem_cons_of_mem _ hy)) (fun y hy => h y (List.mem_cons_of_mem _ hy)) q
/-- lists of ints compared -/
theorem eqvAll_nL : ∀ l l' : List Nat, PyData.eqvAll (D.pys (nL l)) (D.pys (nL l')) = decide (l = l')
  | [], [] => rfl
  | [], _ :: _ => rfl
  | _ :: _, [] => rfl
  | x :: l, y :: l' => by
    rw [nL_cons, nL_cons]
    unfold D.pys PyData.eqvAll
    rw [eqvAll_nL l l']
    have e : PyData.eqv (nD x).py (nD y).py = decide (x = y) := by
      have := eqb_int x y
      unfold D.eqb at this
      rw [this]
      by_cases h : x = y
      · subst h; simp
      · have : (x : Int) ≠ y := by omega
        simp [h, this]
    rw [e]
    by_cases h1 : x = y <;> by_cases h2 : l = l' <;> simp [h1, h2]
theorem eqb_lst (l l' : List Nat) : D.eqb (.lst (nL l)) (.lst (nL l')) = decide (l = l') := by
  unfold D.eqb D.py PyData.eqv; exact eqvAll_nL l l'
theorem eqb_tup (l l' : List Nat) : D.eqb (.tup (nL l)) (.tup (nL l')) = decide (l = l') := by
  unfold D.eqb D.py PyData.eqv; exact eqvAll_nL l l'
theorem lay_nL : ∀ l : List Nat, PyData.canLayAll0 (D.pys (nL l)) = true ∧ PyData.depthAll (D.pys (nL l)) ≤ 1
  | [] => ⟨rfl, by decide⟩
  | x :: l => by
    obtain ⟨h1, h2⟩ := lay_nL l
    rw [nL_cons]
    unfold D.pys PyData.canLayAll0 PyData.depthAll
    refine ⟨by rw [h1]; rfl, ?_⟩
    have : PyData.depth (nD x).py ≤ 1 := by unfold D.py PyData.depth; omega
    omega
theorem ok_lst (l : List Nat) : D.ok (.lst (nL l)) := by
  obtain ⟨h1, h2⟩ := lay_nL l
  unfold D.ok SeqAt.shaped D.py PyData.canLay0 PyData.depth
  rw [h1, Bool.true_and, decide_eq_true_iff]; omega
theorem ok_tup (l : List Nat) : D.ok (.tup (nL l)) := by
  obtain ⟨h1, h2⟩ := lay_nL l
  unfold D.ok SeqAt.shaped D.py PyData.canLay0 PyData.depth
  rw [h1, Bool.true_and, decide_eq_true_iff]; omega
theorem nL_erase (l : List Nat) (k : Nat) : ((l.map fun n : Nat => (n : Int)).erase (k : Int)).map D.int = nL (l.erase k) := by
  induction l with
  | nil => rfl
  | cons x r ih =>
    by_cases h : x = k
    · subst h; rw [List.map_cons, List.erase_cons_head, List.erase_cons_head]; unfold nL; rw [List.map_map]; rfl
    · have h2 : (x : Int) ≠ k := by omega
      rw [List.map_cons, List.erase_cons_tail (by simpa using h2), List.erase_cons_tail (by simpa using h), List.map_cons, ih]; rfl
/-- what x.remove(k) leaves of a list of naturals -/
theorem rem_nL {l : List Nat} {k : Nat} {P : List D → Prop} (hk : k ∈ l) (h : P (nL (l.erase k))) : ∃ ns, D.ints (nL l) = some ns ∧ (k : Int) ∈ ns ∧ P ((ns.erase (k : Int)).map .int) :=
  ⟨_, nL_ints l, List.mem_map.mpr ⟨k, hk, rfl⟩, by rw [nL_erase]; exact h⟩
/-- pairs by places -/
def enumF : Nat → List D → List D
  | _, [] => []
  | k, x :: xs => .tup [nD k, x] :: enumF (k + 1) xs
theorem enumF_eq : ∀ (l : List D) (k : Nat), enumF k l = (List.range' k l.length).zipWith (fun (i : Nat) x => .tup [.int i, x]) l
  | [], k => rfl
  | x :: l, k => by
    rw [List.length_cons, List.range'_succ, List.zipWith_cons_cons, ← enumF_eq l (k + 1)]; rfl
theorem enumD_F (l : List D) : enumD l = enumF 0 l := by rw [enumF_eq]; unfold enumD; rw [List.range_eq_range']
/-! numbers: naturals stay naturals -/
theorem fmodL (a k : Nat) : Int.fmod (a : Int) (no_index (OfNat.ofNat k : Int)) = ((a % k : Nat) : Int) := by
  show Int.fmod (a : Int) ((k : Nat) : Int) = _
  rw [Int.fmod_eq_emod_of_nonneg _ (Int.natCast_nonneg _)]; rfl
theorem fdivL (a k : Nat) : Int.fdiv (a : Int) (no_index (OfNat.ofNat k : Int)) = ((a / k : Nat) : Int) := by
  show Int.fdiv (a : Int) ((k : Nat) : Int) = _
  rw [Int.fdiv_eq_ediv_of_nonneg _ (Int.natCast_nonneg _)]; rfl
theorem fmodN (a k : Nat) : Int.fmod (a : Int) (k : Int) = ((a % k : Nat) : Int) := by
  rw [Int.fmod_eq_emod_of_nonneg _ (Int.natCast_nonneg _)]; rfl
theorem fdivN (a k : Nat) : Int.fdiv (a : Int) (k : Int) = ((a / k : Nat) : Int) := by
  rw [Int.fdiv_eq_ediv_of_nonneg _ (Int.natCast_nonneg _)]; rfl
theorem addN (a b : Nat) : (a : Int) + (b : Int) = ((a + b : Nat) : Int) := rfl
theorem addL (a k : Nat) : (a : Int) + (no_index (OfNat.ofNat k : Int)) = ((a + k : Nat) : Int) := rfl
theorem addR (a k : Nat) : (no_index (OfNat.ofNat k : Int)) + (a : Int) = ((k + a : Nat) : Int) := rfl
theorem mulN (a b : Nat) : (a : Int) * (b : Int) = ((a * b : Nat) : Int) := rfl
theorem mulL (a k : Nat) : (a : Int) * (no_index (OfNat.ofNat k : Int)) = ((a * k : Nat) : Int) := rfl
theorem mulR (a k : Nat) : (no_index (OfNat.ofNat k : Int)) * (a : Int) = ((k * a : Nat) : Int) := rfl
theorem subN {a b : Nat} (h : b ≤ a) : (a : Int) - (b : Int) = ((a - b : Nat) : Int) := by omega
theorem subL {a k : Nat} (h : k ≤ a) : (a : Int) - (no_index (OfNat.ofNat k : Int)) = ((a - k : Nat) : Int) := by
  show (a : Int) - ((k : Nat) : Int) = _
  omega
theorem subR {a k : Nat} (h : a ≤ k) : (no_index (OfNat.ofNat k : Int)) - (a : Int) = ((k - a : Nat) : Int) := by
  show ((k : Nat) : Int) - (a : Int) = _
  omega
theorem div_ok {i : Int} {k : Nat} (h0 : 0 < k) (h : k < 2 ^ 64) : CDivA i (k : Int) := ⟨by omega, by
  have : ((k : Nat) : Int).natAbs = k := by omega
  rw [this]
  exact Nat.lt_of_lt_of_le ((Nat.log2_lt (by omega)).mpr h) (by decide)⟩
theorem eqb_nL (a k : Nat) : D.eqb (.int (a : Int)) (.int (no_index (OfNat.ofNat k : Int))) = decide (a = k) := by
  rw [eqb_int]
  congr 1
  show ((a : Int) = ((k : Nat) : Int)) = _
  exact propext ⟨fun h => by omega, fun h => by omega⟩
theorem ltN (a b : Nat) : decide ((a : Int) < (b : Int)) = decide (a < b) := by congr 1; exact propext ⟨fun h => by omega, fun h => by omega⟩
theorem leN (a b : Nat) : decide ((a : Int) ≤ (b : Int)) = decide (a ≤ b) := by congr 1; exact propext ⟨fun h => by omega, fun h => by omega⟩
theorem ixN_nat {n i : Nat} (h : i < n) : ixN n (i : Int) = some i := by
  unfold ixN; first | (rw [if_pos (by omega)]; simp; omega) | (split <;> simp_all <;> omega)
theorem cut_upto {α : Type} (l : List α) (n : Nat) : cut l none (some (n : Int)) = l.take n := by
  unfold cut
  rw [HT.sIx_none, HT.sIx_nat, List.drop_zero, Nat.sub_zero]
  by_cases h : n ≤ l.length
  · rw [Nat.min_eq_left h]
  · rw [Nat.min_eq_right (by omega), List.take_length, List.take_of_length_le (by omega)]
theorem ifp {c : Prop} [i : Decidable c] {a b : Prop} (h : c) (x : a) : if c then a else b := by rw [if_pos h]; exact x
theorem ifn {c : Prop} [i : Decidable c] {a b : Prop} (h : ¬ c) (x : b) : if c then a else b := by rw [if_neg h]; exact x
/-- a loop's turn: what comes behind it stands as a name -/
theorem loop_c {g : TGD} {wb : TSW} {D : EndW} {x : RT.D} {xs : List RT.D} {ρ : Sg} (h : ∀ nx : Sg → Prop, (∀ ρ, wLoop g wb D xs ρ → nx ρ) → g x ρ (fun ρ' => wb { nx := nx, rt := D.rt, bk := D.nx, ct := nx, ex := D.ex } ρ')) : wLoop g wb D (x :: xs) ρ := h _ fun _ z => z
theorem loop_n {g : TGD} {wb : TSW} {D : EndW} {ρ : Sg} (h : D.nx ρ) : wLoop g wb D [] ρ := h
theorem sNx_eq (D : EndW) (ρ : Sg) : sNx D ρ = D.nx ρ := rfl
theorem sCt_eq (D : EndW) (ρ : Sg) : sCt D ρ = D.ct ρ := rfl
theorem sBk_eq (D : EndW) (ρ : Sg) : sBk D ρ = D.bk ρ := rfl
theorem sRn_eq (D : EndW) (ρ : Sg) : sRn D ρ = D.rt (.d .non) := rfl
theorem sNever_eq (D : EndW) (ρ : Sg) : sNever D ρ = False := rfl
theorem sSeq_eq (w u : TSW) (D : EndW) (ρ : Sg) : sSeq w u D ρ = w { nx := u D, rt := D.rt, bk := D.bk, ct := D.ct, ex := D.ex } ρ := rfl
end RT
namespace RT
open PySem PySem.Spec PyProof.Rows L2
/-! ### the module's constants -/
section
variable {X : Cx} {x : Str} {pos : Pos} {fa : List He.Fa} {fn : List He.DefD} {h : Heap} {K : PySem.W.Frag} {mg : Str → Option Value}
/-- the module's name x is a tuple of these -/
def gtB (K : PySem.W.Frag) (x : Str) (vs : List He.Dv) : Bool := He.eqO (PySem.W.nsIn K mainGlobals x) (some (some (.ref (He.ga K x)))) && match K.lookup (He.ga K x) with
  | some ⟨.type c, none, .seq its _, _⟩ => decide (c = "tuple") && (decide (its.size ≤ sizeLine) && He.relAll (vs.map (He.Dv.v K)) its.toList)
  | _ => false
theorem gtB_ok (X : K.In h) (G : h.Ns mainGlobals mg) {vs : List He.Dv} (e : gtB K x vs = true) : mg x = some (.ref (He.ga K x)) ∧ ∃ (o : Obj) (its : Array Value) (n : Nat), K.lookup (He.ga K x) = some o ∧ o.cls = .type "tuple" ∧ o.data = .seq its n ∧ its.size ≤ sizeLine ∧ Vals (vs.map (He.Dv.v K)) its.toList ∧ o.dict = none := by
  obtain ⟨h1, h2⟩ := He.ba e
  refine ⟨PySem.W.mg_of X G (He.eqO_ok h1), ?_⟩
  cases q : K.lookup (He.ga K x) with
  | none =>
    rw [q] at h2
    cases h2
  | some o =>
    obtain ⟨oc, od, dt, osl⟩ := o
    rw [q] at h2
    cases oc with
    | type c =>
      cases od with
      | none =>
        cases dt with
        | seq its n =>
          obtain ⟨h1, h2⟩ := He.ba (show (decide (c = "tuple") && (decide (its.size ≤ sizeLine) && He.relAll (vs.map (He.Dv.v K)) its.toList)) = true from h2)
          obtain ⟨h3, h4⟩ := He.ba h2
          exact ⟨_, its, n, rfl, congrArg Value.type (of_decide_eq_true h1), rfl, of_decide_eq_true h3, He.relAll_ok h4, rfl⟩
        | _ => cases h2
      | some a => cases dt <;> cases h2
    | _ => cases od <;> cases dt <;> cases h2
theorem q_ktup {l : List D} {vs : List V} {a : Addr} (hg : Gl X x) (hm : X.mg x = some (.ref a) ∧ ∃ (o : Obj) (its : Array Value) (n : Nat), X.K.lookup a = some o ∧ o.cls = .type "tuple" ∧ o.data = .seq its n ∧ its.size ≤ sizeLine ∧ Vals vs its.toList ∧ o.dict = none) (r : ∀ F, RepDs X.K F l vs)
    (hd : (x == ("__debug__" : Str)) = false := by decide) : QE X (.Name x pos) (wC (.tup l)) :=
  q_c (pe_glob hg hm.1 (v := .ref a) rfl hd) fun F => by unfold RepD; exact ⟨a, vs, rfl, .inr hm.2, r F⟩
theorem q_kint {i : Int} (hg : Gl X x) (hm : ∃ t, X.mg x = some (.int i t)) (hd : (x == ("__debug__" : Str)) = false := by decide) : QE X (.Name x pos) (wC (.int i)) :=
  let ⟨t, e⟩ := hm; q_c (pe_glob hg e (v := .int i) ⟨t, rfl⟩ hd) fun F => .int
theorem q_kstr {i : Str} (hg : Gl X x) (hm : ∃ t, X.mg x = some (.str i t)) (hd : (x == ("__debug__" : Str)) = false := by decide) : QE X (.Name x pos) (wC (.str i)) :=
  let ⟨t, e⟩ := hm; q_c (pe_glob hg e (v := .str i) ⟨t, rfl⟩ hd) fun F => .str
end
/-- the head's facts and more -/
structure TopX (fa : List He.Fa) (fn : List He.DefD) (ex : PySem.W.Frag → Bool) (h : Heap) (K : PySem.W.Frag) (mg : Str → Option Value) : Prop extends Top fa fn h K mg where
  e : ex K = true
section
variable {fa : List He.Fa} {fn : List He.DefD} {ex : PySem.W.Frag → Bool} {h : Heap} {K : PySem.W.Frag} {mg : Str → Option Value}
theorem TopX.free (Z : TopX fa fn ex h K mg) {x : Str} (i : Nat) (e : fa[i]? = some (.free x) := by rfl) : mg x = none := Z.toTop.free i e
theorem TopX.int (Z : TopX fa fn ex h K mg) {x : Str} {k : Int} (i : Nat) (e : fa[i]? = some (.int x k) := by rfl) : ∃ t, mg x = some (.int k t) := He.int_ok Z.X Z.G (Z.c.fact i e)
theorem TopX.str (Z : TopX fa fn ex h K mg) {x k : Str} (i : Nat) (e : fa[i]? = some (.str x k) := by rfl) : ∃ t, mg x = some (.str k t) := He.str_ok Z.X Z.G (Z.c.fact i e)
end
end RT
namespace RT
open PySem PySem.Spec PyProof.Rows L2
/-! ### zip of lists and tuples, mixed -/
def Itzx (t1 t2 : Bool) (K : PySem.W.Frag) (a b : Addr) : It :=
  ⟨fun i H => ∃ (xs ys : List V) (x y : V), SqX t1 K H a xs ∧ SqX t2 K H b ys ∧ xs[i]? = some x ∧ ys[i]? = some y,
    fun i H v H' => ∃ T o x y, v = .ref T ∧ H T = none ∧ o.dict = none ∧ H' = L2.upd H T (.frz o (.tup [x, y])) ∧ (∀ xs, SqX t1 K H a xs → xs[i]? = some x) ∧ ∀ ys, SqX t2 K H b ys → ys[i]? = some y,
    fun i H => ∃ xs ys : List V, SqX t1 K H a xs ∧ SqX t2 K H b ys ∧ i ≤ xs.length ∧ i ≤ ys.length ∧ (i = xs.length ∨ i = ys.length)⟩
theorem turn_zipX {P : Program} {w : World} {K : PySem.W.Frag} {elts : List Expr} {kk : Nat} {tpos : Pos} {a b z TI TO i1 i2 : Addr} (t1 t2 : Bool) (S : ZipSep2 z TI TO i1 i2 [i1, a] [i2, b]) :
    Turn P w K (.Tuple elts kk tpos) (Itzx t1 t2 K a b) [z, TI, TO, i1, i2] z (fun i h => IsZip h z TI TO .none ∧ IsTupOf2 h TI (.ref i1) (.ref i2) ∧ (∃ x y, IsTupOf2 h TO x y) ∧ ItrAt t1 h i1 a i ∧ ItrAt t2 h i2 b i) where
  mem := by simp
  obj := fun i h st c hc => by
    obtain ⟨hz, hTI, ⟨x, y, hTO⟩, h1, h2⟩ := st
    obtain ⟨o1, e1, _, d1⟩ := h1.ty
    obtain ⟨o2, e2, _, d2⟩ := h2.ty
    have e' : c = z ∨ c = TI ∨ c = TO ∨ c = i1 ∨ c = i2 := by simpa using hc
    rcases e' with q | q | q | q | q
    · rw [q]; exact ⟨_, hz, fun v q => nomatch q⟩
    · rw [q]; exact ⟨_, hTI, fun v q => nomatch q⟩
    · rw [q]; exact ⟨_, hTO, fun v q => nomatch q⟩
    · rw [q]; exact ⟨o1, e1, d1⟩
    · rw [q]; exact ⟨o2, e2, d2⟩
  keep := fun i h h' st k => by
    obtain ⟨hz, hTI, ⟨x, y, hTO⟩, h1, h2⟩ := st
    exact ⟨k z (by simp) _ hz, k TI (by simp) _ hTI, ⟨x, y, k TO (by simp) _ hTO⟩, h1.keep fun o q => k i1 (by simp) o q, h2.keep fun o q => k i2 (by simp) o q⟩
  item := by
    intro X hP hw hK hc i pins s σ H E I hf st hg
    subst hP hw hK
    obtain ⟨hz, hTI, ⟨x0, y0, hTO⟩, h1, h2⟩ := st
    obtain ⟨xs, ys, x, y, hqx, hqy, hx, hy⟩ := hg
    obtain ⟨its, rv, p, _⟩ := I.seqX hqx
    obtain ⟨its2, rv2, p2, _⟩ := I.seqX hqy
    obtain ⟨u, hu, ru⟩ := rv.get hx
    obtain ⟨u2, hu2, ru2⟩ := rv2.get hy
    have hzl : z < s.heap.objs.size := Heap.lt_size hz
    have hh : X.A.in1.handled = none := I.ok.hd hc
    have l1 : i < its.toArray.size := by have := (List.getElem?_eq_some_iff.mp hu).1; simpa using this
    have l2 : i < its2.toArray.size := by have := (List.getElem?_eq_some_iff.mp hu2).1; simpa using this
    refine wpAny_pyNext_zipD2_item S (draws_of hh t1 i1 a (itr_ne h1 p) its.toArray) (draws_of hh t2 i2 b (itr_ne h2 p2) its2.toArray) hz hTI hTO ⟨h1, p⟩ ⟨h2, p2⟩ l1 l2 fun x1 x2 h' tk hx1 hx2 z' TO' st1 st2 hT hsz hk => ?_
    have e1 : x1 = u := by
      have : its.toArray[i]? = some u := by simpa using hu
      rw [this] at hx1; cases hx1; rfl
    have e2 : x2 = u2 := by
      have : its2.toArray[i]? = some u2 := by simpa using hu2
      rw [this] at hx2; cases hx2; rfl
    subst e1 e2
    refine ⟨_, rfl, wpAny_letOwnedTupleGo_zip (s := { s with heap := h', toks := tk }) z' fun h'' z'' sb => ?_⟩
    have hT2 : h''.get? s.heap.objs.size = some { cls := .type "tuple", data := .seq #[x1, x2] } := (sb.2 _ (Nat.ne_of_gt hzl)).trans hT
    have new : ObjOk X.prog X.w (L2.upd H s.heap.objs.size (.frz { cls := .type "tuple", data := .seq #[x1, x2] } (.tup [x, y]))) h'' s.heap.objs.size (.frz { cls := .type "tuple", data := .seq #[x1, x2] } (.tup [x, y])) :=
      ⟨hT2, by show 2 ≤ sizeLine; decide, [x1, x2], .cons ru (.cons ru2 .nil), ⟨_, hT2, rfl, _, rfl⟩⟩
    have I1 : Inv X pins σ (L2.upd H s.heap.objs.size (.frz { cls := .type "tuple", data := .seq #[x1, x2] } (.tup [x, y]))) { s with heap := h'', toks := tk } :=
      I.turnedNew (ch := [z, TI, TO, i1, i2]) (fun c o hb q => (sb.2 c (fun q' => hb (by simp [q']))).trans (hk c o (fun q' => hb (by simp [q'])) (fun q' => hb (by simp [q'])) (fun q' => hb (by simp [q'])) (fun q' => hb (by simp [q'])) q)) hf (Nat.le_refl _) new
    refine ⟨.ref s.heap.objs.size, _, I1, rfl, ⟨_, _, x, y, rfl, I.hok.fresh (Nat.le_refl _), rfl, rfl, fun l hl => by rw [I.seqX_inj hl hqx]; exact hx, fun l hl => by rw [I.seqX_inj hl hqy]; exact hy⟩, ⟨z'', ?_, ⟨x1, x2, ?_⟩, ?_, ?_⟩, fun c hcm => ?_⟩
    · exact (sb.2 _ S.TIz).trans (hk _ _ S.TIz S.TITO S.TIi1 S.TIi2 hTI)
    · exact (sb.2 _ S.TOz).trans TO'
    · exact st1.1.keep fun o q => (sb.2 _ (Ne.symm S.zi1)).trans q
    · exact st2.1.keep fun o q => (sb.2 _ (Ne.symm S.zi2)).trans q
    · have hlt : c < s.heap.objs.size := by
        have e' : c = z ∨ c = TI ∨ c = TO ∨ c = i1 ∨ c = i2 := by simpa using hcm
        rcases e' with q | q | q | q | q
        · rw [q]; exact hzl
        · rw [q]; exact Heap.lt_size hTI
        · rw [q]; exact Heap.lt_size hTO
        · rw [q]; obtain ⟨_, e1, _⟩ := h1.ty; exact Heap.lt_size e1
        · rw [q]; obtain ⟨_, e2, _⟩ := h2.ty; exact Heap.lt_size e2
      rw [L2.upd_ne (Nat.ne_of_lt hlt)]
      exact (hf c hcm).1
  done := by
    intro X hP hw hK hc i pins s σ H E I hf st hg
    subst hP hw hK
    obtain ⟨hz, hTI, ⟨x0, y0, hTO⟩, h1, h2⟩ := st
    obtain ⟨xs, ys, hqx, hqy, hle1, hle2, hend⟩ := hg
    obtain ⟨its, rv, p, _⟩ := I.seqX hqx
    obtain ⟨its2, rv2, p2, _⟩ := I.seqX hqy
    have l1 := rv.length
    have l2 := rv2.length
    have hh : X.A.in1.handled = none := I.ok.hd hc
    have n1 : its.toArray.size = xs.length := by rw [List.size_toArray]; exact l1.symm
    have n2 : its2.toArray.size = ys.length := by rw [List.size_toArray]; exact l2.symm
    refine wpAny_pyNext_zipD2_end S (draws_of hh t1 i1 a (itr_ne h1 p) its.toArray) (draws_of hh t2 i2 b (itr_ne h2 p2) its2.toArray) hz hTI hTO ⟨h1, p⟩ ⟨h2, p2⟩ (by rw [n1]; exact hle1) (by rw [n2]; exact hle2) (by rw [n1, n2]; exact hend) fun h' tk hk => ⟨rfl, I.turnedL (t' := tk) (ch := [z, TI, TO, i1, i2]) (fun c o hb q =>
      hk c o (fun q' => hb (by simp [q'])) (fun q' => hb (by simp [q'])) (fun q' => hb (by simp [q'])) (fun q' => hb (by simp [q'])) q) hf⟩
  self := fun A i s Q E st h => wpAny_pyIter_zip st.1 h
def iZipX (K : PySem.W.Frag) (ta : TA) : TI := fun σ H R => ta σ H fun vs H1 => ∃ a b xs ys t1 t2, vs = [.ref a, .ref b] ∧ SqX t1 K H1 a xs ∧ SqX t2 K H1 b ys ∧ (xs.length ≤ 16777216 → ys.length ≤ 16777216 → R (Itzx t1 t2 K a b) H1)
theorem pi_zipX {X : Cx} {e e2 : Expr} {ta : TA} {p pos tpos : Pos} {elts : List Expr} {kk : Nat} (hg : Gl X "zip") (hm : X.mg "zip" = none) (ha : PA X [e, e2] ta)
    (hs : starEach [e, e2] X.env = (false, eval e X.env) :: starEach [e2] X.env := by rfl) (hpl : (backTo pos (starEach [e2] X.env)).any (·.1) = false := by rfl) :
    PI X (.Tuple elts kk tpos) (.Call (.Name "zip" p) [e, e2] [] pos) (iZipX X.K ta) := by
  refine ⟨fun pins s σ H R I h => ?_⟩
  refine Call_ (ld_blt I hg hm PyProof.Rows.boot_zip (PyProof.Rows.callWith_type1 (thn (ha.run pos pins s σ H _ I h) fun us s1 ⟨vs, H1, I1, r1, q1⟩ => ?_) hs hpl))
  obtain ⟨a, b, xs, ys, t1, t2, ex, hqx, hqy, q⟩ := q1
  subst ex
  cases r1 with
  | cons r rr =>
    cases rr with
    | cons r' rr =>
      cases rr
      cases r
      cases r'
      have fresh5 : ∀ c, c ∈ [s1.heap.objs.size + 4, s1.heap.objs.size + 2, s1.heap.objs.size + 3, s1.heap.objs.size, s1.heap.objs.size + 1] → FpOk X pins H1 c := fun c hcm => by
        have e' : c = s1.heap.objs.size + 4 ∨ c = s1.heap.objs.size + 2 ∨ c = s1.heap.objs.size + 3 ∨ c = s1.heap.objs.size ∨ c = s1.heap.objs.size + 1 := by simpa using hcm
        have hle : s1.heap.objs.size ≤ c := by
          rcases e' with z | z | z | z | z
          · rw [z]; exact Nat.le_add_right _ _
          · rw [z]; exact Nat.le_add_right _ _
          · rw [z]; exact Nat.le_add_right _ _
          · rw [z]; exact Nat.le_refl _
          · rw [z]; exact Nat.le_add_right _ _
        exact I1.fpOk hle (I1.hok.fresh hle)
      obtain ⟨its, rv, p1, z1⟩ := I1.seqX hqx
      obtain ⟨its2, rv2, p2, z2⟩ := I1.seqX hqy
      have hsz := sizeLine_eq
      have ha : a < s1.heap.objs.size := by obtain ⟨_, e, _⟩ := p1.ty; exact Heap.lt_size e
      have hb : b < s1.heap.objs.size := by obtain ⟨_, e, _⟩ := p2.ty; exact Heap.lt_size e
      have S := zip_sep2 (N := s1.heap.objs.size) (fp1 := [a]) (fp2 := [b]) (fun c hc => by rw [List.mem_singleton.mp hc]; exact ha) (fun c hc => by rw [List.mem_singleton.mp hc]; exact hb)
      have fin : ∀ h', IsZip h' (s1.heap.objs.size + 4) (s1.heap.objs.size + 2) (s1.heap.objs.size + 3) .none → IsTupOf2 h' (s1.heap.objs.size + 2) (.ref s1.heap.objs.size) (.ref (s1.heap.objs.size + 1)) →
          IsTupOf2 h' (s1.heap.objs.size + 3) .none .none → ItrAt t1 h' s1.heap.objs.size a 0 → ItrAt t2 h' (s1.heap.objs.size + 1) b 0 → (∀ c o, s1.heap.get? c = some o → h'.get? c = some o) →
          wpAny (model X.prog X.w) X.A (pyIter (.ref (s1.heap.objs.size + 4))) (PIE X pins σ (.Tuple elts kk tpos) R) X.xe { s1 with heap := h' } := fun h' hz hTI hTO h1 h2 hk => by
        refine wpAny_pyIter_zip hz ?_
        have I2 : Inv X pins σ H1 { s1 with heap := h' } := I1.kept (t' := s1.toks) hk
        exact ⟨s1.heap.objs.size + 4, [s1.heap.objs.size + 4, s1.heap.objs.size + 2, s1.heap.objs.size + 3, s1.heap.objs.size, s1.heap.objs.size + 1], _, _, H1, rfl, I2, turn_zipX t1 t2 S, ⟨hz, hTI, ⟨_, _, hTO⟩, h1, h2⟩, fresh5, q (by omega) (by omega)⟩
      cases t1 with
      | true => cases t2 with
        | true => exact zip_begins2 (begins_tuple a its.toArray) (begins_tuple b its2.toArray) p1 p2 fun h' hz hTI hTO g1 g2 _ hk => fin h' hz hTI hTO ⟨_, g1, rfl, rfl⟩ ⟨_, g2, rfl, rfl⟩ hk
        | false => exact zip_begins2 (begins_tuple a its.toArray) (begins_list b its2.toArray) p1 p2 fun h' hz hTI hTO g1 g2 _ hk => fin h' hz hTI hTO ⟨_, g1, rfl, rfl⟩ ⟨_, g2, rfl, rfl⟩ hk
      | false => cases t2 with
        | true => exact zip_begins2 (begins_list a its.toArray) (begins_tuple b its2.toArray) p1 p2 fun h' hz hTI hTO g1 g2 _ hk => fin h' hz hTI hTO ⟨_, g1, rfl, rfl⟩ ⟨_, g2, rfl, rfl⟩ hk
        | false => exact zip_begins2 (begins_list a its.toArray) (begins_list b its2.toArray) p1 p2 fun h' hz hTI hTO g1 g2 _ hk => fin h' hz hTI hTO ⟨_, g1, rfl, rfl⟩ ⟨_, g2, rfl, rfl⟩ hk
section
variable {X : Cx} {K : PySem.W.Frag} {F F' H H' H0 F0 : Hp} {e e2 : Expr} {wa wb : TW} {c : Bool}
/-- the pairs of zip -/
def zipD (l l' : List D) : List D := l.zipWith (fun x y => .tup [x, y]) l'
theorem zipD_get {l l' : List D} {i : Nat} {x : D} (h : (zipD l l')[i]? = some x) : ∃ y z, l[i]? = some y ∧ l'[i]? = some z ∧ x = .tup [y, z] := by
  unfold zipD at h
  rw [List.getElem?_zipWith] at h
  cases h1 : l[i]? with
  | none => rw [h1] at h; simp at h
  | some y =>
    cases h2 : l'[i]? with
    | none => rw [h1, h2] at h; simp at h
    | some z => rw [h1, h2] at h; simp at h; exact ⟨y, z, rfl, rfl, h.symm⟩
theorem zipD_length (l l' : List D) : (zipD l l').length = min l.length l'.length := by unfold zipD; rw [List.length_zipWith]
theorem it_zip {t1 t2 : Bool} {a b : Addr} {l l' : List D} {vs vs' : List V} (u1 : ∀ F1 H1, Same F F1 → Same F1 H1 → Same H0 H1 → SqX t1 K H1 a vs) (u2 : ∀ F1 H1, Same F F1 → Same F1 H1 → Same H0 H1 → SqX t2 K H1 b vs') (r : RepDs K F l vs) (r' : RepDs K F l' vs') : ItOk K F H0 (Itzx t1 t2 K a b) (zipD l l') where
  go := fun i x hx F1 H1 s1 s2 z1 => by
    obtain ⟨y, z, hy, hz, e⟩ := zipD_get hx
    obtain ⟨u, hu, ru⟩ := r.get hy
    obtain ⟨u', hu', ru'⟩ := r'.get hz
    refine ⟨⟨vs, vs', u, u', u1 F1 H1 s1 s2 z1, u2 F1 H1 s1 s2 z1, hu, hu'⟩, fun v H2 ⟨T, o, x', y', ev, hT, ho, eH, hx', hy'⟩ => ?_⟩
    have e1 := hx' vs (u1 F1 H1 s1 s2 z1)
    rw [hu] at e1; cases e1
    have e2 := hy' vs' (u2 F1 H1 s1 s2 z1)
    rw [hu'] at e2; cases e2
    subst ev eH e
    refine ⟨L2.upd F1 T (.frz o (.tup [u, u'])), Ext.pure s2 hT, ?_⟩
    unfold RepD
    exact ⟨T, _, rfl, .inl ⟨o, L2.upd_same, ho⟩, .cons ((ru.mono s1).mono (Ext.pure s2 hT).f) (.cons ((ru'.mono s1).mono (Ext.pure s2 hT).f) .nil)⟩
  stop := fun F1 H1 s1 s2 z1 => by
    refine ⟨vs, vs', u1 F1 H1 s1 s2 z1, u2 F1 H1 s1 s2 z1, ?_, ?_, ?_⟩ <;> rw [zipD_length, r.length, r'.length] <;> omega
def wZip (c : Bool) (wa wb : TW) : TIW := fun ρ Q E => wa ρ (fun m => ∃ l, m.itD c = some l ∧ wb ρ (fun m' => ∃ l', m'.itD c = some l' ∧ Q (zipD l l')) E) E
theorem qi_zip {p pos tpos : Pos} {elts : List Expr} {kk : Nat} (hg : Gl X "zip") (hm : X.mg "zip" = none) (ha : QE X e wa) (hb : QE X e2 wb)
    (hs : starEach [e, e2] X.env = (false, eval e X.env) :: starEach [e2] X.env := by rfl) (hs2 : starEach [e2] X.env = [(false, eval e2 X.env)] := by rfl) (hpl : (backTo pos (starEach [e2] X.env)).any (·.1) = false := by rfl) :
    QI X c (.Tuple elts kk tpos) (.Call (.Name "zip" p) [e, e2] [] pos) (wZip c wa wb) where
  mono := fun hq h z => ha.mono (fun m ⟨l, e, q⟩ => ⟨l, e, hb.mono (fun m' ⟨l', e', q⟩ => ⟨l', e', hq _ q⟩) h q⟩) h z
  run := fun W F0 H0 tk => piImp (pi_zipX hg hm (pa_cons (ha.run W F0 H0 tk) (pa_cons (hb.run W F0 H0 tk) pa_nil hs2) hs) hs hpl) fun σ H R ⟨ρ, F, rel, z⟩ => by
    refine ⟨ρ, F, rel, ha.mono (fun m hm => ?_) (fun _ q => q) z⟩
    obtain ⟨l, hl, q⟩ := hm
    intro v H1 F1 fp x r hf hn
    obtain ⟨a, vs, F2, e1, x2, r2, hq⟩ := walk_from x (rel.e.h.trans x.h) r hf hl
    refine ⟨ρ, F2, rel.ext x2, hb.mono (fun m' hm' => ?_) (fun _ q => q.ext x2) q⟩
    obtain ⟨l', hl', q'⟩ := hm'
    intro v' H3 F3 fp' x3 r3 hf' hn'
    obtain ⟨b, vs', F4, e2, x4, r4, hq'⟩ := walk_from x3 ((rel.ext x2).e.h.trans x3.h) r3 hf' hl'
    have k1 : Same (if c = true then H1 else H0) (if c = true then H3 else H0) := by
      cases c with
      | true => exact x3.h
      | false => exact .refl _
    have U : ∀ {t : Bool}, (∀ F3 H3, Same F2 F3 → Same F3 H3 → Same (if c = true then H1 else H0) H3 → SqX t X.K H3 a vs) → ∀ F5 H5, Same F4 F5 → Same F5 H5 → Same (if c = true then H3 else H0) H5 → SqX t X.K H5 a vs := fun h F5 H5 s1 s2 s3 => h F5 H5 (x4.f.trans s1) s2 (k1.trans s3)
    have fin : ∀ t1 t2 : Bool, (∀ F5 H5, Same F4 F5 → Same F5 H5 → Same (if c = true then H3 else H0) H5 → SqX t1 X.K H5 a vs) → (∀ F5 H5, Same F4 F5 → Same F5 H5 → Same (if c = true then H3 else H0) H5 → SqX t2 X.K H5 b vs') → SqX t1 X.K H3 a vs → SqX t2 X.K H3 b vs' →
        ∃ a' b' xs ys t1 t2, [v, v'] = [V.ref a', V.ref b'] ∧ SqX t1 X.K H3 a' xs ∧ SqX t2 X.K H3 b' ys ∧ (xs.length ≤ 16777216 → ys.length ≤ 16777216 → R (Itzx t1 t2 X.K a' b') H3) := fun t1 t2 h1 h2 g1 g2 =>
      ⟨a, b, vs, vs', t1, t2, by rw [e1, e2], g1, g2, fun z1 z2 => q' (by rw [zipD_length, r2.length, r4.length]; omega) _ F4 H3 (x2.trans x4) (it_zip h1 h2 (r2.mono x4.f) r4)⟩
    have now : ∀ t, (∀ F3 H3, Same F2 F3 → Same F3 H3 → Same (if c = true then H1 else H0) H3 → SqX t X.K H3 a vs) → SqX t X.K H3 a vs := fun t h => h F4 H3 x4.f x4.s (by
      cases c with
      | true => exact x3.h
      | false => exact (rel.ext x2).e.h.trans x3.h)
    rcases hq with ⟨h1, h2⟩ | ⟨h1, h2⟩ <;> rcases hq' with ⟨h3, h4⟩ | ⟨h3, h4⟩
    · exact fin false false (U (t := false) h2) h4 (now false h2) h3
    · exact fin false true (U (t := false) h2) h4 (now false h2) h3
    · exact fin true false (U (t := true) h2) h4 (now true h2) h3
    · exact fin true true (U (t := true) h2) h4 (now true h2) h3
end
end RT
namespace RT
open PySem PySem.Spec PyProof.Rows L2
section
variable {X : Cx} {K : PySem.W.Frag} {F F' H H' H0 F0 : Hp} {ρ : Sg} {σ : L2.St}
variable {e tg : Expr} {we : TW} {pos : Pos} {g : TGD} {as : List Nat}
/-- a, b = e: pure data taken apart -/
def wAsgG (g : TGD) (we : TW) : TSW := fun D ρ => we ρ (fun m => ∃ x, m.frz = some x ∧ g x ρ D.nx) (D.ex ρ)
theorem s_asgG (he : QE X e we) (hg : QG X tg as g) (hs : swapsWithSole [tg] e pos.line X.env = pure false := by rfl) (hw : swappedStores [tg] e X.env = pure none := by rfl) (h1 : (assignEach [tg] X.env).map (·.2) = [assign tg X.env] := by rfl) : QS X (.Assign [tg] e pos) as (wAsgG g we) where
  mono := fun l h => he.mono (fun m ⟨x, e, q⟩ => ⟨x, e, hg.mono l.nx q⟩) (l.ex _) h
  run := fun W F0 H0 tk => psImp (ps_asg (he.run W F0 H0 tk) (hg.run F0 H0) hs hw h1) fun D σ H ⟨ρ, F, rel, h⟩ =>
    ⟨ρ, F, rel, he.mono (fun m hm v H1 F1 fp x1 r hf hn => by
      obtain ⟨y, ey, q⟩ := hm
      have x2 := ext_frz x1 r hf
      have ry := r.frz (frzH_frz fun b hb => (r.own b hb).1) ey
      generalize frzH F1 H1 fp = F2 at x2 ry
      exact ⟨ρ, F2, y, rel.ext x2, ry, hg.mono (fun ρ' h' σ' rel' f' => h' σ' F2 H1 x2.f rel' f') q⟩) (fun _ z => exq rel z) h⟩
end
end RT
namespace RT
open PySem PySem.Spec PyProof.Rows L2
section
variable {X : Cx} {K : PySem.W.Frag} {F F' H H' H0 F0 : Hp} {ρ : Sg} {σ : L2.St} {ts : List M} {tv : List V}
variable {a b c e o i f j : Expr} {wa wb we wi wj : TW} {pos pos' pos2 p apos cpos spos : Pos} {x : Str}
/-! ### lists of lists of one's own -/
theorem get_list : PGet X (rIxL X.K) := by
  intro pins s σ H x y v u Q I rx ry h
  obtain ⟨p, xs, i, z, rfl, rfl, hq, he, q⟩ := h
  cases rx
  obtain ⟨t, rfl⟩ := ry
  obtain ⟨its, r, pl, hz⟩ := I.list hq
  obtain ⟨j, h1, h2, h3, h4, h5⟩ := atI_get he
  obtain ⟨w, ew, rw'⟩ := r.get h2
  have hl := r.length
  have hn := line63
  have fin : EP X pins σ Q w s := ⟨z, H, I, rw', q⟩
  by_cases h0 : 0 ≤ i
  · have hj : i.toNat = j := by
      rw [seqIndex_of h0 h5] at h1
      exact Option.some.inj h1
    exact wpAny_getItem_list pl.isList h0 (by omega) (by rw [hj]; simpa using ew) fin
  · have hj : (i + (its.toArray.size : Int)).toNat = j := by
      rw [seqIndex_neg (by omega) h4] at h1
      rw [List.size_toArray, ← hl]
      exact Option.some.inj h1
    exact wpAny_getItem_list_neg pl.isList (by omega) (by rw [List.size_toArray] <;> omega) (by omega) (by rw [hj]; simpa using ew) fin
theorem stos_set : ∀ {ms : List M} {j : Nat} {m : M}, M.stos ms = true → m.sto = true → M.stos (ms.set j m) = true
  | [], _, _, h, _ => h
  | y :: ys, 0, m, h, hm => by
    unfold M.stos at h; rw [Bool.and_eq_true] at h
    show M.stos (m :: ys) = true
    unfold M.stos; rw [Bool.and_eq_true]; exact ⟨hm, h.2⟩
  | y :: ys, j + 1, m, h, hm => by
    unfold M.stos at h; rw [Bool.and_eq_true] at h
    show M.stos (y :: ys.set j m) = true
    unfold M.stos; rw [Bool.and_eq_true]; exact ⟨h.1, stos_set h.2 hm⟩
theorem RepMs.updAt : ∀ {ms : List M} {vs : List V} {f : List Addr} {j : Nat} {l : List D}, RepMs K F H0 H ms vs f → M.stos ms = true → f.Nodup → ms[j]? = some (.fl .o l) →
    ∃ a us, vs[j]? = some (.ref a) ∧ H a = some (.lst us) ∧ RepDs K F l us ∧ a ∈ f ∧ ∀ l' us', RepDs K F l' us' → RepMs K F H0 (L2.upd H a (.lst us')) (ms.set j (.fl .o l')) vs f
  | [], _, _, _, _, _, _, _, e => by simp at e
  | m :: ms, vs, f, 0, l, r, hs, n, e => by
    unfold RepMs at r
    unfold M.stos at hs; rw [Bool.and_eq_true] at hs
    obtain ⟨v, w, f1, f2, e1, e2, q, z⟩ := r
    simp at e; subst e; subst e1; subst e2
    unfold RepM at q
    obtain ⟨a, us, e3, ⟨e4, h1, h2, h3⟩, r2⟩ := q
    subst e3; subst e4
    refine ⟨a, us, rfl, h1, r2, List.mem_append_left _ List.mem_cons_self, fun l' us' r' => ?_⟩
    show RepMs K F H0 (L2.upd H a (.lst us')) (.fl .o l' :: ms) _ _
    unfold RepMs
    refine ⟨.ref a, w, [a], f2, rfl, rfl, ?_, z.keep hs.2 fun b hb => upd_ne fun y => ?_⟩
    · unfold RepM
      exact ⟨a, us', rfl, ⟨rfl, upd_same, h2, h3⟩, r'⟩
    · subst y
      exact (List.nodup_append.mp n).2.2 b List.mem_cons_self b hb rfl
  | m :: ms, vs, f, j + 1, l, r, hs, n, e => by
    unfold RepMs at r
    unfold M.stos at hs; rw [Bool.and_eq_true] at hs
    obtain ⟨v, w, f1, f2, e1, e2, q, z⟩ := r
    subst e1; subst e2
    obtain ⟨n1, n2, n3⟩ := List.nodup_append.mp n
    obtain ⟨a, us, y1, y2, y3, y4, y5⟩ := RepMs.updAt z hs.2 n2 (by simpa using e)
    refine ⟨a, us, by simpa using y1, y2, y3, List.mem_append_right _ y4, fun l' us' r' => ?_⟩
    show RepMs K F H0 (L2.upd H a (.lst us')) (m :: ms.set j (.fl .o l')) _ _
    unfold RepMs
    exact ⟨v, w, f1, f2, rfl, rfl, q.keep hs.1 fun b hb => upd_ne fun y => n3 b hb a y4 y, y5 l' us' r'⟩
theorem Rel.updMl {i j : Nat} {ms : List M} {l : List D} (r : Rel K F0 H0 ρ σ ts tv F H) (ht : M.stos ts = true) (h : ρ[i]? = some (some (.ml .o ms))) (hj : ms[j]? = some (.fl .o l)) :
    ∃ a vs b us, σ[i]? = some (some (.ref a)) ∧ H a = some (.lst vs) ∧ vs.length = ms.length ∧ vs[j]? = some (.ref b) ∧ H b = some (.lst us) ∧ RepDs K F l us ∧
      ∀ l' us', RepDs K F l' us' → Rel K F0 H0 (ρ.set i (some (.ml .o (ms.set j (.fl .o l'))))) σ ts tv F (L2.upd H b (.lst us')) := by
  obtain ⟨v, fp, e1, hs, q, n, fin⟩ := r.upd ht h
  unfold M.sto at hs
  rw [Bool.and_eq_true] at hs
  unfold RepM at q
  obtain ⟨a, vs, f, e, ⟨e2, h1, h2, h3⟩, r2⟩ := q
  subst e; subst e2
  have n2 := List.nodup_cons.mp n
  obtain ⟨b, us, y1, y2, y3, y4, y5⟩ := r2.updAt hs.2 n2.2 hj
  have hab : a ≠ b := fun z => n2.1 (by rw [z]; exact y4)
  refine ⟨a, vs, b, us, e1, h1, r2.length.symm, y1, y2, y3, fun l' us' r' => fin (.ml .o (ms.set j (.fl .o l'))) (a :: f) _ ?_ ?_ n (fun d o hd hn => ?_) (fun d hd => .inl hd)⟩
  · unfold RepM
    exact ⟨a, vs, f, rfl, ⟨rfl, by rw [upd_ne hab]; exact h1, h2, h3⟩, y5 l' us' r'⟩
  · unfold M.sto; rw [Bool.and_eq_true]; exact ⟨hs.1, stos_set hs.2 rfl⟩
  · rw [upd_ne fun z => hn (by rw [z]; exact List.mem_cons_of_mem _ y4)]; exact hd
def onMl (ρ : Sg) (i : Nat) (P : List M → Prop) : Prop := match ρ[i]? with
  | some (some (.ml .o l)) => P l
  | _ => False
theorem onMl_mono {i : Nat} {P P' : List M → Prop} (h : ∀ l, P l → P' l) (q : onMl ρ i P) : onMl ρ i P' := by
  unfold onMl at q ⊢; split at q <;> first | exact h _ q | exact q
theorem onMl_of {i : Nat} {P : List M → Prop} (q : onMl ρ i P) : ∃ l, ρ[i]? = some (some (.ml .o l)) ∧ P l := by
  unfold onMl at q; split at q <;> first | exact ⟨_, by assumption, q⟩ | exact q.elim
def onI (P : Int → Prop) : M → Prop := fun m => match m with
  | .d (.int k) => P k
  | _ => False
theorem onI_mono {P P' : Int → Prop} {m : M} (h : ∀ k, P k → P' k) (q : onI P m) : onI P' m := by
  unfold onI at q ⊢; split at q <;> first | exact h _ q | exact q
theorem onI_of {P : Int → Prop} {m : M} {v : V} {fp : List Addr} (q : onI P m) (r : RepM K F H0 H m v fp) : ∃ k, v = .int k ∧ P k := by
  unfold onI at q; split at q
  · exact ⟨_, r.ofD.2.ofInt, q⟩
  · exact q.elim
/-- the row at place k of a list of own rows -/
def onRow (ms : List M) (k : Int) (P : Nat → List D → Prop) : Prop := ∃ j l, ixN ms.length k = some j ∧ ms[j]? = some (.fl .o l) ∧ P j l
theorem onRow_mono {ms : List M} {k : Int} {P P' : Nat → List D → Prop} (h : ∀ j l, P j l → P' j l) (q : onRow ms k P) : onRow ms k P' := let ⟨j, l, e1, e2, q⟩ := q; ⟨j, l, e1, e2, h _ _ q⟩
theorem ml_later {n j : Nat} {F H F2 H2 : Hp} {ms : List M} {l : List D} {a : Addr} (rel : Rel X.K F0 H0 ρ σ [] [] F H) (x : Ext F H F2 H2) (e : ρ[n]? = some (some (.ml .o ms))) (h : σ[n]? = some (some (.ref a))) (hj : ms[j]? = some (.fl .o l)) :
    ∃ vs b us, H2 a = some (.lst vs) ∧ vs.length = ms.length ∧ vs[j]? = some (.ref b) ∧ H2 b = some (.lst us) ∧ RepDs X.K F2 l us ∧
      ∀ l' us', RepDs X.K F2 l' us' → Rel X.K F0 H0 (ρ.set n (some (.ml .o (ms.set j (.fl .o l'))))) σ [] [] F2 (L2.upd H2 b (.lst us')) := by
  obtain ⟨a', vs, b, us, g1, g2, g3, g4, g5, g6, g7⟩ := (rel.ext x).updMl rfl e hj
  rw [h] at g1; cases g1
  exact ⟨vs, b, us, g2, g3, g4, g5, g6, g7⟩
theorem atI_ix {α : Type} {xs : List α} {k : Int} {j : Nat} {v : α} (h1 : ixN xs.length k = some j) (h2 : xs[j]? = some v) : atI xs k = some v := by
  unfold atI; rw [h1]; exact h2
theorem slot_ref {n : Nat} {ms : List M} (rel : Rel X.K F0 H0 ρ σ [] [] F H) (e : ρ[n]? = some (some (.ml .o ms))) : ∃ a, σ[n]? = some (some (.ref a)) := by
  obtain ⟨v, fp, e1, _, q, _⟩ := rel.get e
  unfold RepM at q
  obtain ⟨a, vs, f, e, _⟩ := q
  exact ⟨a, by rw [e1, e]⟩
/-- x[i][j] = e -/
def wSetIJ (n : Nat) (wi wj we : TW) : TSW := fun D ρ => onMl ρ n fun ms => we ρ (fun m => ∃ y, m.frz = some y ∧ wi ρ (onI fun k => onRow ms k fun j l => wj ρ (onI fun k2 => ∃ j2, ixN l.length k2 = some j2 ∧ D.nx (ρ.set n (some (.ml .o (ms.set j (.fl .o (l.set j2 y))))))) (D.ex ρ)) (D.ex ρ)) (D.ex ρ)
theorem s_setij (n : Nat) (hi : QE X i wi) (hj : QE X j wj) (he : QE X e we) (ha : ∀ v, assign (.Subscript (.Subscript (.Name x p) i pos2) j pos') X.env v = (do
      let ov ← holding [v] (eval (.Subscript (.Name x p) i pos2) X.env)
      let iv ← holding [v, ov] (eval j X.env)
      standAt pos'
      holding [v, ov, iv] (setItem ov iv v)
      release [v, ov, iv] []) := by intro _; rfl) (hN : X.N[n]? = some x := by rfl) (hv : Vis X.env.scope x := by first | exact Or.inl rfl | exact Or.inr (Or.inl rfl) | exact Or.inr (Or.inr rfl)) (hd : (x == ("__debug__" : Str)) = false := by decide) (hcd : (x == ("__classdict__" : Str)) = false := by decide) (hpi : PlainIx i := by intro _ _; rfl)
    (hs : swapsWithSole [.Subscript (.Subscript (.Name x p) i pos2) j pos'] e pos.line X.env = pure false := by rfl) (hw : swappedStores [.Subscript (.Subscript (.Name x p) i pos2) j pos'] e X.env = pure none := by rfl) : QS X (.Assign [.Subscript (.Subscript (.Name x p) i pos2) j pos'] e pos) [] (wSetIJ n wi wj we) where
  mono := fun l h => onMl_mono (fun _ h => he.mono (fun m ⟨y, ey, z⟩ => ⟨y, ey, hi.mono (fun kd q => onI_mono (fun k q => onRow_mono (fun j l' q => hj.mono (fun kd q => onI_mono (fun k2 ⟨j2, e2, q⟩ => ⟨j2, e2, l.nx _ q⟩) q) (l.ex _) q) q) q) (l.ex _) z⟩) (l.ex _) h) h
  run := fun W F0 H0 tk => psImp (ps_asg (he.run W F0 H0 tk) (pg_sub (pe_ix ix_seq (pe_var hN hv hd hcd) (hi.run W F0 H0 tk) hpi) (hj.run W F0 H0 tk) set_list ha) hs hw) fun D σ H ⟨ρ, F, rel, z⟩ => by
    obtain ⟨ms, e0, z⟩ := onMl_of z
    obtain ⟨a, g1⟩ := slot_ref rel e0
    refine ⟨ρ, F, rel, he.mono (fun m hm v1 H1 F1 fp x1 r hf hn => ?_) (fun _ q => exq rel q) z⟩
    obtain ⟨y, ey, q⟩ := hm
    have x2 := ext_frz x1 r hf
    have ry := r.frz (frzH_frz fun b hb => (r.own b hb).1) ey
    generalize frzH F1 H1 fp = F2 at x2 ry
    refine ⟨.ref a, g1, ρ, F2, rel.ext x2, hi.mono (fun kd hk v2 H3 F3 fk x3 rk _ _ => ?_) (fun _ q => exq (as := []) (D := D) (rel.ext x2) q) q⟩
    obtain ⟨k, ek, jj, l, e1, e2, q⟩ := onI_of hk rk
    obtain ⟨vs, b, us, f1, f2, f3, f4, f5, f6⟩ := ml_later rel (x2.trans x3) e0 g1 e2
    refine .inl ⟨a, vs, k, .ref b, rfl, ek, SqL.of f1, atI_ix (by rw [f2]; exact e1) f3, ρ, F3, rel.ext (x2.trans x3), hj.mono (fun kd hk v3 H4 F4 fk2 x4 rk2 _ _ => ?_) (fun _ q => exq (as := []) (D := D) (rel.ext (x2.trans x3)) q) q⟩
    obtain ⟨k2, ek2, j2, e3, q⟩ := onI_of hk rk2
    obtain ⟨vs', b', us', f1', f2', f3', f4', f5', f6'⟩ := ml_later rel ((x2.trans x3).trans x4) e0 g1 e2
    have hvs : vs' = vs := by have := x4.h _ _ f1; rw [f1'] at this; cases this; rfl
    subst hvs
    rw [f3] at f3'; cases f3'
    exact ⟨b, us', k2, j2, rfl, ek2, f4', by rw [← f5'.length]; exact e3, q σ F4 _ ((x2.trans x3).trans x4).f (f6' _ _ (RepDs.set ((ry.mono x3.f).mono x4.f) j2 f5')) .refl⟩
/-- x[i][j] op= e, ints -/
def wAugIJ (n : Nat) (g : Int → Int → Int) (wi wj we : TW) : TSW := fun D ρ => onMl ρ n fun ms => wi ρ (onI fun k => onRow ms k fun j l => wj ρ (onI fun k2 => ∃ j2 c, ixN l.length k2 = some j2 ∧ l[j2]? = some (.int c) ∧ we ρ (onI fun d => D.nx (ρ.set n (some (.ml .o (ms.set j (.fl .o (l.set j2 (.int (g c d)))))))) ) (D.ex ρ)) (D.ex ρ)) (D.ex ρ)
theorem s_augij {op : Operator} {g : Int → Int → Int} (n : Nat) (ho : PIp X op (ipI g)) (hi : QE X i wi) (hj : QE X j wj) (he : QE X e we)
    (ha : ∀ ov iv new, augStore j ov iv new = (do holding [new, ov, iv] (setItem ov iv new); release [new, ov, iv] []; pure .next) := by intros; rfl) (hN : X.N[n]? = some x := by rfl) (hv : Vis X.env.scope x := by first | exact Or.inl rfl | exact Or.inr (Or.inl rfl) | exact Or.inr (Or.inr rfl)) (hd : (x == ("__debug__" : Str)) = false := by decide) (hcd : (x == ("__classdict__" : Str)) = false := by decide) (hpi : PlainIx i := by intro _ _; rfl) :
    QS X (.AugAssign (.Subscript (.Subscript (.Name x p) i pos2) j pos') op e pos) [] (wAugIJ n g wi wj we) where
  mono := fun l h => onMl_mono (fun _ h => hi.mono (fun kd q => onI_mono (fun k q => onRow_mono (fun j l' q => hj.mono (fun kd q => onI_mono (fun k2 ⟨j2, c, e2, e3, q⟩ => ⟨j2, c, e2, e3, he.mono (fun m q => onI_mono (fun d q => l.nx _ q) q) (l.ex _) q⟩) q) (l.ex _) q) q) q) (l.ex _) h) h
  run := fun W F0 H0 tk => psImp (ps_augS (pe_ix ix_seq (pe_var hN hv hd hcd) (hi.run W F0 H0 tk) hpi) (hj.run W F0 H0 tk) get_list (he.run W F0 H0 tk) ho set_list ha) fun D σ H ⟨ρ, F, rel, z⟩ => by
    obtain ⟨ms, e0, z⟩ := onMl_of z
    obtain ⟨a, g1⟩ := slot_ref rel e0
    refine ⟨.ref a, g1, ρ, F, rel, hi.mono (fun kd hk v2 H3 F3 fk x3 rk _ _ => ?_) (fun _ q => exq (as := []) (D := D) rel q) z⟩
    obtain ⟨k, ek, jj, l, e1, e2, q⟩ := onI_of hk rk
    obtain ⟨vs, b, us, f1, f2, f3, f4, f5, f6⟩ := ml_later rel x3 e0 g1 e2
    refine .inl ⟨a, vs, k, .ref b, rfl, ek, SqL.of f1, atI_ix (by rw [f2]; exact e1) f3, ρ, F3, rel.ext x3, hj.mono (fun kd hk v3 H4 F4 fk2 x4 rk2 _ _ => ?_) (fun _ q => exq (as := []) (D := D) (rel.ext x3) q) q⟩
    obtain ⟨k2, ek2, j2, c, e3, e4, q⟩ := onI_of hk rk2
    obtain ⟨vs', b', us', f1', f2', f3', f4', f5', f6'⟩ := ml_later rel (x3.trans x4) e0 g1 e2
    have hvs : vs' = vs := by have := x4.h _ _ f1; rw [f1'] at this; cases this; rfl
    subst hvs
    rw [f3] at f3'; cases f3'
    obtain ⟨u, hu, ru⟩ := f5'.get e4
    have hl := f5'.length
    refine ⟨b, us', k2, .int c, rfl, ek2, SqL.of f4', atI_ix (by rw [← hl]; exact e3) (by rw [hu, ru.ofInt]), ρ, F4, rel.ext (x3.trans x4), he.mono (fun m hm v5 H5 F5 fp5 x5 r5 _ _ => ?_) (fun _ q => exq (as := []) (D := D) (rel.ext (x3.trans x4)) q) q⟩
    obtain ⟨d, ed, q⟩ := onI_of hm r5
    obtain ⟨vs2, b2, us2, y1, y2, y3, y4, y5, y6⟩ := ml_later rel ((x3.trans x4).trans x5) e0 g1 e2
    have hvs : vs2 = vs' := by have := x5.h _ _ f1'; rw [y1] at this; cases this; rfl
    subst hvs
    rw [f3] at y3; cases y3
    refine ⟨c, d, rfl, ed, b, us2, k2, j2, rfl, ek2, y4, by rw [← y5.length]; exact e3, q σ F5 _ ((x3.trans x4).trans x5).f (y6 _ _ (RepDs.set .int j2 y5)) .refl⟩
/-- x[i].append(e) -/
def wAppI (n : Nat) (wi we : TW) : TSW := fun D ρ => onMl ρ n fun ms => wi ρ (onI fun k => onRow ms k fun j l => we ρ (fun m => ∃ y, m.frz = some y ∧ l.length < 16777216 ∧ D.nx (ρ.set n (some (.ml .o (ms.set j (.fl .o (l ++ [y]))))))) (D.ex ρ)) (D.ex ρ)
theorem s_appi (n : Nat) (hi : QE X i wi) (he : QE X e we) (hN : X.N[n]? = some x := by rfl) (hv : Vis X.env.scope x := by first | exact Or.inl rfl | exact Or.inr (Or.inl rfl) | exact Or.inr (Or.inr rfl)) (hd : (x == ("__debug__" : Str)) = false := by decide) (hcd : (x == ("__classdict__" : Str)) = false := by decide) (hpi : PlainIx i := by intro _ _; rfl)
    (hfew : ((backTo cpos (starEach [e] X.env)).all (fun x => !x.1) && (backToKw cpos (keywordEach [] X.env)).all (fun x => x.1.isSome) && decide (([e] : List Expr).length + ([] : List Keyword).length + (if ([] : List Keyword).isEmpty then 0 else 1) < 30)) = true := by rfl)
    (hline : (apos.endLine == cpos.line) = true := by rfl) (hs : starEach [e] X.env = [(false, eval e X.env)] := by rfl) (hbase : attributeBase (.Subscript (.Name x p) i pos2) "append" X.env (eval (.Subscript (.Name x p) i pos2) X.env) = eval (.Subscript (.Name x p) i pos2) X.env := by rfl) (hsw : swapsWith (.Call (.Attribute (.Subscript (.Name x p) i pos2) "append" apos) [e] [] cpos) none spos.line X.env = pure false := by rfl) :
    QS X (.Expr (.Call (.Attribute (.Subscript (.Name x p) i pos2) "append" apos) [e] [] cpos) spos) [] (wAppI n wi we) where
  mono := fun l h => onMl_mono (fun _ z => hi.mono (fun kd q => onI_mono (fun k q => onRow_mono (fun j l' q => he.mono (fun m ⟨y, e, h1, q⟩ => ⟨y, e, h1, l.nx _ q⟩) (l.ex _) q) q) q) (l.ex _) z) h
  run := fun W F0 H0 tk => psImp (ps_expr (pe_bm PySem.F.plainAttrs_list PySem.F.slot_list_append PySem.F.type_list_append mt_append (pe_ix ix_seq (pe_var hN hv hd hcd) (hi.run W F0 H0 tk) hpi) (pa_cons (he.run W F0 H0 tk) pa_nil hs) hbase hfew hline hs rfl) hsw) fun D σ H ⟨ρ, F, rel, z⟩ => by
    obtain ⟨ms, e0, z⟩ := onMl_of z
    obtain ⟨a, g1⟩ := slot_ref rel e0
    refine ⟨.ref a, g1, ρ, F, rel, hi.mono (fun kd hk v2 H3 F3 fk x3 rk _ _ => ?_) (fun _ q => exq (as := []) (D := D) rel q) z⟩
    obtain ⟨k, ek, jj, l, e1, e2, q⟩ := onI_of hk rk
    obtain ⟨vs, b, us, f1, f2, f3, f4, f5, f6⟩ := ml_later rel x3 e0 g1 e2
    refine .inl ⟨a, vs, k, .ref b, rfl, ek, SqL.of f1, atI_ix (by rw [f2]; exact e1) f3, .inl ⟨rfl, us, SqL.of f4⟩, ρ, F3, rel.ext x3, he.mono (fun m hm => ?_) (fun _ q => exq (as := []) (D := D) (rel.ext x3) q) q⟩
    obtain ⟨y, hy, hl, q⟩ := hm
    intro v H4 F4 fp x4 r hf hn
    have x5 := ext_frz x4 r hf
    have ry := r.frz (frzH_frz fun b hb => (r.own b hb).1) hy
    generalize frzH F4 H4 fp = F5 at x5 ry
    obtain ⟨vs', b', us', f1', f2', f3', f4', f5', f6'⟩ := ml_later rel (x3.trans x5) e0 g1 e2
    have hvs : vs' = vs := by have := x5.h _ _ f1; rw [f1'] at this; cases this; rfl
    subst hvs
    rw [f3] at f3'; cases f3'
    exact ⟨b, us', v, rfl, rfl, f4', lt_line (by rw [← f5'.length]; exact hl), q σ F5 _ (x3.trans x5).f (f6' _ _ (f5'.append (.cons ry .nil))) .refl⟩
end
end RT
namespace RT
open PySem PySem.Spec PyProof.Rows L2
section
variable {X : Cx} {K : PySem.W.Frag} {F F' H H' H0 F0 : Hp} {ρ : Sg} {σ : L2.St} {ts : List M} {tv : List V}
variable {elt tg iter : Expr} {ifs : List Expr} {scope : Scope} {own : List (Str × Nat)} {pos : Pos} {wi : TIW} {g : TGD} {tt : TTW} {te : TW} {as : List Nat}
/-! ### comprehensions of lists of one's own -/
def wCmpM (g : TGD) (tt : TTW) (te : TW) (ρ : Sg) : List D → (List M → Prop) → Prop
  | [], Q => Q []
  | x :: xs, Q => g x ρ (fun ρ2 => tt ρ2 (fun b => if b = true then te ρ2 (fun m => m.ret = true ∧ wCmpM g tt te ρ xs (fun ys => Q (m :: ys))) (fun _ => False) else wCmpM g tt te ρ xs Q) (fun _ => False))
def wLcM (wi : TIW) (g : TGD) (tt : TTW) (te : TW) (vs : List Nat) : TW := fun ρ Q E => wi ρ (fun l => wCmpM g tt te (wipeR ρ vs) l (fun ys => Q (.ml .o ys))) E
theorem wCmpM_mono (hg : ∀ (s : Shared) (H : Hp) (C : Addr) (cl : List (Str × Addr)) (fp : List Addr), QG (Blk X scope s H C cl fp) tg as g) (ht : ∀ (s : Shared) (H : Hp) (C : Addr) (cl : List (Str × Addr)) (fp : List Addr), QTs (Blk X scope s H C cl fp) ifs tt)
    (he : ∀ (s : Shared) (H : Hp) (C : Addr) (cl : List (Str × Addr)) (fp : List Addr), QE (Blk X scope s H C cl fp) elt te) (s : Shared) (Hb : Hp) : ∀ (xs : List D) {Q Q' : List M → Prop}, (∀ ys, Q ys → Q' ys) → wCmpM g tt te ρ xs Q → wCmpM g tt te ρ xs Q'
  | [], Q, Q', hq, h => hq _ h
  | x :: xs, Q, Q', hq, h => by
    unfold wCmpM at h ⊢
    refine (hg s Hb 0 [] []).mono (fun ρ2 h2 => (ht s Hb 0 [] []).mono (fun b h3 => ite_mono h3 (fun z => (he s Hb 0 [] []).mono (fun m ⟨e, z⟩ => ⟨e, wCmpM_mono hg ht he s Hb xs (fun ys => hq _) z⟩) (fun _ z => z) z) (fun z => wCmpM_mono hg ht he s Hb xs hq z)) (fun _ z => z) h2) h
theorem RepMs.snoc : ∀ {ms : List M} {vs : List V} {f : List Addr} {m : M} {v : V} {fp : List Addr}, RepMs K F H0 H ms vs f → RepM K F H0 H m v fp → RepMs K F H0 H (ms ++ [m]) (vs ++ [v]) (f ++ fp)
  | [], vs, f, m, v, fp, r, q => by
    unfold RepMs at r
    rw [r.1, r.2]
    show RepMs K F H0 H [m] [v] fp
    unfold RepMs
    exact ⟨v, [], fp, [], rfl, (List.append_nil _).symm, q, by unfold RepMs; exact ⟨rfl, rfl⟩⟩
  | y :: ys, vs, f, m, v, fp, r, q => by
    unfold RepMs at r
    obtain ⟨u, w, f1, f2, e1, e2, q1, z⟩ := r
    subst e1; subst e2
    show RepMs K F H0 H (y :: (ys ++ [m])) (u :: (w ++ [v])) (f1 ++ f2 ++ fp)
    unfold RepMs
    exact ⟨u, w ++ [v], f1, f2 ++ fp, rfl, List.append_assoc _ _ _, q1, RepMs.snoc z q⟩
theorem rets_snoc : ∀ {ms : List M} {m : M}, M.rets ms = true → m.ret = true → M.rets (ms ++ [m]) = true
  | [], m, _, h => by show M.rets [m] = true; unfold M.rets M.rets; rw [h]; rfl
  | y :: ys, m, h, hm => by
    unfold M.rets at h; rw [Bool.and_eq_true] at h
    show M.rets (y :: (ys ++ [m])) = true
    unfold M.rets; rw [Bool.and_eq_true]; exact ⟨h.1, rets_snoc h.2 hm⟩
theorem stos_of_rets {ms : List M} (h : M.rets ms = true) : M.stos ms = true := by
  have : (M.mt ms).ret = true := by unfold M.ret; exact h
  have := M.sto_of_ret this
  unfold M.sto at this; exact this
theorem lc_runM {W : WX} {Qh : VK} (hi : QI X true tg iter wi) (hg : ∀ (s : Shared) (H : Hp) (C : Addr) (cl : List (Str × Addr)) (fp : List Addr), QG (Blk X scope s H C cl fp) tg as g) (ht : ∀ (s : Shared) (H : Hp) (C : Addr) (cl : List (Str × Addr)) (fp : List Addr), QTs (Blk X scope s H C cl fp) ifs tt)
    (he : ∀ (s : Shared) (H : Hp) (C : Addr) (cl : List (Str × Addr)) (fp : List Addr), QE (Blk X scope s H C cl fp) elt te) {vs : List Nat} (hv : ∀ i ∈ as, i ∈ vs) (rel : Rel X.K F0 H0 ρ σ [] [] F H) {E : XP} (hE : ∀ x, E x → XQ X W σ F H x)
    (h : wLcM wi g tt te vs ρ (KQ X.K H0 F H Qh) E) (s0 : Shared) :
    tLc (liftI X true W F0 H0 wi) (liftG X F0 H0 as g) (liftT X (fun _ _ _ _ => False) F0 H0 tt) (liftE X (fun _ _ _ _ => False) F0 H0 te) vs σ H Qh := by
  refine ⟨ρ, F, rel, hi.mono (fun l hl hz J F1 H1 x1 ok => ?_) hE h⟩
  intro D hD
  have hDH : H D = none := x1.h.free hD
  refine ⟨fun i m H' => m = l.length - i ∧ i ≤ l.length ∧ ∃ F' acc fp, (Same F1 F' ∧ Same H1 H') ∧ Ext F H F' H' ∧ acc.length ≤ i ∧ M.rets acc = true ∧ RepM X.K F' H H' (.ml .o acc) (.ref D) fp ∧ fp.Nodup ∧ wCmpM g tt te (wipeR ρ vs) (l.drop i) (fun ys => KQ X.K H0 F H Qh (.ml .o (acc ++ ys))),
    ⟨l.length, by simp, Nat.zero_le _, F1, [], [D], ⟨.refl _, (Ext.mine x1.s hD).h⟩, x1.trans (Ext.mine x1.s hD), Nat.le_refl _, by unfold M.rets; rfl, ?_, List.nodup_cons.mpr ⟨(by simp), List.nodup_nil⟩, by simpa using hl⟩, ?_⟩
  · unfold RepM
    exact ⟨D, [], [], rfl, ⟨rfl, upd_same, x1.s.free hD, hDH⟩, by unfold RepMs; exact ⟨rfl, rfl⟩⟩
  rintro i m H' ⟨rfl, hi', F', acc, fpA, ⟨s1, sh⟩, x2, ha, hret, rA, nA, q⟩
  have rel' := rel.ext x2
  by_cases hlt : i < l.length
  · obtain ⟨x, hx⟩ : ∃ x, l[i]? = some x := ⟨l[i], List.getElem?_eq_getElem hlt⟩
    have hd : l.drop i = x :: l.drop (i + 1) := by
      rw [List.drop_eq_getElem_cons hlt]
      have := (List.getElem?_eq_some_iff.mp hx).2
      rw [this]
    rw [hd] at q
    unfold wCmpM at q
    obtain ⟨hgo, hy⟩ := ok.go i x hx F' H' s1 rel'.s sh
    refine .inr ⟨hgo, fun H2 => ∃ F2 acc2 fp2, (Same F1 F2 ∧ Same H1 H2) ∧ Ext F H F2 H2 ∧ acc2.length ≤ i + 1 ∧ M.rets acc2 = true ∧ RepM X.K F2 H H2 (.ml .o acc2) (.ref D) fp2 ∧ fp2.Nodup ∧ wCmpM g tt te (wipeR ρ vs) (l.drop (i + 1)) (fun ys => KQ X.K H0 F H Qh (.ml .o (acc2 ++ ys))), fun H2 h2 => ⟨l.length - (i + 1), by omega, rfl, hlt, h2⟩, fun v H2 yy => ?_⟩
    obtain ⟨F2, x3, r2⟩ := hy v H2 yy
    refine ⟨wipeR ρ vs, F2, x, (rel'.ext x3).wipe vs, r2, (hg s0 H 0 [] []).mono (fun ρ3 h3 σ3 rel3 f3 => ⟨wipe_frm f3 hv, ?_⟩) q⟩
    refine ⟨ρ3, F2, rel3, (ht s0 H 0 [] []).mono (fun b hb H3 F3 x4 => ?_) (fun _ z => z.elim) h3⟩
    refine ite_mono hb (fun z => ?_) (fun z => ?_)
    · refine ⟨ρ3, F3, rel3.ext x4, (he s0 H 0 [] []).mono (fun m hm => ?_) (fun _ z => z.elim) z⟩
      intro yv H4 F4 fp x5 rm hf hn
      obtain ⟨hmr, q2⟩ := hm
      have x35 := (x3.trans x4).trans x5
      have rA4 := rA.ext x35
      have xA := x2.trans x35
      have rm' := rm.re (H1 := H) hmr fun b hb => ((x2.trans x3).trans x4).h.free (hf b hb)
      have ownA := rA4.own
      unfold RepM at rA4
      obtain ⟨a', us, f, e3, ⟨e4, h4, hF4, _⟩, rI⟩ := rA4
      cases e3
      subst e4
      have hD3 : ∃ o, H3 D = some o := by
        have := (rA.ext (x3.trans x4)).own D List.mem_cons_self
        exact this.2.1
      have nfD : D ∉ fp := fun hb => by
        obtain ⟨o, ho⟩ := hD3
        rw [hf D hb] at ho; cases ho
      have nA' := List.nodup_cons.mp nA
      refine ⟨us, h4, by rw [sizeLine_eq, ← rI.length]; omega, F4, acc ++ [m], D :: (f ++ fp), ⟨((s1.trans x3.f).trans x4.f).trans x5.f, fun b o hb => by rw [L2.upd_ne (ne_of_none hb hD)]; exact (((sh.trans x3.h).trans x4.h).trans x5.h) _ _ hb⟩, xA.put hDH hF4, by rw [List.length_append]; simp; omega, rets_snoc hret hmr, ?_, ?_, ?_⟩
      · unfold RepM
        refine ⟨D, us ++ [yv], f ++ fp, rfl, ⟨rfl, upd_same, hF4, hDH⟩, RepMs.snoc (rI.keep (stos_of_rets hret) fun b hb => upd_ne fun z => nA'.1 (by rw [← z]; exact hb)) (rm'.keep (M.sto_of_ret hmr) fun b hb => upd_ne fun z => nfD (by rw [← z]; exact hb))⟩
      · refine List.nodup_cons.mpr ⟨fun hb => ?_, List.nodup_append.mpr ⟨nA'.2, hn, fun a ha b hb e => ?_⟩⟩
        · rcases List.mem_append.mp hb with hb | hb
          · exact nA'.1 hb
          · exact nfD hb
        · subst e
          have := ((rA.ext (x3.trans x4)).own a (List.mem_cons_of_mem _ ha)).2.1
          obtain ⟨o, ho⟩ := this
          rw [hf a hb] at ho; cases ho
      · refine wCmpM_mono hg ht he s0 H _ (fun ys z => ?_) q2
        rw [List.append_assoc]; exact z
    · exact ⟨F3, acc, fpA, ⟨(s1.trans x3.f).trans x4.f, (sh.trans x3.h).trans x4.h⟩, (x2.trans x3).trans x4, by omega, hret, rA.ext (x3.trans x4), nA, z⟩
  · have e : i = l.length := by omega
    subst e
    rw [List.drop_length] at q
    unfold wCmpM at q
    rw [List.append_nil] at q
    refine .inl ⟨ok.stop F' H' s1 rel'.s sh, ?_⟩
    have own := rA.own
    exact q (.ref D) H' F' fpA x2 (rA.re (by unfold M.ret; rw [hret]; rfl) fun b hb => rel.e.h.free (own b hb).2.2) (fun b hb => (own b hb).2.2) nA
theorem q_lcM (s0 : Shared) (hc : X.calm = true) (hN : X.N.Nodup) (hi : QI X true tg iter wi) (ok : BlkOk X.N X.env.scope scope own) (hg : ∀ (s : Shared) (H : Hp) (C : Addr) (cl : List (Str × Addr)) (fp : List Addr), QG (Blk X scope s H C cl fp) tg as g)
    (ht : ∀ (s : Shared) (H : Hp) (C : Addr) (cl : List (Str × Addr)) (fp : List Addr), QTs (Blk X scope s H C cl fp) ifs tt) (he : ∀ (s : Shared) (H : Hp) (C : Addr) (cl : List (Str × Addr)) (fp : List Addr), QE (Blk X scope s H C cl fp) elt te)
    (hv : ∀ i ∈ as, i ∈ own.map (·.2) := by decide) (hs : ∀ x, foldedSetIterable iter X.env x = pure x := by intro _; rfl) : QE X (.ListComp elt [⟨tg, iter, ifs, 0⟩] scope pos) (wLcM wi g tt te (own.map (·.2))) where
  mono := fun hq h z => hi.mono (fun l q => wCmpM_mono hg ht he s0 (fun _ => none) l (fun ys => hq _) q) h z
  run := fun W F0 H0 tk => peImp (pe_lc hc hN (hi.run W F0 H0 tk) ok (fun s H C cl fp => (hg s H C cl fp).run F0 H0) (fun s H C cl fp => (ht s H C cl fp).run _ F0 H0 takes00) (fun s H C cl fp => (he s H C cl fp).run _ F0 H0 takes00) hs)
    fun σ H Qh ⟨ρ, F, rel, z⟩ => lc_runM hi hg ht he hv rel (fun _ q => q) z s0
theorem s_asgLcM (s0 : Shared) (i : Nat) {y : Str} {py spos : Pos} (hc : X.calm = true) (hN : X.N.Nodup) (hi : QI X true tg iter wi) (ok : BlkOk X.N X.env.scope scope own) (hg : ∀ (s : Shared) (H : Hp) (C : Addr) (cl : List (Str × Addr)) (fp : List Addr), QG (Blk X scope s H C cl fp) tg as g)
    (ht : ∀ (s : Shared) (H : Hp) (C : Addr) (cl : List (Str × Addr)) (fp : List Addr), QTs (Blk X scope s H C cl fp) ifs tt) (he : ∀ (s : Shared) (H : Hp) (C : Addr) (cl : List (Str × Addr)) (fp : List Addr), QE (Blk X scope s H C cl fp) elt te)
    (hy : X.N[i]? = some y := by rfl) (hyl : X.env.scope.names.lookup y = some .local := by rfl) (hsw : swapsWith (.ListComp elt [⟨tg, iter, ifs, 0⟩] scope pos) (some (.Name y py)) spos.line X.env = pure true := by exact sw_true rfl rfl rfl (by decide +kernel))
    (hv : ∀ i ∈ as, i ∈ own.map (·.2) := by decide) (hs : ∀ x, foldedSetIterable iter X.env x = pure x := by intro _; rfl) : QS X (.Assign [.Name y py] (.ListComp elt [⟨tg, iter, ifs, 0⟩] scope pos) spos) [i] (wAsg i (wLcM wi g tt te (own.map (·.2)))) where
  mono := fun l h => hi.mono (fun xs q => wCmpM_mono hg ht he s0 (fun _ => none) xs (fun ys q => ⟨q.1, l.nx _ q.2⟩) q) (l.ex _) h
  run := fun W F0 H0 tk => psImp (ps_setLc hc hN hy hyl hsw (hi.run W F0 H0 tk) ok (fun s H C cl fp => (hg s H C cl fp).run F0 H0) (fun s H C cl fp => (ht s H C cl fp).run _ F0 H0 takes00) (fun s H C cl fp => (he s H C cl fp).run _ F0 H0 takes00) hs)
    fun D σ H ⟨ρ, F, rel, z⟩ => by
      refine lc_runM (Qh := fun x H1 => D.nx (σ.set i (some x)) H1) hi hg ht he hv rel (E := XQ X W σ F H) (fun _ q => q) ?_ s0
      refine hi.mono (fun xs q => wCmpM_mono hg ht he s0 (fun _ => none) xs (fun ys q => ?_) q) (fun _ q => exq rel q) z
      intro v H1 F1 fp x r hf hn
      exact q.2 _ F1 H1 x.f ((rel.push x r hf hn).set q.1 i) .set
/-! ### ghosts: the rows of a list of one's own become pure -/
theorem Rel.freezeSub {i : Nat} {m m' : M} (r : Rel K F0 H0 ρ σ ts tv F H) (h : ρ[i]? = some (some m)) (hs : m'.sto = true)
    (hm : ∀ v fp, RepM K F H0 H m v fp → fp.Nodup → ∃ f fp', (∀ a ∈ f, a ∈ fp) ∧ (∀ a ∈ fp', a ∈ fp) ∧ (∀ a ∈ f, a ∉ fp') ∧ fp'.Nodup ∧ ∀ F', Frz F F' H f → (∀ a ∈ fp', F' a = none) → RepM K F' H0 H m' v fp') :
    ∃ F', Same F F' ∧ Rel K F0 H0 (ρ.set i (some m')) σ ts tv F' H := by
  obtain ⟨e, l, fs, ft, n1, n2, ow, dj, dt, rt, sl⟩ := r
  obtain ⟨v, h1, h2, h3⟩ := sl i m h
  obtain ⟨f, fp', s1, s2, s3, n', h4⟩ := hm v (fs i) h3 (n2 i)
  have owf : ∀ a ∈ f, OwnA F H0 H a := fun a ha => ow i a (s1 a ha)
  have hn : ∀ a ∈ f, F a = none := fun a ha => (owf a ha).1
  have q' := h4 (frzH F H f) (frzH_frz hn) fun a ha => by rw [frzH_out fun z => s3 a z ha]; exact (ow i a (s2 a ha)).1
  refine ⟨frzH F H f, frzH_same hn, frzH_ext e owf, by rw [List.length_set, l], fun j => if j = i then fp' else fs j, ft, n1, fun j => ?_, fun j a ha => ?_, fun j k a ha ha' => ?_, fun j a ha => ?_, rt.mono (frzH_gr hn fun a ha => ⟨(rt.own a ha).1, fun z => dt i a (s1 a z) ha⟩), fun j m2 h' => ?_⟩
  · dsimp only; split
    · exact n'
    · exact n2 j
  · dsimp only at ha; split at ha
    · exact frzH_own (ow i a (s2 a ha)) fun z => s3 a z ha
    · rename_i hj
      exact frzH_own (ow j a ha) fun z => hj (dj j i a ha (s1 a z))
  · dsimp only at ha ha'
    split at ha <;> split at ha'
    · rename_i a1 a2; rw [a1, a2]
    · rename_i a1 a2; exact absurd (dj i k a (s2 a ha) ha').symm a2
    · rename_i a1 a2; exact absurd (dj j i a ha (s2 a ha')) a1
    · exact dj j k a ha ha'
  · dsimp only at ha; split at ha
    · exact dt i a (s2 a ha)
    · exact dt j a ha
  · dsimp only
    by_cases hj : j = i
    · subst hj
      rw [if_pos rfl]
      by_cases hl : j < ρ.length
      · rw [List.getElem?_set_self hl] at h'
        cases h'
        exact ⟨v, h1, hs, q'⟩
      · rw [List.getElem?_eq_none (by simpa using hl)] at h'
        cases h'
    · rw [if_neg hj]
      rw [List.getElem?_set_ne (Ne.symm hj)] at h'
      obtain ⟨v2, y1, y2, y3⟩ := sl j m2 h'
      exact ⟨v2, y1, y2, y3.mono (frzH_gr hn fun a ha => ⟨(ow j a ha).1, fun z => hj (dj j i a ha (s1 a z))⟩)⟩
/-- the rows become pure: of a list, of a dict -/
def M.frzIn : M → Option M
  | .ml .o l => (M.frzs l).map (.fl .o)
  | .md .o ks l => (M.frzs l).map fun ds => .fd .o (ks.zip ds)
  | _ => none
theorem frzs_len : ∀ {l : List M} {ds : List D}, M.frzs l = some ds → ds.length = l.length
  | [], ds, e => by unfold M.frzs at e; cases e; rfl
  | m :: ms, ds, e => by
    unfold M.frzs at e
    cases q1 : m.frz with
    | none => rw [q1] at e; cases e
    | some x1 =>
      cases q2 : M.frzs ms with
      | none => rw [q1, q2] at e; cases e
      | some xs =>
        rw [q1, q2] at e; cases e
        rw [List.length_cons, List.length_cons, frzs_len q2]
theorem Rel.freezeIn {i : Nat} {m m' : M} (r : Rel K F0 H0 ρ σ ts tv F H) (h : ρ[i]? = some (some m)) (e : m.frzIn = some m') : ∃ F', Same F F' ∧ Rel K F0 H0 (ρ.set i (some m')) σ ts tv F' H := by
  unfold M.frzIn at e
  split at e
  · rename_i l
    cases q : M.frzs l with
    | none => rw [q] at e; cases e
    | some ds =>
      rw [q] at e; cases e
      refine r.freezeSub h rfl fun v fp rm n => ?_
      unfold RepM at rm
      obtain ⟨a, vs, f, e1, ⟨e2, g1, g2, g3⟩, rI⟩ := rm
      subst e1; subst e2
      have n' := List.nodup_cons.mp n
      refine ⟨f, [a], fun b hb => List.mem_cons_of_mem _ hb, fun b hb => by rw [List.mem_singleton.mp hb]; exact List.mem_cons_self, fun b hb z => n'.1 (by rw [← List.mem_singleton.mp z]; exact hb), List.nodup_cons.mpr ⟨(by simp), List.nodup_nil⟩, fun F' zf hf => ?_⟩
      unfold RepM
      exact ⟨a, vs, rfl, ⟨rfl, g1, hf a (List.mem_singleton.mpr rfl), g3⟩, rI.frz zf q⟩
  · rename_i ks l
    cases q : M.frzs l with
    | none => rw [q] at e; cases e
    | some ds =>
      rw [q] at e; cases e
      refine r.freezeSub h rfl fun v fp rm n => ?_
      unfold RepM at rm
      obtain ⟨a, kvs, f, e1, ⟨e2, g1, g2, g3⟩, ek, rI⟩ := rm
      subst e1; subst e2
      have n' := List.nodup_cons.mp n
      refine ⟨f, [a], fun b hb => List.mem_cons_of_mem _ hb, fun b hb => by rw [List.mem_singleton.mp hb]; exact List.mem_cons_self, fun b hb z => n'.1 (by rw [← List.mem_singleton.mp z]; exact hb), List.nodup_cons.mpr ⟨(by simp), List.nodup_nil⟩, fun F' zf hf => ?_⟩
      have hl : ks.length = ds.length := by
        rw [frzs_len q, rI.length, ← ek, List.length_map, List.length_map]
      unfold RepM
      refine ⟨a, kvs, rfl, ⟨rfl, g1, hf a (List.mem_singleton.mpr rfl), g3⟩, ?_, ?_⟩
      · rw [ek, List.map_fst_zip (by omega)]
      · rw [List.map_snd_zip (by omega)]
        exact rI.frz zf q
  · cases e
def gFrzIn (i : Nat) (u : TSW) : TSW := fun D ρ => ∃ m, ρ[i]? = some (some m) ∧ ∃ m', m.frzIn = some m' ∧ u D (ρ.set i (some m'))
def gFrz (i : Nat) (u : TSW) : TSW := fun D ρ => ∃ m, ρ[i]? = some (some m) ∧ ∃ x, m.frz = some x ∧ u D (ρ.set i (some (.d x)))
theorem ss_frzIn {sts : List Stmt} {u : TSW} (i : Nat) (h2 : QSs X sts as u) : QSs X sts as (gFrzIn i u) where
  mono := fun l ⟨m, e, x, f, z⟩ => ⟨m, e, x, f, h2.mono l z⟩
  run := fun W F0 H0 tk => pssImp (h2.run W F0 H0 tk) fun D σ H ⟨ρ, F, rel, m, e, x, f, z⟩ => by
    obtain ⟨F', s, rel'⟩ := rel.freezeIn e f
    exact ⟨_, F', rel', h2.mono (endsOf_le (bs := []) s .refl fun _ z => nomatch z) z⟩
theorem ss_frzG {sts : List Stmt} {u : TSW} (i : Nat) (h2 : QSs X sts as u) : QSs X sts as (gFrz i u) where
  mono := fun l ⟨m, e, x, f, z⟩ => ⟨m, e, x, f, h2.mono l z⟩
  run := fun W F0 H0 tk => pssImp ((ss_frz i h2).run W F0 H0 tk) fun D σ H ⟨ρ, F, rel, m, e, x, f, z⟩ => ⟨ρ, F, rel, m, x, e, f, z⟩
end
end RT
namespace RT
open PySem PySem.Spec PyProof.Rows L2
section
variable {Y : Cx} {scO : Scope} {s1 : Shared} {H1 : Hp} {C1 : Addr} {cl1 : List (Str × Addr)} {fp1 : List Addr}
variable {elt tg iter : Expr} {ifs : List Expr} {scope : Scope} {own : List (Str × Nat)} {pos : Pos} {wi : TIW} {g : TGD} {tt : TTW} {te : TW} {as : List Nat}
/-- comprehensions within comprehensions -/
theorem q_lcN {scY : Scope} (s0 : Shared) (hc : (Blk Y scO s1 H1 C1 cl1 fp1).calm = true) (hN : Y.N.Nodup) (hi : QI (Blk Y scO s1 H1 C1 cl1 fp1) true tg iter wi) (ok : BlkOk Y.N (relS scO scY) scope own) (hg : ∀ (s : Shared) (H : Hp) (C : Addr) (cl : List (Str × Addr)) (fp : List Addr), QG (Blk (Blk Y scO s1 H1 C1 cl1 fp1) scope s H C cl fp) tg as g)
    (ht : ∀ (s : Shared) (H : Hp) (C : Addr) (cl : List (Str × Addr)) (fp : List Addr), QTs (Blk (Blk Y scO s1 H1 C1 cl1 fp1) scope s H C cl fp) ifs tt) (he : ∀ (s : Shared) (H : Hp) (C : Addr) (cl : List (Str × Addr)) (fp : List Addr), QE (Blk (Blk Y scO s1 H1 C1 cl1 fp1) scope s H C cl fp) elt te)
    (hY : Y.env.scope = scY := by rfl) (hv : ∀ i ∈ as, i ∈ own.map (·.2) := by decide) (hs : ∀ x, foldedSetIterable iter (Blk Y scO s1 H1 C1 cl1 fp1).env x = pure x := by intro _; rfl) : QE (Blk Y scO s1 H1 C1 cl1 fp1) (.ListComp elt [⟨tg, iter, ifs, 0⟩] scope pos) (wLc wi g tt te (own.map (·.2)))   := by
  subst hY
  exact q_lc (X := Blk Y scO s1 H1 C1 cl1 fp1) s0 hc hN hi ok hg ht he hv hs
end
theorem locks_rows {α : Type} (g : α → List D) : ∀ T : List α, M.locks (T.map fun r => M.fl .o (g r)) = T.map fun r => M.fl .r (g r)
  | [] => rfl
  | r :: T => by
    rw [List.map_cons, List.map_cons]
    show M.lock _ :: M.locks _ = _
    rw [locks_rows g T]; rfl
theorem toPs_rows {α : Type} (g : α → List D) (k : Md) : ∀ T : List α, M.toPs (T.map fun r => M.fl k (g r)) = T.map fun r => M.fl .p (g r)
  | [] => rfl
  | r :: T => by
    rw [List.map_cons, List.map_cons]
    show M.toP _ :: M.toPs _ = _
    rw [toPs_rows g k T]; rfl
theorem frzs_rows {α : Type} (g : α → List D) : ∀ T : List α, M.frzs (T.map fun r => M.fl .o (g r)) = some (T.map fun r => .lst (g r))
  | [] => rfl
  | r :: T => by
    rw [List.map_cons, List.map_cons]
    unfold M.frzs
    rw [frzs_rows g T]; rfl
theorem rets_rows {α : Type} (g : α → List D) : ∀ T : List α, M.rets (T.map fun r => M.fl .o (g r)) = true
  | [] => rfl
  | r :: T => by
    rw [List.map_cons]
    unfold M.rets
    rw [rets_rows g T]; rfl
theorem stos_rows {α : Type} (g : α → List D) (T : List α) : M.stos (T.map fun r => M.fl .o (g r)) = true := stos_of_rets (rets_rows g T)
mutual
def D.dp : D → Nat
  | .tup l => D.dps l + 1
  | .lst l => D.dps l + 1
  | .scr l => D.dps l + 1
  | .exc _ _ _ => 1000
  | .dct _ _ => 1000
  | .obj _ _ _ => 1000
  | .fn _ => 1000
  | .str x => if PyData.canLay0 (.str x) = true then 0 else 1000
  | .non => 0
  | .bl _ => 0
  | .int _ => 0
def D.dps : List D → Nat
  | [] => 0
  | x :: xs => max (D.dp x) (D.dps xs)
end
mutual
theorem lay_all : ∀ x : D, x.dp ≤ 100 → PyData.canLay0 x.py = true ∧ PyData.depth x.py ≤ x.dp
  | .non, _ => ⟨rfl, by unfold D.py PyData.depth; omega⟩
  | .bl b, _ => ⟨rfl, by unfold D.py PyData.depth; omega⟩
  | .int i, _ => ⟨rfl, by unfold D.py PyData.depth; omega⟩
  | .str x, h => by
    unfold D.dp at h
    by_cases c : PyData.canLay0 (.str x) = true
    · exact ⟨c, by unfold D.py PyData.depth; omega⟩
    · rw [if_neg c] at h; omega
  | .tup l, h => by
    unfold D.dp at h
    have := lay_alls l (by omega)
    unfold D.py PyData.canLay0 PyData.depth D.dp
    exact ⟨this.1, by omega⟩
  | .lst l, h => by
    unfold D.dp at h
    have := lay_alls l (by omega)
    unfold D.py PyData.canLay0 PyData.depth D.dp
    exact ⟨this.1, by omega⟩
  | .scr l, h => by
    unfold D.dp at h
    have := lay_alls l (by omega)
    unfold D.py PyData.canLay0 PyData.depth D.dp
    exact ⟨this.1, by omega⟩
  | .exc _ _ _, h => by unfold D.dp at h; omega
  | .dct _ _, h => by unfold D.dp at h; omega
  | .obj _ _ _, h => by unfold D.dp at h; omega
  | .fn _, h => by unfold D.dp at h; omega
theorem lay_alls : ∀ l : List D, D.dps l ≤ 100 → PyData.canLayAll0 (D.pys l) = true ∧ PyData.depthAll (D.pys l) ≤ D.dps l
  | [], _ => ⟨rfl, by unfold D.pys PyData.depthAll D.dps; omega⟩
  | x :: xs, h => by
    unfold D.dps at h
    have h1 := lay_all x (by omega)
    have h2 := lay_alls xs (by omega)
    unfold D.pys PyData.canLayAll0 PyData.depthAll D.dps
    refine ⟨by rw [h1.1, h2.1]; rfl, by omega⟩
end
theorem ok_dp {x : D} (h : x.dp ≤ 30) : D.ok x := by
  have := lay_all x (by omega)
  unfold D.ok SeqAt.shaped
  rw [this.1, Bool.true_and, decide_eq_true_iff]; omega
theorem dps_le {k : Nat} : ∀ {l : List D}, (∀ x ∈ l, x.dp ≤ k) → D.dps l ≤ k
  | [], _ => Nat.zero_le _
  | x :: xs, h => by
    unfold D.dps
    have h1 := h x List.mem_cons_self
    have h2 := dps_le fun y hy => h y (List.mem_cons_of_mem _ hy)
    omega
theorem dps_map {α : Type} {f : α → D} {l : List α} {k : Nat} (h : ∀ x, (f x).dp ≤ k) : D.dps (l.map f) ≤ k := dps_le fun x hx => by
  obtain ⟨y, _, e⟩ := List.mem_map.mp hx
  rw [← e]; exact h y
theorem dp_tup {l : List D} {k : Nat} (h : D.dps l ≤ k) : (D.tup l).dp ≤ k + 1 := by unfold D.dp; omega
theorem dp_lst {l : List D} {k : Nat} (h : D.dps l ≤ k) : (D.lst l).dp ≤ k + 1 := by unfold D.dp; omega
theorem dp_nL (l : List Nat) : D.dps (nL l) ≤ 0 := dps_map fun _ => Nat.zero_le _
/-- a comprehension, any target -/
theorem cmp_any {α : Type} {g : TGD} {te : TW} {ρ : Sg} {inj f : α → D} : ∀ {l : List α} {Q : List D → Prop}, (∀ x ∈ l, ∀ P : M → Prop, (∀ m, m.frz = some (f x) → P m) → g (inj x) ρ (fun ρ2 => te ρ2 P (fun _ => False))) → (∀ x ρ (Q Q' : Sg → Prop), (∀ r, Q r → Q' r) → g x ρ Q → g x ρ Q') → Q (l.map f) → wCmp g tYesW te ρ (l.map inj) Q
  | [], Q, _, _, q => q
  | x :: l, Q, h, hm, q => by
    rw [List.map_cons]
    unfold wCmp
    refine hm _ _ _ _ (fun r z => ?_) (h x List.mem_cons_self (fun m => ∃ y, m.frz = some y ∧ wCmp g tYesW te ρ (l.map inj) fun ys => Q (y :: ys)) fun m hm' => ⟨f x, hm', cmp_any (fun y hy => h y (List.mem_cons_of_mem _ hy)) hm q⟩)
    simp only [tYesW, if_true]
    exact z
theorem gm_nm (i : Nat) : ∀ x ρ (Q Q' : Sg → Prop), (∀ r, Q r → Q' r) → gNm i x ρ Q → gNm i x ρ Q' := fun _ _ _ _ h q => h _ q
theorem gms_nil : ∀ l ρ (Q Q' : Sg → Prop), (∀ r, Q r → Q' r) → gNilD l ρ Q → gNilD l ρ Q' := fun l _ _ _ h q => by
  unfold gNilD at q ⊢; split at q <;> first | exact h _ q | exact q
theorem gms_cons {g : TGD} {gs : TGDs} (h1 : ∀ x ρ (Q Q' : Sg → Prop), (∀ r, Q r → Q' r) → g x ρ Q → g x ρ Q') (h2 : ∀ x ρ (Q Q' : Sg → Prop), (∀ r, Q r → Q' r) → gs x ρ Q → gs x ρ Q') : ∀ l ρ (Q Q' : Sg → Prop), (∀ r, Q r → Q' r) → gConsD g gs l ρ Q → gConsD g gs l ρ Q' := fun l _ _ _ h q => by
  unfold gConsD at q ⊢; split at q
  · exact h1 _ _ _ _ (fun r z => h2 _ _ _ _ h z) q
  · exact q
theorem gm_tp {n : Nat} {gs : TGDs} (h2 : ∀ x ρ (Q Q' : Sg → Prop), (∀ r, Q r → Q' r) → gs x ρ Q → gs x ρ Q') : ∀ l ρ (Q Q' : Sg → Prop), (∀ r, Q r → Q' r) → gTpD n gs l ρ Q → gTpD n gs l ρ Q' := fun l _ _ _ h q => by
  unfold gTpD at q ⊢; split at q
  · exact ⟨q.1, h2 _ _ _ _ h q.2⟩
  · exact ⟨q.1, h2 _ _ _ _ h q.2⟩
  · exact q
theorem enumF_range (inj : Nat → D) : ∀ (n k : Nat), enumF k ((List.range' k n).map inj) = (List.range' k n).map fun i => .tup [nD i, inj i]
  | 0, _ => rfl
  | n + 1, k => by rw [List.range'_succ, List.map_cons, List.map_cons]; unfold enumF; rw [enumF_range inj n (k + 1)]
theorem map_range {α : Type} (f : α → D) (d : α) : ∀ (l : List α), l.map f = (List.range' 0 l.length).map fun i => f ((l[i]?).getD d) := fun l => by
  apply List.ext_getElem?
  intro i
  rw [List.getElem?_map, List.getElem?_map, ← List.range_eq_range']
  by_cases hi : i < l.length
  · rw [List.getElem?_range hi, List.getElem?_eq_getElem hi]; simp [hi]
  · rw [List.getElem?_eq_none (by omega), List.getElem?_eq_none (by rw [List.length_range]; omega)]; rfl
theorem enumD_map {α : Type} (f : α → D) (d : α) (l : List α) : enumD (l.map f) = (List.range l.length).map fun i => .tup [nD i, f ((l[i]?).getD d)] := by
  rw [enumD_F, map_range f d l, enumF_range, List.range_eq_range']
mutual
theorem eqvr : ∀ x : RT.D, PyData.eqv x.py x.py = true
  | .non => rfl
  | .bl b => by unfold D.py PyData.eqv; exact beq_self_eq_true b
  | .int i => by unfold D.py PyData.eqv; exact beq_self_eq_true i
  | .str x => by unfold D.py PyData.eqv; exact beq_self_eq_true x
  | .tup l => by unfold D.py PyData.eqv; exact eqvsr l
  | .lst l => by unfold D.py PyData.eqv; exact eqvsr l
  | .scr l => by unfold D.py PyData.eqv; exact eqvsr l
  | .exc _ _ _ => by unfold D.py PyData.eqv; exact beq_self_eq_true (⟨#[0x110000]⟩ : Str)
  | .dct _ _ => by unfold D.py PyData.eqv; exact beq_self_eq_true (⟨#[0x110000]⟩ : Str)
  | .obj _ _ _ => by unfold D.py PyData.eqv; exact beq_self_eq_true (⟨#[0x110000]⟩ : Str)
  | .fn _ => by unfold D.py PyData.eqv; exact beq_self_eq_true (⟨#[0x110000]⟩ : Str)
theorem eqvsr : ∀ l : List RT.D, PyData.eqvAll (D.pys l) (D.pys l) = true
  | [] => rfl
  | x :: l => by unfold D.pys PyData.eqvAll; rw [eqvr x, eqvsr l]; rfl
end
theorem eqbr (x : RT.D) : D.eqb x x = true := eqvr x
theorem mulI_ok {i j : Int} (h : -(2 ^ 64) < j ∧ j < 2 ^ 64) : CMulA i j := .inl (.inr h)
theorem mulJ_ok {i j : Int} (h : -(2 ^ 64) < i ∧ i < 2 ^ 64) : CMulA i j := .inl (.inl h)
theorem at_0 {x : D} {l : List D} : atI (x :: l) 0 = some x := atI_nat (j := 0) rfl
theorem at_1 {x y : D} {l : List D} : atI (x :: y :: l) 1 = some y := atI_nat (j := 1) rfl
theorem at_2 {x y z : D} {l : List D} : atI (x :: y :: z :: l) 2 = some z := atI_nat (j := 2) rfl
theorem div_okN {i : Int} {k : Nat} (h : 0 < k ∧ k < 2 ^ 64) : CDivA i (k : Int) := div_ok h.1 h.2
end RT
namespace RT
open PySem PySem.Spec PyProof.Rows L2
/-! ### classes of exceptions, as facts that are true or false -/
def exShape (K : PySem.W.Frag) (C : Addr) : Bool := match K.lookup C with
  | some ob => (match ob.cls, ob.data, ob.slots.toList with
    | .type t, .cls cd, [_, _, _, _, some (.builtin nw), _] => t == "type" && (nw == "ValueError.__new__" && (!cd.hasDel && (cd.hasDict && (match cd.mro with
      | .ref C1 :: above => C1 == C && PySem.HandSPX.refsVE above
      | _ => false))))
    | _, _, _ => false)
  | none => false
theorem exShape_ok {K : PySem.W.Frag} {C : Addr} (h : exShape K C = true) : ∃ nm q N bs bm sn sub ab col dd k0 k1 k2 k3 k5,
    K.lookup C = some (excClassObj nm q C N bs bm true sn sub ab col dd k0 k1 k2 k3 k5 "ValueError.__new__") ∧ PySem.HandSPX.refsVE bm = true := by
  unfold exShape at h
  split at h
  · rename_i ob e
    obtain ⟨oc, od, dt, osl⟩ := ob
    split at h
    · rename_i t cd k0 k1 k2 k3 nw k5 e1 e2 e3
      obtain ⟨cnm, cbs, cmro, cns, cqn, chd, csn, csub, cab, ccol, cdel⟩ := cd
      rw [Bool.and_eq_true, Bool.and_eq_true, Bool.and_eq_true, Bool.and_eq_true] at h
      obtain ⟨g1, g2, g3, g4, g5⟩ := h
      dsimp only at g3 g4 g5
      split at g5
      · rename_i xx C1 above
        rw [Bool.and_eq_true] at g5
        have d1 : C1 = C := beq_iff_eq.mp g5.1
        have d2 : nw = "ValueError.__new__" := beq_iff_eq.mp g2
        have d3 : cdel = false := by simpa using g3
        have d4 : t = "type" := beq_iff_eq.mp g1
        have d5 : osl = #[k0, k1, k2, k3, some (.builtin nw), k5] := by
          obtain ⟨ll⟩ := osl
          have e3' : ll = [k0, k1, k2, k3, some (.builtin nw), k5] := e3
          rw [e3']
        subst d1; subst d2; subst d3; subst d4; subst g4; subst d5
        have e1 : oc = .type "type" := e1
        subst e1
        have e2 : dt = _ := e2
        subst e2
        exact ⟨cnm, cqn, cns, cbs, above, csn, csub, cab, ccol, od, k0, k1, k2, k3, k5, e, g5.2⟩
      · cases g5
    · cases h
  · cases h
def oexB (K : PySem.W.Frag) (C : Addr) : Bool := exShape K C && (decide (PySem.W.findIn K (.ref C) "__setattr__" = some (some (.builtin "object.__setattr__"))) && (decide (PySem.W.subIn K (.ref C) (.type "BaseException") = some true) && (decide (PySem.W.typeIn K (.ref C) = some (.type "type")) && PySem.W.keepIn K (.ref C))))
theorem oexB_ok {K : PySem.W.Frag} {C : Addr} (h : oexB K C = true) : OexC K C := by
  obtain ⟨g1, h⟩ := He.ba h
  obtain ⟨g2, h⟩ := He.ba h
  obtain ⟨g3, h⟩ := He.ba h
  obtain ⟨g4, g5⟩ := He.ba h
  exact ⟨exShape_ok g1, of_decide_eq_true g2, of_decide_eq_true g3, of_decide_eq_true g4, g5⟩
/-- isinstance may be asked of it -/
def insB (K : PySem.W.Frag) (C : Addr) : Bool := (PySem.W.clsIn K C).isSome && (xfB K C && (decide (PySem.W.findIn K (.ref C) "__class__" = some (some (.builtin "object.__class__"))) && (decide (PySem.W.specialIn K (.builtin "object.__class__") "__get__" = some (some (.builtin "getset_descriptor.__get__"))) && (decide (PySem.W.takesIn K (.builtin "object.__class__") = some true) && decide (PySem.W.mroIn K C (.type "object") = some true)))))
/-- the class whose __init__ is asked for by name -/
def tinB (K : PySem.W.Frag) (T : Addr) : Bool := decide (PySem.W.specialIn K (.ref T) "__getattribute__" = some (some (.builtin "type.__getattribute__"))) && (PySem.W.readsIn K T (.type "type") && (match PySem.W.findCls K (.ref T) (.type "type") "__init__" with
  | some (.val (.builtin nm)) => nm == "ValueError.__init__"
  | _ => false))
theorem tin_val {K : PySem.W.Frag} {T : Addr} (h : (match PySem.W.findCls K (.ref T) (.type "type") "__init__" with
  | some (.val (.builtin nm)) => nm == "ValueError.__init__"
  | _ => false) = true) : PySem.W.findCls K (.ref T) (.type "type") "__init__" = some (.val (.builtin "ValueError.__init__")) := by
  split at h
  · rename_i nm e; rw [e, beq_iff_eq.mp h]
  · cases h
/-! ### T.__init__(self, ..), T an own class above -/
section
variable {X : Cx} {e : Expr} {es : List Expr} {ta : TA} {p1 p2 pos : Pos} {x : Str} {T : Addr}
theorem pe_teinit {pl : Sem Bool} (hg : Gl X x) (hm : X.mg x = some (.ref T)) (hT : tinB X.K T = true) (ha : PA X (e :: es) ta) (hdb : (x == ("__debug__" : Str)) = false := by decide)
    (hc : eval (.Call (.Attribute (.Name x p1) "__init__" p2) (e :: es) [] pos) X.env = (do
      let rv ← eval (.Name x p1) X.env
      standAt p2.atName
      let (fv, fst) ← holding [rv] (getMethod rv "__init__" pl)
      callWith pos fv fst (backTo pos (starEach (e :: es) X.env)) (backToKw pos (keywordEach [] X.env))) := by rfl)
    (hst : starEach (e :: es) X.env = (false, eval e X.env) :: starEach es X.env := by rfl) (hpl : (backTo pos (starEach es X.env)).any (·.1) = false := by rfl) :
    PE X (.Call (.Attribute (.Name x p1) "__init__" p2) (e :: es) [] pos) (tVeI X.K ta) := by
  obtain ⟨t1, hT2⟩ := He.ba hT
  obtain ⟨t2, t3⟩ := He.ba hT2
  refine ⟨fun pins s σ H Qk I hq => ?_⟩
  refine PySem.W.methodCall_KW (ld_glob I hg hm ?_ hdb) hc
  refine PySem.W.method_cls I.kIn (of_decide_eq_true t1) (PySem.W.cls_value I.kIn t2 (tin_val t3) (by decide +kernel) ?_)
  show wpAny _ _ (callWith pos (Value.builtin "ValueError.__init__") [] (backTo pos (starEach (e :: es) X.env)) []) _ _ _
  refine callWith_method1 (thn (ha.run pos pins _ σ H _ (I.tok _) hq) fun us sA hh => ?_) hst hpl
  obtain ⟨vs, HA, IA, rA, a, C, ws, ev, hl, TC, ea, q⟩ := hh
  subst ev
  cases rA with
  | @cons _ u0 _ ur ra rw' =>
    obtain rfl : u0 = Value.ref a := ra
    have hz : ur.length ≤ sizeLine := by rw [← Paired.length rw', sizeLine_eq]; omega
    exact oinit_ok TC IA ea hz fun sB J => ⟨.non, HA, J, rfl, q⟩
end
/-! ### try: .. except x as n: .., the caught one kept in view -/
theorem exh_ok {P : Program} {w : World} {H : Hp} {h : Heap} {a : Addr} {cls : Value} {d : Option Addr} {ob : Obj} {vs : Array Value} (e1 : h.get? a = some ob) (e2 : Zc cls d ob) (e3 : ob.data = .fields vs) : ObjOk P w H h a (exh a cls d) :=
  ⟨⟨ob, e1, e2, vs, e3⟩, ⟨ob, e1⟩, fun h1 h2 ⟨o1, y1, y2, y3⟩ k => ⟨o1, k _ y1, y2, y3⟩⟩
section
variable {X : Cx} {pins : List (Addr × Obj)} {σ : L2.St} {H : Hp} {sI s' s : Shared} {B : Heap} {a : Addr} {o : HO}
theorem landT (I : Inv X pins σ H sI) (nb : ∀ b u, sI.heap.get? b = some u → b ∉ frs X.stack → B.get? b = some u) (st : B.StaysIn s'.heap) (up : sI.heap.UpToSlots s'.heap) (eo : s'.os = sI.os) (ab : AllBare s'.gens)
    (fr : B.get? a = none) (nf : a ∉ frs X.stack) (na : H a = none) (new : ObjOk X.prog X.w (upd H a o) s'.heap a o) : Inv X pins σ (upd H a o) s' := by
  have away : sI.heap.get? a = none := by
    cases q : sI.heap.get? a with
    | none => rfl
    | some u => have := nb a u q nf; rw [fr] at this; cases this
  have frm : ∀ b ∈ frs X.stack, ∀ u, sI.heap.get? b = some u → ∃ sl, s'.heap.get? b = some { u with slots := sl } := fun b hb u e => by
    obtain ⟨_, u', e', hd⟩ := I.stack.mem hb
    rw [e] at e'; cases e'
    exact up b u e hd
  have hk : HOk X.prog X.w (upd H a o) s'.heap := ((I.inGround nb).kept st).laidN (fun _ _ z => z) na new
  have un : Un (frs X.stack) [] H (upd H a o) sI.heap s'.heap :=
    { keep := fun b u e _ hb _ => st b u (nb b u e hb)
      slot := fun b u e _ hb _ => frm b hb u e
      free := fun b u e n _ => by rw [upd_ne (fun z => by rw [z, away] at e; cases e)]; exact n
      there := fun b u e _ => by
        by_cases hb : b ∈ frs X.stack
        · obtain ⟨sl, q⟩ := frm b hb u e; exact ⟨_, q⟩
        · exact ⟨u, st b u (nb b u e hb)⟩
      tups := fun b xs q => by rw [upd_ne (ne_of_none q na)]; exact q
      frzs := fun b u xs q => by rw [upd_ne (ne_of_none q na)]; exact q
      tbls := fun b ps q => ⟨#[], by rw [upd_ne (ne_of_none q na), q]; simp⟩ }
  have J := I.call (ch := []) (h' := s'.heap) (g' := s'.gens) (t' := s'.toks) (d' := s'.drawn) (H' := upd H a o) un hk ab (fun _ z => nomatch z)
  obtain ⟨b1, b2, b3, b4, b5⟩ := s'
  have e5 : b5 = sI.os := eo
  subst e5
  exact J
theorem toSuite (I : Inv X pins σ H s) (a : Addr) : Inv (X.suite a (X.pn ++ pins)) [] σ H s :=
  ⟨I.ok.suite _ _, I.os, I.bare, I.base, I.loc, I.cell, I.free, I.freeC, fun p hp => I.pin p (by rw [List.append_nil] at hp; exact hp), I.hok, I.len⟩
theorem ofSuite {pn' : List (Addr × Obj)} (I : Inv (X.suite a (X.pn ++ pins)) pn' σ H s) (ok : X.Ok) : Inv X pins σ H s :=
  ⟨ok, I.os, I.bare, I.base, I.loc, I.cell, I.free, I.freeC, fun p hp => I.pin p (List.mem_append_left _ hp), I.hok, I.len⟩
end
/-- what the clause wishes of an exception of the body -/
def wCat (K : PySem.W.Frag) (c : Value) (i : Nat) (ts : Addr → Value → Option Addr → TS) (Wo : WX) (D : Ends) : WX := fun cls d σ H =>
  ∃ b, PySem.W.exmOne K cls c = some b ∧ (b = true → ∀ a, H a = none → ts a cls d { nx := fun σ2 H2 => D.nx (σ2.set i none) H2, rt := D.rt, bk := fun σ2 H2 => D.bk (σ2.set i none) H2, ct := fun σ2 H2 => D.ct (σ2.set i none) H2 } (σ.set i (some (.ref a))) (upd H a (exh a cls d))) ∧
    (b = false → Wo cls d σ H)
section
variable {X : Cx} {x n : Str} {c : Value} {i : Nat} {body suite : List Stmt} {b₀ : Stmt} {np pos pos' : Pos} {tb : WX → TS} {ts : Addr → Value → Option Addr → TS} {Wo : WX}
theorem ps_try_val (hs : X.stack = X.env :: X.outer) (hf : X.env.frame = some X.env.locals) (hN : X.N.Nodup) (hi : X.N[i]? = some n) (hln : X.env.kindOf n = some .local) (hc : Names X x c) (tk : Takes X Wo)
    (hb : ∀ (W : WX) (pn : List (Addr × Obj)) (xe : Value → Shared → Prop), Takes (X.tr pn xe) W → PassesOwn (model X.prog X.w) X.A X.env xe → PSs (X.tr pn xe) body (tb W))
    (hsu : ∀ (a : Addr) (cls : Value) (d : Option Addr) (pn : List (Addr × Obj)), PSs (X.suite a pn) (b₀ :: suite) (ts a cls d)) :
    PS X (.Try body [.ExceptHandler (some (.Name x np)) (some n) (b₀ :: suite) pos'] [] [] pos) (fun D σ H => tb (wCat X.K c i ts Wo D) D σ H) := by
  refine ⟨fun pins s σ H De I hgo => ?_⟩
  have okX := I.ok
  have frX : X.A.frames = some (X.env :: X.outer) := by rw [okX.frames, hs]
  have locX : Loc X.env.scope n := .inl hln
  refine wpAny_Try_except ?_
  refine wpAny_mono ((hb (wCat X.K c i ts Wo De) (X.pn ++ pins) (fun ev s₁ => wpAny (model X.prog X.w) X.A (noteFrame ev X.env) (fun _ s₂ => wpAny (model X.prog X.w) X.A (setFlight ev none) (fun _ s₃ =>
      wpAny (model X.prog X.w) X.A (handleBy ev X.env [.ExceptHandler (some (.Name x np)) (some n) (b₀ :: suite) pos']) (SP X pins De) X.xe s₃) X.xe s₂) X.xe s₁) (fun uv sX air => ?_) PassesOwn.looking).run [] s σ H De (I.toTry _) hgo) (fun fl sE hsp => ?_) (fun _ _ z => z)
  · -- caught
    obtain ⟨a, B, sI, pinsX, σX, HX, cls, d, rfl, JX, nb, up, sky, na, eos, bare, b, hb1, hyes, hno⟩ := air
    have J := JX.ofTry okX
    have sky2 : Sky B (X.env :: X.outer) a (Zc cls d) X.env.locals sX.heap := by rw [← hs]; exact sky
    show wpAny (model X.prog X.w) X.A (noteFrame (.ref a) X.env) _ _ _
    refine Sky.land Zc.steady frX hf sky2 fun hA flA upA => ?_
    have JA : Inv X pins σX HX { sX with heap := hA } := J.landed nb flA.1 (up.trans upA) eos bare
    obtain ⟨oA, vA, gA, zA, dA⟩ := flA.there
    have away : ∀ {hh : Heap} {u : Obj} {vv : Array Value}, hh.FunFrames B (X.env :: X.outer) → hh.get? a = some u → u.data = .fields vv → a ∉ frs X.stack := fun {hh u vv} ff e dd hm => by
      rw [hs] at hm
      obtain ⟨_, u', e', hnf⟩ := ff.mem hm
      rw [e] at e'; cases e'
      exact hnf _ dd
    have nfr := away flA.2.2.1 gA dA
    have SA := toSuite JA a
    refine wpAny_handleBy_cons (codeAny_handlers_test ?_) (by intro q; cases q)
    have lk1 : PySem.W.Looks (model X.prog X.w) hA (typeOf (.ref a)) cls := fun A Q E s k q => wpAny_typeOf_ref (k _ _ gA) (by rw [zA.1]; exact q)
    have lk2 := PySem.W.exm_one (M := model X.prog X.w) JA.kIn lk1 hb1
    have named : ∀ {Q : Value → Shared → Prop} {E : Value → Shared → Prop}, Q c { sX with heap := hA } → wpAny (model X.prog X.w) (X.A.mark (some (.ref a))) (eval (.Name x np) X.env) Q E { sX with heap := hA } := fun {Q E} q => by
      obtain ⟨n1, n2, n3 | ⟨n3, n4, n5⟩⟩ := hc
      · exact ld_glob (X := X.suite a (X.pn ++ pins)) SA n1 n3 q n2
      · exact ld_blt (X := X.suite a (X.pn ++ pins)) SA n1 n3 n4 q n5 n2
    refine named (lk2.here ?_)
    cases b with
    | true =>
      refine codeAny_handlers_suite_as ?_
      refine HandSPX.lands_againZ flA fun hC flC upC => ?_
      obtain ⟨oC, vC, gC, zC, dC⟩ := flC.there
      have JC : Inv X pins σX (upd HX a (exh a cls d)) { sX with heap := hC } := landT J nb flC.1 ((up.trans upA).trans upC) eos bare flC.2.1 nfr na (exh_ok gC zC dC)
      refine store_ok (X := X.suite a (X.pn ++ pins)) (v := .ref a) (toSuite JC a) hN hi locX rfl (fun sD SD => ?_) (.inr hln)
      refine wpAny_mono ((hsu a cls d (X.pn ++ pins)).run [] sD _ _ _ SD (hyes rfl a na)) (fun fl sE hsp => ?_) (fun _ _ z => False.elim z)
      have fin : ∀ {σE : L2.St} {HE : Hp} {Q : Shared → Prop}, Inv (X.suite a (X.pn ++ pins)) [] σE HE sE → (∀ sF, Inv X pins (σE.set i none) HE sF → Q sF) →
          wpAny (model X.prog X.w) X.A (do bindName X.env n .none; unbindBehindTheSuite X.env n pos') (fun _ sF => Q sF) X.xe sE := fun {σE HE Q} SE hq => gone_ok (ofSuite SE okX) hN hi hln hq
      cases fl with
      | next => obtain ⟨σE, HE, SE, qE⟩ := hsp; exact fin SE fun sF JF => ⟨_, _, JF, qE⟩
      | brk => obtain ⟨σE, HE, SE, qE⟩ := hsp; exact fin SE fun sF JF => ⟨_, _, JF, qE⟩
      | cont => obtain ⟨σE, HE, SE, qE⟩ := hsp; exact fin SE fun sF JF => ⟨_, _, JF, qE⟩
      | ret u => obtain ⟨vE, σE, HE, SE, rE, qE⟩ := hsp; exact fin SE fun sF JF => ⟨_, _, _, JF, rE, qE⟩
    | false =>
      show wpAny _ X.A (handleBy (.ref a) X.env []) _ _ _
      refine wpAny_handleBy_nil ?_
      obtain ⟨_, _, _, oB, vB, Tb, oT, tB, gB, zB, dB, e1, _⟩ := id flA
      unfold PySem.passOn
      refine wpAny_bind (wpAny_field gB dB e1 ?_)
      rw [if_neg (show ¬ ((Value.ref Tb == Value.none) = true) by simp)]
      have goOn : wpAny (model X.prog X.w) X.A (setFlight (.ref a) X.env.frame) (fun _ sG => wpAny (model X.prog X.w) X.A (throw (.ref a) : Sem Flow) (SP X pins De) X.xe sG) X.xe { sX with heap := hA } := by
        rw [hf]
        refine HandSPX.setFlight_upZ flA fun hG heldG upG => wpAny_throw (tk _ _ ?_)
        exact ⟨a, B, sI, pins, σX, HX, cls, d, rfl, J, nb, (up.trans upA).trans upG, .inr (.inr (by rw [hs]; exact heldG)), na, eos, bare, hno rfl⟩
      first
        | exact wpAny_bind (wpAny_pure (wpAny_bind goOn))
        | exact wpAny_bind goOn
  cases fl with
  | next => obtain ⟨σE, HE, JE, qE⟩ := hsp; exact wpAny_execs_nil ⟨σE, HE, JE.ofTry okX, qE⟩
  | brk => obtain ⟨σE, HE, JE, qE⟩ := hsp; exact ⟨σE, HE, JE.ofTry okX, qE⟩
  | cont => obtain ⟨σE, HE, JE, qE⟩ := hsp; exact ⟨σE, HE, JE.ofTry okX, qE⟩
  | ret u => obtain ⟨vE, σE, HE, JE, rE, qE⟩ := hsp; exact ⟨vE, σE, HE, JE.ofTry okX, rE, qE⟩
end
end RT
namespace RT
open PySem PySem.Spec PyProof.Rows L2
/-! ### a list display whose items become pure -/
section
variable {X : Cx} {K : PySem.W.Frag} {F F' H H' H0 F0 : Hp}
theorem ext_frzs {m : List M} {v : List V} {fp : List Addr} (x : Ext F H F' H') (r : RepMs K F' H0 H' m v fp) (hf : ∀ a ∈ fp, H a = none) : Ext F H (frzH F' H' fp) H' := by
  have own := r.own
  refine ⟨x.h, x.f.trans (frzH_same fun b hb => (own b hb).1), fun b o hb => ?_, fun b o hb => ?_⟩
  · by_cases g : b ∈ fp
    · rw [frzH_in g] at hb; exact hb
    · rw [frzH_out g] at hb; exact x.s _ _ hb
  · by_cases g : b ∈ fp
    · exact .inr (hf b g)
    · rw [frzH_out g] at hb; exact x.n b o hb
def wLstF (w : TAW) : TW := fun ρ Q E => w ρ (fun ms => ms.length ≤ 1000 ∧ ∃ ds, M.frzs ms = some ds ∧ Q (.fl .o ds)) E
theorem q_lstF (h : QA X es wr) : QE X (.List es pos) (wLstF wr) where
  mono := fun hq he z => h.mono (fun ms ⟨a, ds, e, q⟩ => ⟨a, ds, e, hq _ q⟩) he z
  run := fun W F0 H0 tk => peImp (pe_lst (h.run W F0 H0 tk)) fun σ H Qh ⟨ρ, F, rel, z⟩ => by
    refine ⟨ρ, F, rel, h.mono (fun ms hm => ?_) (fun _ q => q) z⟩
    intro vs H1 F1 fp x r hf hn
    obtain ⟨hl, ds, e, q⟩ := hm
    refine ⟨by rw [← r.length]; exact k1000 hl, ?_⟩
    have x2 := ext_frzs x r hf
    have rd := r.frz (frzH_frz fun b hb => (r.own b hb).1) e
    exact (q.ext x2).mine x2.s (rel.e.h.trans x.h) rd
end
/-! ### recursion, by depth -/
def tRec (n N : Nat) (w : TSp → TSW) : Nat → TSp
  | 0 => tOf n N sNever
  | k + 1 => tOf n N (w (tRec n N w k))
theorem body_never {P : Program} {w : World} {K : PySem.W.Frag} {mg : Str → Option Value} {base : Heap} {k : Nat} {N : List Str} {d : He.DefD} : Body P w K mg base k N d sNever :=
  fun _ _ _ _ _ _ _ _ => ⟨_, ss_never⟩
theorem fx_rec {fa : List He.Fa} {fn : List He.DefD} {h : Heap} {P : Program} {w : World} {K : PySem.W.Frag} {mg : Str → Option Value} {base : Heap} {x : Str} {N ps : List Str} {wb : TSp → TSW} {d : He.DefD}
    (Z : Top fa fn h K mg) (i j : Nat) (S : FnScope N ps d.scope) (l m : Nat) (B : ∀ (k : Nat) (rc : TSp), l + 1 ≤ k → Fx P w K mg base x k [] rc → Body P w K mg base k N d (wb rc)) (hk : Room (l + 1 + m) callerA)
    (hb : ∀ (kV doc pm : Value) (an : Option Addr) (cdv ct : Value) (us : List Value), us.length = ps.length → bindArgs (PySem.W.fnOf d.name d.qual d.params d.body d.scope .none kV doc pm an cdv ct) ⟨us, []⟩ = pure (ps.zip us))
    (hd : fn[i]? = some d := by rfl) (hg : fa[j]? = some (.glo x) := by rfl) (hat : d.at_ = (x, none) := by rfl) (h0 : d.dfl = [] := by rfl) (hkw : d.kwd = [] := by rfl) :
    ∀ n, n ≤ m → Fx P w K mg base x (l + 1 + n) [] (tRec ps.length N.length wb n)
  | 0, _ => fx_of Z i j S body_never (hk.mono (by omega)) hd hg hat h0 hkw hb
  | n + 1, q => fx_of (k := l + 1 + n) Z i j S (B (l + 1 + n) _ (by omega) (fx_rec Z i j S l m B hk hb hd hg hat h0 hkw n (by omega))) (hk.mono (by omega)) hd hg hat h0 hkw hb
end RT
namespace RT
open PySem PySem.Spec PyProof.Rows L2
/-! ### sorted(xs) of data of one kind -/
def sortD (l : List D) : List D := l.mergeSort (PySem.W.dataLe false D.py)
section
variable {X : Cx} {K : PySem.W.Frag} {F F' H H' H0 F0 : Hp}
def rSortD (K : PySem.W.Frag) : List V → Hp → VK → Prop := fun vs H Q => ∃ (a : Addr) (bs : List (D × V)), vs = [.ref a] ∧ SqL K H a (bs.map (·.2)) ∧ (∀ b ∈ bs, Dp K H b.2 b.1.py) ∧ PySem.W.AllAlike (bs.map fun b => b.1.py) ∧ PySem.W.Sortable (bs.map fun b => b.1.py) ∧ bs.length ≤ sizeLine ∧ (∀ b ∈ bs, b.1.py.depth ≤ 40) ∧
  ∀ p, H p = none → Q (.ref p) (upd H p (.lst ((bs.mergeSort (PySem.W.dataLe false fun b => b.1.py)).map (·.2))))
theorem each_rel : ∀ {bs : List (D × V)} {its : List Value}, Vals (bs.map (·.2)) its → PySem.W.EachIs (fun v (b : D × V) => RelV b.2 v) its bs
  | [], its, h => by rw [List.map_nil] at h; cases h; exact .nil
  | b :: bs, its, h => by
    rw [List.map_cons] at h
    cases h with
    | cons h1 h2 => exact .cons h1 (each_rel h2)
theorem rel_each : ∀ {bs : List (D × V)} {its : List Value}, PySem.W.EachIs (fun v (b : D × V) => RelV b.2 v) its bs → Vals (bs.map (·.2)) its
  | [], _, .nil => .nil
  | b :: bs, _, .cons h1 h2 => .cons h1 (rel_each h2)
theorem cr_sortD (hu : X.A.units + 64 < cLine) : CallR X (.builtin "sorted") (rSortD X.K) := by
  intro pins s σ H vs us Q I r h
  obtain ⟨a, bs, rfl, hs, hD, hal, hk, hL, hd, q⟩ := h
  obtain ⟨its, rv, hl, hz⟩ := I.list hs
  rw [Vals.ref1 r]
  have e := each_rel rv
  have er : PySem.W.EachIs (fun v (b : D × V) => ∃ as, Reads s.heap v b.1.py as) its bs := (PySem.W.each_mem e).mono fun v b ⟨h1, h2⟩ => Dp.reads I _ _ _ (hD b h2) h1
  refine PySem.W.sorted_data (enc := fun b : D × V => b.1.py) hl.isList e er hal hk hL (fun b hb => by have := hd b hb; omega) fun out ho eo => ?_
  obtain ⟨ep, he'⟩ := PyProof.Rows.sortedAll_at s.heap its out.toArray
  refine ⟨.ref _, upd H (s.heap.objs.size + 1) (.lst ((bs.mergeSort (PySem.W.dataLe false fun b => b.1.py)).map (·.2))), I.laid (t' := s.toks) (fun _ _ => PyProof.Rows.sortedAll_old) (Nat.le_succ _) ⟨by rw [List.length_map, List.length_mergeSort]; exact hL, out, ep, rel_each eo, he'⟩, rfl, q _ (I.hok.fresh (Nat.le_succ _))⟩
theorem reps_pairs : ∀ {bs : List (D × V)}, (∀ b ∈ bs, RepD K F b.1 b.2) → RepDs K F (bs.map (·.1)) (bs.map (·.2))
  | [], _ => .nil
  | b :: bs, h => .cons (h b List.mem_cons_self) (reps_pairs fun x hx => h x (List.mem_cons_of_mem _ hx))
theorem pairs_reps : ∀ {l : List D} {vs : List V}, RepDs K F l vs → ∀ b ∈ l.zip vs, RepD K F b.1 b.2
  | [], vs, r, b, hb => by cases hb
  | x :: l, vs, r, b, hb => by
    unfold RepDs at r
    obtain ⟨u, w, e, r1, r2⟩ := r
    subst e
    rcases List.mem_cons.mp hb with z | z
    · subst z; exact r1
    · exact pairs_reps r2 b z
def wSortD : WCl := fun xs Q => on1 (fun m => ∃ l, m.lstD = some l ∧ PySem.W.AllAlike (l.map D.py) ∧ PySem.W.Sortable (l.map D.py) ∧ l.length ≤ sizeLine ∧ (∀ x ∈ l, x.ok ∧ x.py.depth ≤ 40) ∧ Q (.fl .o (sortD l))) xs
theorem s_sortD : CalS X (rSortD X.K) wSortD where
  mono := fun h q => on1_mono (fun m ⟨l, e, h1, h2, h3, h4, q⟩ => ⟨l, e, h1, h2, h3, h4, h _ q⟩) q
  run := fun {H0 F H xs vs fp Q Qh} s z rs q h => by
    obtain ⟨m, e, l, hl, h1, h2, h3, h4, qq⟩ := on1_of q
    clear q
    subst e
    obtain ⟨v, e, r⟩ := rs.one
    subst e
    obtain ⟨a, us, e1, p, rl⟩ := r.lst s z hl
    have e2 : (l.zip us).map (·.2) = us := List.map_snd_zip (by rw [rl.length]; exact Nat.le_refl _)
    have e3 : (l.zip us).map (·.1) = l := List.map_fst_zip (by rw [rl.length]; exact Nat.le_refl _)
    have e4 : (l.zip us).map (fun b => b.1.py) = l.map D.py := by
      conv => rhs; rw [← e3, List.map_map]
      rfl
    have rp := pairs_reps rl
    refine ⟨a, l.zip us, by rw [e1], by rw [e2]; exact SqL.of p, fun b hb => RepD.dp s (D.ok.lay (h4 b.1 (by rw [← e3]; exact List.mem_map.mpr ⟨b, hb, rfl⟩)).1) (rp b hb), by rw [e4]; exact h1, by rw [e4]; exact h2, by rw [← List.length_map (f := fun b : D × V => b.1), e3]; exact h3, fun b hb => (h4 b.1 (by rw [← e3]; exact List.mem_map.mpr ⟨b, hb, rfl⟩)).2, fun p' hp => ?_⟩
    have e5 : ((l.zip us).mergeSort (PySem.W.dataLe false fun b => b.1.py)).map (·.1) = sortD l := by
      refine (List.map_mergeSort (r := PySem.W.dataLe false fun b : D × V => b.1.py) (s := PySem.W.dataLe false D.py) (f := fun b : D × V => b.1) (fun _ _ _ _ => rfl)).trans ?_
      rw [e3]; rfl
    have r5 := reps_pairs (bs := (l.zip us).mergeSort (PySem.W.dataLe false fun b => b.1.py)) fun b hb => rp b ((List.mergeSort_perm _ _).mem_iff.mp hb)
    rw [e5] at r5
    exact (h _ qq).mine s z r5 p' hp
theorem q_sortD {a : Expr} {wa : TW} {p pos : Pos} (hu : X.A.units + 64 < cLine) (hg : Gl X "sorted") (hm : X.mg "sorted" = none) (ha : QE X a wa) (hs : starEach [a] X.env = [(false, eval a X.env)] := by rfl) : QE X (.Call (.Name "sorted" p) [a] [] pos) (wCl wSortD (wCons wa wNil)) :=
  q_cb s_sortD (cr_sortD hu) hg hm (by decide +kernel) (qa_cons ha qa_nil hs) (by decide) (by decide) hs rfl
end
theorem hu64 {k : Nat} {A : Around} (hr : Room k A) : A.units + 64 < cLine := by have := hr.un; omega
theorem sortD_perm (l : List D) : (sortD l).Perm l := List.mergeSort_perm _ _
end RT
namespace RT
open PySem PySem.Spec PyProof.Rows L2
/-! ### xs.index(x) of a list or a tuple of plain items -/
section
variable {X : Cx} {K : PySem.W.Frag} {F F' H H' H0 F0 : Hp}
/-- the first place of an equal item -/
def FstAt (ys : List V) (y : V) (j : Nat) : Prop := flatV y = true ∧ ys.all flatV = true ∧ (∃ z, ys[j]? = some z ∧ eqV z y = true) ∧ ∀ (m : Nat) (z : V), m < j → ys[m]? = some z → eqV z y = false
def rIdxT (K : PySem.W.Frag) : V → List V → Hp → VK → Prop := fun x xs H Q => ∃ p ys y j, x = .ref p ∧ xs = [y] ∧ SqT K H p ys ∧ FstAt ys y j ∧ Q (.int (j : Nat)) H
theorem mt_idxT : MtR X "tuple.index" (rIdxT X.K) := by
  intro pins s σ H x xs v us Q I rx rs h
  obtain ⟨p, ys, y, j, rfl, rfl, hq, ⟨fy, fys, ⟨z, hz, hzy⟩, hno⟩, q⟩ := h
  obtain rfl : v = Value.ref p := rx
  obtain ⟨u, rfl, ru⟩ := rs.one
  obtain ⟨its, rv, pl, _⟩ := I.tuple hq
  obtain ⟨⟨c0, d0, t0, s0⟩, ho, hc, n, hd⟩ := pl
  obtain rfl : c0 = _ := hc
  obtain rfl : t0 = _ := hd
  have hsz : its.toArray.size = ys.length := by rw [List.size_toArray, ← rv.length]
  have hjl : j < ys.length := (List.getElem?_eq_some_iff.mp hz).1
  have val : ∀ (m : Nat) (hm : m < its.toArray.size) (z' : V), ys[m]? = some z' → eqU y its.toArray[m] = eqV z' y := fun m hm z' e => by
    obtain ⟨w, hw, r'⟩ := rv.get e
    obtain ⟨_, hwe⟩ := List.getElem?_eq_some_iff.mp hw
    have e1 : its.toArray[m] = w := by simpa using hwe
    rw [e1]
    exact eqU_of r' (List.all_eq_true.mp fys z' (List.mem_of_getElem? e))
  refine call_meets PySem.F.slot_tuple_index ⟨_, ho, rfl⟩ PySem.F.entry_tuple_index (PySem.F.args_tuple_index_2 _ _) (TI.tuple_indexAt p its.toArray n d0 s0 u (eqU y) j (by omega) ?_ ?_)
    ⟨ho, fun w hw => mem_eqAt ru fy rv fys w (by simpa using hw), ⟨.int (j : Nat), H, I.tok _, ⟨_, rfl⟩, q⟩⟩
  · rw [val j (by omega) z hz]; exact hzy
  · intro m hm hmj
    have e : ys[m]? = some ys[m] := List.getElem?_eq_getElem (by omega)
    rw [val m hm _ e]
    exact hno m _ hmj e
def tIdx (K : PySem.W.Frag) (to ta : TE) : TE := fun σ H Q => to σ H fun x H1 => ∃ p ys, x = .ref p ∧
  ((SqL K H1 p ys ∧ ta σ H1 fun y H2 => ∃ j, SqL K H2 p ys ∧ FstAt ys y j ∧ Q (.int (j : Nat)) H2) ∨ (TupAt K H1 p ys ∧ ta σ H1 fun y H2 => ∃ j, TupAt K H2 p ys ∧ FstAt ys y j ∧ Q (.int (j : Nat)) H2))
theorem tup_is {pins : List (Addr × Obj)} {σ : L2.St} {H : Hp} {s : Shared} {p : Addr} {ys : List V} (I : Inv X pins σ H s) (h : TupAt X.K H p ys) : s.TypeIs (.ref p) "tuple" ∧ ∀ a, Value.ref p = .ref a → ∃ ob, s.heap.get? a = some ob ∧ ob.dict = none := by
  rcases h with ⟨o, e, d⟩ | ⟨o, its, n, h1, h2, h3, h4, h5, d⟩
  · obtain ⟨e1, hz, its, r, pl⟩ := I.hok p _ e
    obtain ⟨o', e2, hc, _⟩ := pl
    rw [e1] at e2
    cases e2
    exact ⟨⟨o, e1, hc⟩, fun a e3 => by cases e3; exact ⟨o, e1, d⟩⟩
  · exact ⟨⟨o, I.kIn p o h1, h2⟩, fun a e3 => by cases e3; exact ⟨o, I.kIn p o h1, d⟩⟩
variable {o e : Expr} {to ta : TE} {apos cpos : Pos}
theorem pe_idx (ho : PE X o to) (ha : PE X e ta) (hbase : attributeBase o "index" X.env (eval o X.env) = eval o X.env := by rfl)
    (hfew : ((backTo cpos (starEach [e] X.env)).all (fun x => !x.1) && (backToKw cpos (keywordEach [] X.env)).all (fun x => x.1.isSome) && decide (([e] : List Expr).length + ([] : List Keyword).length + (if ([] : List Keyword).isEmpty then 0 else 1) < 30)) = true := by rfl)
    (hline : (apos.endLine == cpos.line) = true := by rfl) (hs : starEach [e] X.env = [(false, eval e X.env)] := by rfl) : PE X (.Call (.Attribute o "index" apos) [e] [] cpos) (tIdx X.K to ta) := by
  refine ⟨fun pins s σ H Q I h => ?_⟩
  have hA := pa_cons (es := []) ha pa_nil hs
  refine wpAny_Call_method_late hbase hfew hline rfl (thn (ho.run pins s σ H _ I h) fun v s1 ⟨x, H1, I1, r1, p, ys, ex, q1⟩ => ?_)
  subst ex
  obtain rfl : v = Value.ref p := r1
  rcases q1 with ⟨hq, q⟩ | ⟨hq, q⟩
  · obtain ⟨h1, h2⟩ := tyV_is (T := "list") (x := .ref p) (v := .ref p) I1 rfl (.inl ⟨rfl, ys, hq⟩)
    refine ⟨"list", "list.index", PySem.F.plainAttrs_list, PySem.F.slot_list_index, PySem.F.type_list_index, h1, h2, ?_⟩
    have hB := hA.run cpos pins s1 σ H1 (fun xs H2 => match xs with | [y] => ∃ j, SqL X.K H2 p ys ∧ FstAt ys y j ∧ Q (.int (j : Nat)) H2 | _ => False) I1 q
    rw [hs] at hB ⊢
    refine Calls.callWith_builtin rfl (Calls.evalArgs_plain ?_)
    exact thn hB fun us s2 ⟨vs, H2, I2, r2, q2⟩ => match vs, r2, q2 with
      | [y], r2, ⟨j, g1, ⟨f1, f2, ⟨z, hz, hzy⟩, hno⟩, g3⟩ => mt_index pins s2 σ H2 (.ref p) [y] (.ref p) us Q I2 rfl r2 ⟨p, ys, y, j, z, rfl, rfl, g1, f1, f2, hz, hzy, hno, g3⟩
  · obtain ⟨h1, h2⟩ := tup_is I1 hq
    refine ⟨"tuple", "tuple.index", PySem.F.plainAttrs_tuple, PySem.F.slot_tuple_index, PySem.F.type_tuple_index, h1, h2, ?_⟩
    have hB := hA.run cpos pins s1 σ H1 (fun xs H2 => match xs with | [y] => ∃ j, TupAt X.K H2 p ys ∧ FstAt ys y j ∧ Q (.int (j : Nat)) H2 | _ => False) I1 q
    rw [hs] at hB ⊢
    refine Calls.callWith_builtin rfl (Calls.evalArgs_plain ?_)
    exact thn hB fun us s2 ⟨vs, H2, I2, r2, q2⟩ => match vs, r2, q2 with
      | [y], r2, ⟨j, g1, g2, g3⟩ => mt_idxT pins s2 σ H2 (.ref p) [y] (.ref p) us Q I2 rfl r2 ⟨p, ys, y, j, rfl, rfl, g1.sq, g2, g3⟩
theorem same_sqL {a : Addr} {xs : List V} (e : Same H H') (h : SqL K H a xs) : SqL K H' a xs := by
  rcases h with (h | ⟨o, h⟩) | h
  · exact .inl (.inl (e _ _ h))
  · exact .inl (.inr ⟨o, e _ _ h⟩)
  · exact .inr h
theorem RepM.seqT (s : Same F H) (z : Same H0 H) {m : M} {v : V} {fp : List Addr} {l : List D} (e : m.seqD = some l) (r : RepM K F H0 H m v fp) : ∃ a vs, v = .ref a ∧ (SqL K H a vs ∨ TupAt K H a vs) ∧ RepDs K F l vs := by
  unfold M.seqD at e
  split at e
  · cases e
    obtain ⟨a, vs, e, q, r⟩ := (by have := r.ofD.2; unfold RepD at this; exact this)
    exact ⟨a, vs, e, .inr (q.same s), r⟩
  · cases e
    obtain ⟨a, vs, e, q, r⟩ := (by have := r.ofD.2; unfold RepD at this; exact this)
    exact ⟨a, vs, e, .inl (SqL.of (s _ _ q)), r⟩
  · cases e
    obtain ⟨a, vs, e, q, r⟩ := (by have := r.ofD.2; unfold RepD at this; exact this)
    exact ⟨a, vs, e, .inl (s.seq q), r⟩
  · cases e
    unfold RepM at r
    obtain ⟨a, vs, e, q, r⟩ := r
    exact ⟨a, vs, e, .inl (SqL.of (q.now z)), r⟩
  · cases e
/-- the first place of a plain item that is equal -/
def idxD (d : D) (l : List D) : Option Nat := l.findIdx? fun z => eqV z.toV d.toV
theorem idx_fst {d : D} {l : List D} {j : Nat} (h : idxD d l = some j) (f1 : L2.flatV d.toV = true) (f2 : (l.map D.toV).all L2.flatV = true) : FstAt (l.map D.toV) d.toV j := by
  unfold idxD at h
  obtain ⟨hj, h1, h2⟩ := List.findIdx?_eq_some_iff_getElem.mp h
  refine ⟨f1, f2, ⟨l[j].toV, by rw [List.getElem?_map, List.getElem?_eq_getElem hj]; rfl, h1⟩, fun m z hm e => ?_⟩
  have hml : m < l.length := by omega
  rw [List.getElem?_map, List.getElem?_eq_getElem hml] at e
  have e : l[m].toV = z := by simpa using e
  have := h2 m hm
  rw [← e]
  simpa using this
def wIdx (wo wa : TW) : TW := fun ρ Q E => wo ρ (fun x => match x.seqD with
  | some l => wa ρ (fun y => match y with
    | .d d => d.flat = true ∧ l.all D.flat = true ∧ ∃ j, idxD d l = some j ∧ Q (.d (.int (j : Nat)))
    | _ => False) E
  | none => False) E
theorem q_idx {wo wa : TW} (ho : QE X o wo) (ha : QE X e wa) (hbase : attributeBase o "index" X.env (eval o X.env) = eval o X.env := by rfl)
    (hfew : ((backTo cpos (starEach [e] X.env)).all (fun x => !x.1) && (backToKw cpos (keywordEach [] X.env)).all (fun x => x.1.isSome) && decide (([e] : List Expr).length + ([] : List Keyword).length + (if ([] : List Keyword).isEmpty then 0 else 1) < 30)) = true := by rfl)
    (hline : (apos.endLine == cpos.line) = true := by rfl) (hs : starEach [e] X.env = [(false, eval e X.env)] := by rfl) : QE X (.Call (.Attribute o "index" apos) [e] [] cpos) (wIdx wo wa) where
  mono := fun hq he h => ho.mono (fun x z => by
    split at z
    · exact ha.mono (fun y z => by
        split at z
        · obtain ⟨f1, f2, j, e, q⟩ := z; exact ⟨f1, f2, j, e, hq _ q⟩
        · exact z) he z
    · exact z) he h
  run := fun W F0 H0 tk => peImp (pe_idx (ho.run W F0 H0 tk) (ha.run W F0 H0 tk) hbase hfew hline hs) fun σ H Qh ⟨ρ, F, rel, z⟩ => by
    refine ⟨ρ, F, rel, ho.mono (fun x hx v1 H1 F1 fx x1 rx _ _ => ?_) (fun _ q => q) z⟩
    split at hx
    · rename_i l el
      have rel1 := rel.ext x1
      obtain ⟨a, vs, e1, hq, r⟩ := rx.seqT x1.s (rel.e.h.trans x1.h) el
      refine ⟨a, vs, e1, ?_⟩
      have fin : ∀ (G : Hp → Prop), (∀ H2, Same H1 H2 → G H2) → liftE X W F0 H0 wa σ H1 fun y H2 => ∃ j, G H2 ∧ FstAt vs y j ∧ Qh (.int (j : Nat)) H2 := fun G hG => by
        refine ⟨ρ, F1, rel1, ha.mono (fun y hy v2 H2 F2 fy x2 ry _ _ => ?_) (fun _ q => q.ext x1) hx⟩
        split at hy
        · rename_i d
          obtain ⟨f1, f2, j, ej, q⟩ := hy
          obtain ⟨y1, y2⟩ := ry.ofD.2.flatV f1
          obtain ⟨z1, z2⟩ := r.flatV f2
          refine ⟨j, hG H2 x2.h, ?_, ((q.ext x1).ext x2).here (rel1.ext x2).s (.d .int)⟩
          rw [z1, y1]
          exact idx_fst ej (by rw [← y1]; exact y2) (by rw [← z1]; exact z2)
        · exact hy.elim
      rcases hq with hq | hq
      · exact .inl ⟨hq, fin _ fun H2 s2 => same_sqL s2 hq⟩
      · exact .inr ⟨hq, fin _ fun H2 s2 => hq.same s2⟩
    · exact hx.elim
/-- x.extend(e), e a list of pure items -/
def wExt (i : Nat) (we : TW) : TSW := fun D ρ => onFl ρ i fun l => we ρ (fun m => ∃ l2, m.lstD = some l2 ∧ l.length + l2.length ≤ sizeLine ∧ D.nx (ρ.set i (some (.fl .o (l ++ l2))))) (D.ex ρ)
theorem s_ext {we : TW} {x : Str} {p : Pos} {spos : Pos} (i : Nat) (he : QE X e we) (hN : X.N[i]? = some x := by rfl) (hv : Vis X.env.scope x := by first | exact Or.inl rfl | exact Or.inr (Or.inl rfl) | exact Or.inr (Or.inr rfl)) (hd : (x == ("__debug__" : Str)) = false := by decide) (hcd : (x == ("__classdict__" : Str)) = false := by decide)
    (hfew : ((backTo cpos (starEach [e] X.env)).all (fun x => !x.1) && (backToKw cpos (keywordEach [] X.env)).all (fun x => x.1.isSome) && decide (([e] : List Expr).length + ([] : List Keyword).length + (if ([] : List Keyword).isEmpty then 0 else 1) < 30)) = true := by rfl)
    (hline : (apos.endLine == cpos.line) = true := by rfl) (hs : starEach [e] X.env = [(false, eval e X.env)] := by rfl) (hbase : attributeBase (.Name x p) "extend" X.env (eval (.Name x p) X.env) = eval (.Name x p) X.env := by rfl) (hsw : swapsWith (.Call (.Attribute (.Name x p) "extend" apos) [e] [] cpos) none spos.line X.env = pure false := by rfl) :
    QS X (.Expr (.Call (.Attribute (.Name x p) "extend" apos) [e] [] cpos) spos) [] (wExt i we) where
  mono := fun l h => onFl_mono (fun _ z => he.mono (fun m ⟨y, e, h1, q⟩ => ⟨y, e, h1, l.nx _ q⟩) (l.ex _) z) h
  run := fun W F0 H0 tk => psImp (ps_expr (pe_bm PySem.F.plainAttrs_list PySem.F.slot_list_extend PySem.F.type_list_extend mt_extend (pe_var hN hv hd hcd) (pa_cons (he.run W F0 H0 tk) pa_nil hs) hbase hfew hline hs rfl) hsw) fun D σ H ⟨ρ, F, rel, z⟩ => by
    obtain ⟨a, vs, l, e0, h1, h2, h3, q, _⟩ := mut_fl rel z
    refine ⟨.ref a, h1, .inl ⟨rfl, vs, SqL.of h2⟩, ρ, F, rel, he.mono (fun m hm => ?_) (fun _ z => exq rel z) q⟩
    obtain ⟨l2, hy, hl, q⟩ := hm
    intro v H1 F1 fp x1 r hf hn
    obtain ⟨b, ws, ev, hb, r2⟩ := r.lst x1.s (rel.e.h.trans x1.h) hy
    obtain ⟨vs', g2, g3, g4⟩ := fl_later rel x1 e0 h1
    exact ⟨a, b, vs', ws, rfl, by rw [ev], g2, hb, by rw [← g3.length, ← r2.length]; exact hl, q _ F1 _ x1.f (g4 _ _ (g3.append r2)) .refl⟩
end
end RT
namespace RT
open PySem PySem.Spec PyProof.Rows L2
/-! ### len(set(xs)) of unlike whole numbers, xs a list or a tuple; min, max of whole numbers -/
section
variable {X : Cx} {K : PySem.W.Frag} {F F' H H' H0 F0 : Hp}
def tLenU (K : PySem.W.Frag) (ta : TE) : TE := fun σ H Q => ta σ H fun x H1 => ∃ (l : Addr) (ns : List Int), x = V.ref l ∧ (SqL K H1 l (ns.map V.int) ∨ SqT K H1 l (ns.map V.int)) ∧ ns.Nodup ∧ ns.length ≤ 60 ∧ Q (V.int (ns.length : Nat)) H1
theorem len_same {ks ns : List Int} (h1 : ks.Nodup) (h2 : ns.Nodup) (h : ∀ k, k ∈ ks ↔ k ∈ ns) : ks.length = ns.length := ((List.perm_ext_iff_of_nodup h1 h2).mpr h).length_eq
theorem pe_lenU {a : Expr} {ta : TE} {p p2 q pos : Pos} (clm : X.calm = true) (g1 : Gl X "len") (n1 : X.mg "len" = none) (g2 : Gl X "set") (n2 : X.mg "set" = none) (pa : PE X a ta)
    (st : starEach [a] X.env = (false, eval a X.env) :: starEach [] X.env := by rfl) : PE X (.Call (.Name "len" p) [.Call (.Name "set" p2) [a] [] q] [] pos) (tLenU X.K ta) := by
  refine ⟨fun pins s σ H Q I start => ?_⟩
  refine Call_ (ld_blt I g1 n1 PySem.boot_len ?_)
  refine PyProof.Rows.callWith_builtin1 (PyProof.Rows.args_cons ?_ rfl) rfl (by rfl)
  refine Call_ (ld_blt I g2 n2 PyProof.Rows.boot_set ?_)
  refine PyProof.Rows.callWith_type1 (PyProof.Rows.args_cons (thn (pa.run pins s σ H _ I start) fun val t1 ⟨x, H1, J, rx, z⟩ => PyProof.Rows.args_nil ?_) st) st rfl
  obtain ⟨l, ns, rfl, either, nd, few, fin⟩ := z
  obtain rfl : val = Value.ref l := rx
  rcases either with hq | hq
  · obtain ⟨its, rv, pl, _⟩ := J.list hq
    have sz : its.toArray.size = ns.length := by rw [List.size_toArray, ← rv.length, List.length_map]
    refine PySem.call_set_list (ns := ns) (J.ok.hd clm) pl.isList (by simpa using rv.ints) (by rw [sz]; unfold scanBound; omega) fun h' tk so keep => ?_
    refine PyProof.Rows.args_nil ?_
    rw [sz, RZ.firstMet_nodup nd ns.length (Nat.le_refl _), List.take_length] at so
    obtain ⟨o, es, ep, t, ho, hex, hd, _, _, _, hf, hn⟩ := so
    have J2 : Inv X pins σ H1 { t1 with heap := h', toks := tk } := J.kept fun b o e => keep b o (Heap.lt_size e) e
    exact call_len_set ho hex hd hf (by rw [hn] <;> omega) ⟨.int ns.length, H1, J2.tok _, ⟨_, by rw [hn]⟩, fin⟩
  · obtain ⟨its, rv, pl, _⟩ := J.tuple hq
    refine call_set_tupI ns (J.ok.hd clm) pl (by simpa using rv.ints) (by unfold scanBound; omega) fun h' tk c so _ keep => ?_
    refine PyProof.Rows.args_nil ?_
    obtain ⟨o, es, ep, t, ho, hex, hd, _, nk, mem, _, hf, hn, _⟩ := so
    have hc : es.size = ns.length := by
      have := len_same nk nd fun k => by rw [← mem k]; simp
      rw [List.length_map, Array.length_toList] at this
      exact this
    have J2 : Inv X pins σ H1 { t1 with heap := h', toks := tk } := J.kept fun b o e => keep b o e
    exact call_len_set ho hex hd hf (by rw [hc] <;> omega) ⟨.int ns.length, H1, J2.tok _, ⟨_, by rw [hc]⟩, fin⟩
def wLenU (wa : TW) : TW := fun ρ Q E => wa ρ (fun m => ∃ l ns, m.seqD = some l ∧ D.ints l = some ns ∧ ns.Nodup ∧ ns.length ≤ 60 ∧ Q (.d (.int (ns.length : Nat)))) E
theorem q_lenU {a : Expr} {wa : TW} {p p2 q pos : Pos} (hc : X.calm = true) (hg : Gl X "len") (hm : X.mg "len" = none) (hg2 : Gl X "set") (hm2 : X.mg "set" = none) (ha : QE X a wa)
    (hs : starEach [a] X.env = (false, eval a X.env) :: starEach [] X.env := by rfl) : QE X (.Call (.Name "len" p) [.Call (.Name "set" p2) [a] [] q] [] pos) (wLenU wa) where
  mono := fun hq h z => ha.mono (fun m ⟨l, ns, e1, e2, e3, e4, q⟩ => ⟨l, ns, e1, e2, e3, e4, hq _ q⟩) h z
  run := fun W F0 H0 tk => peImp (pe_lenU hc hg hm hg2 hm2 (ha.run W F0 H0 tk) hs) fun σ H Qh ⟨ρ, F, rel, z⟩ =>
    ⟨ρ, F, rel, ha.mono (fun m ⟨l, ns, e1, e2, e3, e4, q⟩ v H1 F1 fp x rm _ _ => by
      obtain ⟨b, vs, ev, hq, r⟩ := rm.seq x.s (rel.e.h.trans x.h) e1
      exact ⟨b, ns, ev, by rw [← r.ints e2]; exact hq, e3, e4, (q.ext x).here x.s (.d .int)⟩) (fun _ q => q) z⟩
def wMin : WCl := fun xs Q => on1 (fun m => ∃ ns, m.lstI = some ns ∧ 0 < ns.length ∧ ∀ k ∈ ns, (∀ y ∈ ns, k ≤ y) → Q (.d (.int k))) xs
def wMax : WCl := fun xs Q => on1 (fun m => ∃ ns, m.lstI = some ns ∧ 0 < ns.length ∧ ∀ k ∈ ns, (∀ y ∈ ns, y ≤ k) → Q (.d (.int k))) xs
theorem s_min : CalS X (rMin X.K) wMin where
  mono := fun h q => on1_mono (fun m ⟨ns, e, l, q⟩ => ⟨ns, e, l, fun k hk hy => h _ (q k hk hy)⟩) q
  run := fun {H0 F H xs vs fp Q Qh} s z rs q h => by
    obtain ⟨m, e, ns, hl, hn, qq⟩ := on1_of q
    clear q
    subst e
    obtain ⟨v, e, r⟩ := rs.one
    subst e
    obtain ⟨a, e1, p⟩ := r.lstI s z hl
    exact ⟨a, ns, by rw [e1], p, hn, fun k hk hy => (h _ (qq k hk hy)).here s (.d .int)⟩
theorem s_max : CalS X (rMax X.K) wMax where
  mono := fun h q => on1_mono (fun m ⟨ns, e, l, q⟩ => ⟨ns, e, l, fun k hk hy => h _ (q k hk hy)⟩) q
  run := fun {H0 F H xs vs fp Q Qh} s z rs q h => by
    obtain ⟨m, e, ns, hl, hn, qq⟩ := on1_of q
    clear q
    subst e
    obtain ⟨v, e, r⟩ := rs.one
    subst e
    obtain ⟨a, e1, p⟩ := r.lstI s z hl
    exact ⟨a, ns, by rw [e1], p, hn, fun k hk hy => (h _ (qq k hk hy)).here s (.d .int)⟩
theorem q_min {a : Expr} {wa : TW} {p pos : Pos} (hc : X.calm = true) (hg : Gl X "min") (hm : X.mg "min" = none) (ha : QE X a wa) (hs : starEach [a] X.env = [(false, eval a X.env)] := by rfl) : QE X (.Call (.Name "min" p) [a] [] pos) (wCl wMin (wCons wa wNil)) :=
  q_cb s_min (cr_min hc) hg hm (by decide +kernel) (qa_cons ha qa_nil hs) (by decide) (by decide) hs rfl
theorem q_max {a : Expr} {wa : TW} {p pos : Pos} (hc : X.calm = true) (hg : Gl X "max") (hm : X.mg "max" = none) (ha : QE X a wa) (hs : starEach [a] X.env = [(false, eval a X.env)] := by rfl) : QE X (.Call (.Name "max" p) [a] [] pos) (wCl wMax (wCons wa wNil)) :=
  q_cb s_max (cr_max hc) hg hm (by decide +kernel) (qa_cons ha qa_nil hs) (by decide) (by decide) hs rfl
end
end RT
namespace RT
open PySem PySem.Spec PyProof.Rows L2
/-! ### min(xs) of data of one kind, xs a list or a tuple: an item that no other is less than, by its place -/
section
variable {X : Cx} {K : PySem.W.Frag} {F F' H H' H0 F0 : Hp}
def rLeast (K : PySem.W.Frag) : List V → Hp → VK → Prop := fun vs H Q => ∃ (a : Addr) (bs : List V) (x : PyData) (xs : List PyData), vs = [V.ref a] ∧ (SqL K H a bs ∨ SqT K H a bs) ∧ DpAll K H bs (x :: xs) ∧ PySem.W.AlikeAll (x :: xs) ∧ PyData.depthAll (x :: xs) ≤ 40 ∧
  ∀ (i : Nat) (b : V), bs[i]? = some b → (x :: xs)[i]? = some (PySem.W.minD x xs) → Q b H
theorem minD_mem : ∀ (xs : List PyData) (x : PyData), PySem.W.minD x xs ∈ x :: xs
  | [], x => List.mem_cons_self
  | y :: xs, x => by
    show PySem.W.minD (if PySem.W.dataLt y x then y else x) xs ∈ _
    split
    · exact List.mem_cons_of_mem _ (minD_mem xs y)
    · rcases List.mem_cons.mp (minD_mem xs x) with e | h
      · rw [e]; exact List.mem_cons_self
      · exact List.mem_cons_of_mem _ (List.mem_cons_of_mem _ h)
theorem cr_least (clm : X.calm = true) (hu : X.A.units + 64 < cLine) : CallR X (.builtin "min") (rLeast X.K) := by
  intro pins s σ H vs us Q I r start
  obtain ⟨a, bs, x, xs, rfl, either, dp, al, few, fin⟩ := start
  rw [Vals.ref1 r]
  have key : ∀ (its : List Value), Vals bs its → ∃ as, ReadsAll s.heap its.toArray.toList (x :: xs) as := fun its rv => by
    obtain ⟨as, h⟩ := Dp.readsAll I _ _ _ dp rv
    exact ⟨as, by simpa using h⟩
  have done : ∀ (its : List Value), Vals bs its → ∀ (i : Nat) (v : Value) (h' : Heap) (tk : Nat) (cs : List Addr), its.toArray[i]? = some v → Reads h' v (PySem.W.minD x xs) cs → (∀ b o, s.heap.get? b = some o → h'.get? b = some o) → EP X pins σ Q v { s with heap := h', toks := tk } := fun its rv i v h' tk cs hi hr keep => by
    have hi2 : its[i]? = some v := by simpa using hi
    obtain ⟨hil, _⟩ := List.getElem?_eq_some_iff.mp hi2
    have hbl : i < bs.length := by rw [rv.length]; exact hil
    have hb : bs[i]? = some bs[i] := List.getElem?_eq_getElem hbl
    obtain ⟨v2, e2, rb⟩ := rv.get hb
    rw [hi2] at e2
    cases e2
    obtain ⟨as, ra⟩ := key its rv
    obtain ⟨cs2, r2, hlt, hm, _⟩  := PySem.W.readsAll_at (vs := its) (by simpa using ra) i v hi2
    have e3 : (x :: xs).getD i PyData.none = PySem.W.minD x xs := PySem.W.alike_unique _ _ _ _ _ (al.1 _ hm _ (minD_mem xs x)) (PySem.W.reads_keeps keep r2) hr
    refine ⟨bs[i], H, I.kept keep, rb, fin i _ hb ?_⟩
    rw [List.getD_eq_getElem?_getD, List.getElem?_eq_getElem hlt] at e3
    rw [List.getElem?_eq_getElem hlt]
    exact congrArg some e3
  rcases either with hq | hq
  · obtain ⟨its, rv, pl, _⟩ := I.list hq
    obtain ⟨as, ra⟩ := key its rv
    exact PySem.W.min_list_data (I.ok.hd clm) pl.isList ra al (by omega) fun i v h' tk cs h1 h2 h3 => done its rv i v h' tk cs h1 h2 h3
  · obtain ⟨its, rv, pl, _⟩ := I.tuple hq
    obtain ⟨as, ra⟩ := key its rv
    exact PySem.W.min_tuple_data (I.ok.hd clm) pl ra al (by omega) fun i v h' tk cs h1 h2 h3 => done its rv i v h' tk cs h1 h2 h3
theorem pys_map : ∀ l : List D, D.pys l = l.map D.py
  | [] => by unfold D.pys; rfl
  | x :: l => by unfold D.pys; rw [pys_map l]; rfl
theorem RepDs.at {l : List D} {vs : List V} (r : RepDs K F l vs) {i : Nat} {b : V} {d : D} (hb : vs[i]? = some b) (hd : l[i]? = some d) : RepD K F d b := by
  induction l generalizing vs i with
  | nil => cases hd
  | cons x l ih =>
    unfold RepDs at r
    obtain ⟨u, w, e, r1, r2⟩ := r
    subst e
    cases i with
    | zero => cases hb; cases hd; exact r1
    | succ i => exact ih r2 (by simpa using hb) (by simpa using hd)
def wLeast : WCl := fun xs Q => on1 (fun m => ∃ y l, m.seqD = some (y :: l) ∧ PySem.W.AlikeAll ((y :: l).map D.py) ∧ (RT.D.tup (y :: l)).dp ≤ 40 ∧ ∀ (i : Nat) (z : D), (y :: l)[i]? = some z → z.py = PySem.W.minD y.py (l.map D.py) → Q (.d z)) xs
theorem s_least : CalS X (rLeast X.K) wLeast where
  mono := fun h q => on1_mono (fun m ⟨y, l, e, h1, h2, q⟩ => ⟨y, l, e, h1, h2, fun i z hi hz => h _ (q i z hi hz)⟩) q
  run := fun {H0 F H xs vs fp Q Qh} s z rs q h => by
    obtain ⟨m, e, y, l, hl, al, dp, qq⟩ := on1_of q
    clear q
    subst e
    obtain ⟨v, e, r⟩ := rs.one
    subst e
    obtain ⟨a, us, e1, either, rl⟩ := r.seq s z hl
    have lay := lay_all _ (Nat.le_trans dp (by decide))
    have c : PyData.canLayAll0 (D.pys (y :: l)) = true := by
      have := lay.1
      unfold D.py PyData.canLay0 at this
      exact this
    have d := RepDs.dp s c rl
    have dep : PyData.depthAll (D.pys (y :: l)) ≤ 40 := by
      have := lay.2
      unfold D.py PyData.depth at this
      omega
    have e2 : D.pys (y :: l) = y.py :: l.map D.py := pys_map _
    rw [e2] at d dep
    refine ⟨a, us, y.py, l.map D.py, by rw [e1], either, d, al, dep, fun i b hb hm => ?_⟩
    have hil : i < (y :: l).length := by
      have := (List.getElem?_eq_some_iff.mp hm).1
      simpa using this
    have hz : (y :: l)[i]? = some (y :: l)[i] := List.getElem?_eq_getElem hil
    have hm2 : ((y :: l).map D.py)[i]? = some (PySem.W.minD y.py (l.map D.py)) := hm
    rw [List.getElem?_map, hz] at hm2
    have hm3 : ((y :: l)[i]).py = PySem.W.minD y.py (l.map D.py) := by simpa using hm2
    exact (h _ (qq i _ hz hm3)).here s (.d (rl.at hb hz))
theorem q_least {a : Expr} {wa : TW} {p pos : Pos} (hu : X.A.units + 64 < cLine) (hc : X.calm = true) (hg : Gl X "min") (hm : X.mg "min" = none) (ha : QE X a wa) (hs : starEach [a] X.env = [(false, eval a X.env)] := by rfl) : QE X (.Call (.Name "min" p) [a] [] pos) (wCl wLeast (wCons wa wNil)) :=
  q_cb s_least (cr_least hc hu) hg hm (by decide +kernel) (qa_cons ha qa_nil hs) (by decide) (by decide) hs rfl
end
end RT
namespace RT
open PySem PySem.Spec PyProof.Rows L2
/-! ### for .. in x, x a list of one's own in a slot that the loop neither sets nor changes -/
section
variable {X : Cx}
def OwnL (n : Nat) (l : List D) (ρ : Sg) : Prop := ρ[n]? = some (some (.fl .o l))
def wLoopV (n : Nat) (l0 : List D) (g : TGD) (wb : TSW) (D : EndW) : List RT.D → Sg → Prop
  | [], ρ => OwnL n l0 ρ ∧ D.nx ρ
  | x :: xs, ρ => OwnL n l0 ρ ∧ g x ρ (fun ρ' => wb { nx := wLoopV n l0 g wb D xs, rt := D.rt, bk := D.nx, ct := wLoopV n l0 g wb D xs, ex := D.ex } ρ')
def wForV (n : Nat) (g : TGD) (wb : TSW) : TSW := fun D ρ => ∃ l, OwnL n l ρ ∧ l.length ≤ 16777216 ∧ wLoopV n l g wb D l ρ
theorem wLoopV_mono {tg : Expr} {b : List Stmt} {as bs : List Nat} {n : Nat} {l0 : List RT.D} {g : TGD} {wb : TSW} (hg : QG X tg as g) (hb : QSs X b bs wb) {D D' : EndW} (l : D.Le D') : ∀ (xs : List RT.D) (ρ : Sg), wLoopV n l0 g wb D xs ρ → wLoopV n l0 g wb D' xs ρ
  | [], ρ, h => ⟨h.1, l.nx _ h.2⟩
  | x :: xs, ρ, h => by
    unfold wLoopV at h ⊢
    exact ⟨h.1, hg.mono (fun ρ' q => hb.mono (D := { nx := wLoopV n l0 g wb D xs, rt := D.rt, bk := D.nx, ct := wLoopV n l0 g wb D xs, ex := D.ex }) ⟨fun ρ z => wLoopV_mono hg hb l xs ρ z, l.rt, l.nx, fun ρ z => wLoopV_mono hg hb l xs ρ z, l.ex⟩ q) h.2⟩
theorem s_forV {tg : Expr} {b : List Stmt} {as bs : List Nat} {n : Nat} {x : Str} {p : Pos} {g : TGD} {wb : TSW} {pos : Pos} (hc : X.calm = true) (hp : ∀ W, Takes X W → PassesOwn (model X.prog X.w) X.A X.env X.xe) (hg : QG X tg as g) (hb : QSs X b bs wb)
    (hn : n ∉ as ++ bs := by decide) (hN : X.N[n]? = some x := by rfl) (hv : Vis X.env.scope x := by first | exact Or.inl rfl | exact Or.inr (Or.inl rfl) | exact Or.inr (Or.inr rfl)) (hd : (x == ("__debug__" : Str)) = false := by decide) (hcd : (x == ("__classdict__" : Str)) = false := by decide)
    (hs : ∀ y, foldedSetIterable (.Name x p) X.env y = pure y := by intro _; rfl) : QS X (.For tg (.Name x p) b [] pos) (as ++ bs) (wForV n g wb) where
  mono := fun l ⟨l0, h1, h2, h3⟩ => ⟨l0, h1, h2, wLoopV_mono hg hb l l0 _ h3⟩
  run := fun W F0 H0 tk => psImp (ps_for (hp W tk) hc (pi_seq (pe_var hN hv hd hcd)) (hg.run F0 H0) (hb.run W F0 H0 tk) hs) fun D σ H ⟨ρ, F, rel, l, e0, hz, hl⟩ => by
    obtain ⟨a, vs, h1, h2, h3, _⟩ := rel.updFl rfl e0
    refine ⟨.ref a, h1, a, rfl, .inl ⟨vs, SqL.of h2, fun _ => ?_⟩⟩
    generalize hD : endsOf X W F0 H0 (as ++ bs) σ F D = DD at hl
    refine ⟨fun i m σ' H' => m = l.length - i ∧ i ≤ l.length ∧ ∃ ρ' F', Same F F' ∧ Rel X.K F0 H0 ρ' σ' [] [] F' H' ∧ Frm (as ++ bs) σ σ' ∧ wLoopV n l g wb DD (l.drop i) ρ', ⟨l.length, by simp, Nat.zero_le _, ρ, F, .refl _, rel, .refl, by simpa using hl⟩, ?_⟩
    rintro i m σ' H' ⟨rfl, hi', ρ', F', s1, rel', f', q⟩
    have here : ∀ {ρ1 : Sg} {σ1 : L2.St} {F1 H1 : Hp}, OwnL n l ρ1 → Rel X.K F0 H0 ρ1 σ1 [] [] F1 H1 → Frm (as ++ bs) σ σ1 → ∃ ws, SqL X.K H1 a ws ∧ RepDs X.K F1 l ws := fun o r f => by
      obtain ⟨a2, ws, k1, k2, k3, _⟩ := r.updFl rfl o
      rw [f.2 n hn, h1] at k1
      cases k1
      exact ⟨ws, SqL.of k2, k3⟩
    by_cases hlt : i < l.length
    · have hx : l[i]? = some l[i] := List.getElem?_eq_getElem hlt
      rw [List.drop_eq_getElem_cons hlt] at q
      generalize l[i] = y at hx q
      unfold wLoopV at q
      obtain ⟨o, q⟩ := q
      obtain ⟨ws, k2, k3⟩ := here o rel' f'
      obtain ⟨u, hu, ru⟩ := k3.get hx
      refine .inr ⟨⟨ws, u, k2, hu⟩, fun σ2 H2 => ∃ ρ2 F2, Same F F2 ∧ Rel X.K F0 H0 ρ2 σ2 [] [] F2 H2 ∧ Frm (as ++ bs) σ σ2 ∧ wLoopV n l g wb DD (l.drop (i + 1)) ρ2, fun σ2 H2 h2 => ⟨l.length - (i + 1), by omega, rfl, hlt, h2⟩, fun v H2 ⟨e1, yy⟩ => ?_⟩
      subst e1
      have := yy ws k2
      rw [hu] at this
      cases this
      refine ⟨ρ', F', y, rel', ru, hg.mono (fun ρ3 h3 σ3 rel3 f3 => ?_) q⟩
      refine ⟨ρ3, F', rel3, hb.mono ?_ h3⟩
      have f4 : Frm (as ++ bs) σ σ3 := f'.trans f3 (fun _ z => z) fun i hi => List.mem_append_left _ hi
      refine ⟨fun ρ4 h4 => ?_, fun y z => ?_, fun ρ4 z => ?_, fun ρ4 h4 => ?_, fun ρ4 y z => ?_⟩
      · exact fun σ4 F4 H4 s4 r4 f5 => ⟨ρ4, F4, s1.trans s4, r4, f4.trans f5 (fun _ z => z) fun i hi => List.mem_append_right _ hi, h4⟩
      · subst hD
        exact fun hr v F4 H4 fp s4 => z hr v F4 H4 fp (s1.trans s4)
      · subst hD
        exact fun σ4 F4 H4 s4 r4 f5 => z σ4 F4 H4 (s1.trans s4) r4 (f4.trans f5 (fun _ z => z) fun i hi => List.mem_append_right _ hi)
      · exact fun σ4 F4 H4 s4 r4 f5 => ⟨ρ4, F4, s1.trans s4, r4, f4.trans f5 (fun _ z => z) fun i hi => List.mem_append_right _ hi, h4⟩
      · subst hD
        exact z
    · have e : i = l.length := by omega
      subst e
      rw [List.drop_length] at q
      unfold wLoopV at q
      obtain ⟨o, q⟩ := q
      obtain ⟨ws, k2, k3⟩ := here o rel' f'
      refine .inl ⟨⟨ws, k2, by rw [k3.length]; exact Nat.le_refl _⟩, ?_⟩
      subst hD
      exact q σ' F' H' s1 rel' f'
end
end RT
namespace RT
open PySem PySem.Spec PyProof.Rows L2
/-! ### raise -/
section
variable {X : Cx} {x f m : Str} {j : Nat} {p p2 pos pos' : Pos} {e : Expr} {we : TW} {ρ : Sg} {σ : L2.St} {F0 H0 F H F1 H1 : Hp} {W : WX}
/-- raise x('..') -/
def wRaise0 (x : Str) : TSW := fun D ρ => D.ex ρ ⟨x, []⟩
theorem s_raise0 (hc : X.calm = true) (hx : X.mg x = some (.ref (He.ga X.K x))) (hf : (He.Fa.exc x).ok X.K = true) (hg : Gl X x) (hdb : (x == ("__debug__" : Str)) = false := by decide) :
    QS X (.Raise (some (.Call (.Name x p) [.Constant (.str m) j p2] [] pos)) none pos') [] (wRaise0 x) where
  mono := fun l h => l.ex _ _ h
  run := fun W F0 H0 tk => by
    obtain ⟨q, kC, h1, h2⟩ := He.exc_ok hf
    exact psImp (ps_raise hc tk (pmk_own PySem.F.excBase_ValueError q hx kC (raises_own h1 h2) hg hdb)) fun D σ H ⟨ρ, F, rel, h⟩ => h _ none σ F H rel ⟨rfl, rfl⟩
/-- __init__(self, f): the base's __init__; self.f = f -/
def spInit (K : PySem.W.Frag) (f : Str) : Sp := fun vs H Q _ => ∃ a C y, vs = [.ref a, y] ∧ OexC K C ∧ PySem.W.findIn K (.ref C) f = some none ∧ H a = some (exo a C none) ∧
  ∀ dx, H dx = none → dx ≠ a → Q .non (upd (upd H dx (exd dx [(f, y)])) a (exo a C (some dx)))
structure IniOk (P : Program) (w : World) (K : PySem.W.Frag) (mg : Str → Option Value) (base : Heap) (x f : Str) (k : Nat) : Prop where
  T : OexC K (He.ga K x)
  hm : mg x = some (.ref (He.ga K x))
  no : PySem.W.findIn K (.ref (He.ga K x)) f = some none
  ex : ∃ fI fd, PySem.W.findIn K (.ref (He.ga K x)) "__init__" = some (some (.ref fI)) ∧ PySem.W.typeIn K (.ref fI) = some (.type "function") ∧ FnOk P w K mg base (L2.CX P w) k fI fd ["self", f] (spInit K f) ∧ Binds K fd ["self", f] []
theorem IniOk.up {P : Program} {w : World} {K : PySem.W.Frag} {mg : Str → Option Value} {base : Heap} {x f : Str} {j k : Nat} (I : IniOk P w K mg base x f j) (l : j ≤ k) : IniOk P w K mg base x f k :=
  ⟨I.T, I.hm, I.no, let ⟨fI, fd, h1, h2, h3, h4⟩ := I.ex; ⟨fI, fd, h1, h2, h3.mono l, h4⟩⟩
def onDx (Q : D → Prop) : M → Prop := fun m => match m with
  | .d y => Q y
  | _ => False
theorem onDx_d {Q : D → Prop} {y : D} : onDx Q (.d y) = Q y := rfl
def wRaise1 (x f : Str) (we : TW) : TSW := fun De ρ => we ρ (onDx fun y => De.ex ρ ⟨x, [(f, y)]⟩) (De.ex ρ)
theorem s_raise1 {k : Nat} (hc : X.calm = true) (I : IniOk X.prog X.w X.K X.mg X.base x f k) (hr : Room (k + 1) X.A) (hg : Gl X x) (he : QE X e we) (hs : starEach [e] X.env = [(false, eval e X.env)] := by rfl) (hdb : (x == ("__debug__" : Str)) = false := by decide) :
    QS X (.Raise (some (.Call (.Name x p) [e] [] pos)) none pos') [] (wRaise1 x f we) where
  mono := fun l h => he.mono (fun m q => by unfold onDx at q ⊢; split at q <;> first | exact l.ex _ _ q | exact q) (l.ex _) h
  run := fun W F0 H0 tk => by
    obtain ⟨fI, fd, iC, tI, F1, hb⟩ := I.ex
    refine psImp (ps_raise hc tk (pmk_oex I.T iC tI F1 hr hb .nil passL hg I.hm (pa_cons (he.run W F0 H0 tk) pa_nil hs) hdb hs rfl)) fun D σ H ⟨ρ, F, rel, h⟩ => ?_
    refine ⟨ρ, F, rel, he.mono (fun m hm => ?_) (fun _ z => exq rel z) h⟩
    intro v H1 F1 fp x1 r hf hn
    unfold onDx at hm
    split at hm
    · rename_i y
      obtain ⟨e0, ry⟩ := r.ofD
      subst e0
      refine ⟨by simp, fun a ha => ⟨a, _, v, rfl, I.T, I.no, upd_same, fun dx hdx hne => ⟨rfl, dx, [(f, v)], upd_same, by rw [upd_ne hne, upd_same], by rw [upd_ne hne] at hdx; exact hdx, ?_⟩⟩⟩
      have hdn : H1 dx = none := by rw [upd_ne hne] at hdx; exact hdx
      have eH : upd (del (upd (upd (upd H1 a (exo a (He.ga X.K x) none)) dx (exd dx [(f, v)])) a (exo a (He.ga X.K x) (some dx))) a) dx (.xd [(f, v)]) = upd H1 dx (.xd [(f, v)]) := by
        funext b
        by_cases hb : b = dx
        · subst hb; rw [upd_same, upd_same]
        · rw [upd_ne hb, upd_ne hb]
          by_cases hba : b = a
          · subst hba; rw [del_same, ha]
          · rw [del_ne hba, upd_ne hba, upd_ne hb, upd_ne hba]
      rw [eH]
      have x2 : Ext F1 H1 (upd F1 dx (.xd [(f, v)])) (upd H1 dx (.xd [(f, v)])) := .pure x1.s hdn
      refine hm _ (some dx) σ _ _ (rel.ext (x1.trans x2)) ⟨rfl, [(f, v)], upd_same, rfl, ?_⟩
      exact .cons (ry.mono x2.f) .nil
    · exact hm.elim
end
/-! ### the contract of such an __init__ -/
section
variable {fa : List He.Fa} {fn : List He.DefD} {h : Heap} {P : Program} {w : World} {K : PySem.W.Frag} {mg : Str → Option Value} {base : Heap}
/-- the body, in any frame -/
theorem ini_body {X : Cx} {T f m : Str} {j : Nat} {p1 p2 p3 p4 p5 p6 p7 p8 p9 p10 : Pos} (hg : Gl X T) (hm : X.mg T = some (.ref (He.ga X.K T))) (hT : tinB X.K (He.ga X.K T) = true) {a : Addr} {y : V} {C : Addr} {H : Hp} {Q : VK}
    (h1 : PE X (.Call (.Attribute (.Name T p1) "__init__" p2) [.Name "self" p3, .Constant (.str m) j p4] [] p5) (tVeI X.K (tCons (tVar 0) (tCons (tC (.str m)) tNil))))
    (h2 : PS X (.Assign [.Attribute (.Name "self" p7) f p8] (.Name f p9) p10) (tOst X.K f (tVar 0) (tVar 1))) (hs : swapsWith (.Call (.Attribute (.Name T p1) "__init__" p2) [.Name "self" p3, .Constant (.str m) j p4] [] p5) none p6.line X.env = pure false)
    (hTc : OexC X.K C) (hno : PySem.W.findIn X.K (.ref C) f = some none) (hH : H a = some (exo a C none)) (q : ∀ dx, H dx = none → dx ≠ a → Q .non (upd (upd H dx (exd dx [(f, y)])) a (exo a C (some dx)))) :
    ∃ t, PSs X [.Expr (.Call (.Attribute (.Name T p1) "__init__" p2) [.Name "self" p3, .Constant (.str m) j p4] [] p5) p6, .Assign [.Attribute (.Name "self" p7) f p8] (.Name f p9) p10] t ∧
      t { nx := fun _ H' => Q .non H', rt := Q } [some (.ref a), some y] H := by
  refine ⟨_, pss_cons (ps_expr h1 hs) (pss_one h2), ?_⟩
  refine ⟨.ref a, rfl, a, C, [.str m], rfl, by simp, hTc, hH, ?_⟩
  exact ⟨y, rfl, .ref a, rfl, a, C, rfl, hTc, hno, .inl ⟨hH, fun dx hdx hne => q dx hdx hne⟩⟩
theorem ini_ok {x f : Str} {d : He.DefD} (Z : Top fa fn h K mg) (i jg jm jn : Nat) (S : FnScope ["self", f] ["self", f] d.scope) (hT : oexB K (He.ga K x) = true) {k : Nat}
    (body : ∀ (fI : Addr) (cdv : Value) (A : Around) (outer : List Env) (s : Shared) (H : Hp) (E : XK) (a C : Addr) (y : V) (Q : VK), Room k (A.deeper (envOfC d.qual d.scope s.heap.objs.size fI cdv)) → OexC K C → PySem.W.findIn K (.ref C) f = some none → H a = some (exo a C none) →
      (∀ dx, H dx = none → dx ≠ a → Q .non (upd (upd H dx (exd dx [(f, y)])) a (exo a C (some dx)))) →
      ∃ t, PSs (cxOf (L2.CX P w) P w K mg base ["self", f] d.qual d.scope fI cdv A outer s H E) d.body t ∧ t { nx := fun _ H' => Q .non H', rt := Q } [some (.ref a), some y] H)
    (hb : ∀ (kV doc pm : Value) (an : Option Addr) (cdv ct : Value) (us : List Value), us.length = 2 → bindArgs (PySem.W.fnOf d.name d.qual d.params d.body d.scope .none kV doc pm an cdv ct) ⟨us, []⟩ = pure ((["self", f] : List Str).zip us))
    (hd : fn[i]? = some d := by rfl) (hg : fa[jg]? = some (.glo x) := by rfl) (hm : fa[jm]? = some (.meth x "__init__") := by rfl) (hn : fa[jn]? = some (.noat x f) := by rfl)
    (hat : d.at_ = (x, some ("__init__" : Str)) := by rfl) (h0 : d.dfl = [] := by rfl) (hkw : d.kwd = [] := by rfl) : IniOk P w K mg base x f (k + 1) := by
  obtain ⟨fd, F⟩ := Z.c.def_ i hd
  have e1 : d.dvs K = [] := by unfold He.DefD.dvs; rw [h0]; rfl
  have e2 : d.kws K = [] := by unfold He.DefD.kws; rw [hkw]; rfl
  rw [e1, e2] at F
  have ea : He.fAd K d.at_ = He.ma K (He.ga K x) "__init__" := by rw [hat]; rfl
  rw [ea] at F
  have M := He.meth_ok (Z.c.fact jm hm)
  have tI : PySem.W.typeIn K (.ref (He.ma K (He.ga K x) "__init__")) = some (.type "function") := beq_iff_eq.mp M.fn
  refine ⟨oexB_ok hT, Z.glo jg hg, He.noat_ok (Z.c.fact jn hn), _, fd, M.at_, tI, F.ok S (fun vs H Q E hs => ?_) (fun cdv A outer s H vs Q E hr hs => ?_), F.bindsN hb⟩
  · obtain ⟨a, C, y, e, _⟩ := hs
    rw [e]; rfl
  · obtain ⟨a, C, y, e, h1, h2, h3, h4⟩ := hs
    subst e
    exact body _ cdv A outer s H E a C y Q hr h1 h2 h3 h4
end
/-! ### isinstance of a caught exception (or of None) -/
def clsV : V → Value
  | .ref a => .ref a
  | .ty n => .type n
  | _ => .none
def isCV : V → Bool
  | .ref _ => true
  | .ty _ => true
  | _ => false
theorem clsV_of {v : V} {u : Value} (h : isCV v = true) (r : RelV v u) : u = clsV v := by
  cases v with
  | ref a => exact r
  | ty n => exact r
  | _ => cases h
theorem clsVs_of : ∀ {vs : List V} {us : List Value}, vs.all isCV = true → Vals vs us → us = vs.map clsV
  | [], _, _, r => by cases r; rfl
  | v :: vs, _, h, r => by
    rw [List.all_cons, Bool.and_eq_true] at h
    cases r with
    | cons r1 r2 => rw [clsV_of h.1 r1, clsVs_of h.2 r2]; rfl
/-- the classes ds, asked of instances of the classes named in tab -/
def insTB (K : PySem.W.Frag) (ds : List He.Dv) (tab : List (Str × Bool)) : Bool := (ds.map fun d => d.v K).all isCV && (decide (PySem.W.kitAny K (.type "NoneType") ((ds.map fun d => d.v K).map clsV) = some false) && tab.all fun q => insB K (He.ga K q.1) && decide (PySem.W.kitAny K (.ref (He.ga K q.1)) ((ds.map fun d => d.v K).map clsV) = some q.2))
theorem lookup_all {α : Type} {P : Str × α → Bool} {k : Str} {b : α} : ∀ {l : List (Str × α)}, l.all P = true → l.lookup k = some b → P (k, b) = true
  | [], _, e => by cases e
  | (k', b') :: l, h, e => by
    rw [List.all_cons, Bool.and_eq_true] at h
    rw [List.lookup_cons] at e
    split at e
    · rename_i q
      cases e
      rw [beq_iff_eq.mp q]; exact h.1
    · exact lookup_all h.2 e
def rIsX (K : PySem.W.Frag) : List V → Hp → VK → Prop := fun xs H Q => ∃ (x cv : V) (b : Bool), xs = [x, cv] ∧ Q (.bl b) H ∧
  ∃ t : Value, ((x = .non ∧ t = .type "NoneType") ∨ ∃ a C d, x = .ref a ∧ t = .ref C ∧ H a = some (exh a (.ref C) d) ∧ (d = none ∨ ∃ dd kvs, d = some dd ∧ H dd = some (.xd kvs)) ∧ insB K C = true) ∧
    ((isCV cv = true ∧ PySem.W.kitOne K t (clsV cv) = some b) ∨ ∃ tp o vs, cv = .ref tp ∧ H tp = some (.frz o (.tup vs)) ∧ vs.all isCV = true ∧ PySem.W.kitAny K t (vs.map clsV) = some b)
theorem call_isX {X : Cx} : CallR X (.builtin "isinstance") (rIsX X.K) := by
  intro pins s σ H xs us Q I r h
  obtain ⟨x, cv, b, rfl, q, t, ht, hc⟩ := h
  cases r with
  | cons rx rr =>
    cases rr with
    | cons rt rr =>
      cases rr
      rename_i u1 u2
      have kit : ∃ Pz : Heap → Prop, PySem.W.KitX X.K u1 t Pz ∧ Pz s.heap ∧ u1 ≠ .builtin "__main__.__loader__#opaque" := by
        rcases ht with ⟨rfl, rfl⟩ | ⟨a, C, d, rfl, rfl, hx, hd, hi⟩
        · cases (show u1 = Value.none from rx)
          exact ⟨_, PySem.W.kitx_none, True.intro, fun z => nomatch z⟩
        · cases (show u1 = Value.ref a from rx)
          obtain ⟨g1, gg⟩ := He.ba hi
          obtain ⟨g2, gg⟩ := He.ba gg
          obtain ⟨g3, gg⟩ := He.ba gg
          obtain ⟨g4, gg⟩ := He.ba gg
          obtain ⟨g5, g6⟩ := He.ba gg
          have Tx := xfB_ok g2
          obtain ⟨⟨oe, he, hz, vv, hv⟩, _⟩ := I.hok a _ hx
          have hnc : PySem.W.notCls oe = true := by unfold PySem.W.notCls; rw [hv] <;> rfl
          have inst : ∃ od, PySem.W.InstAt s.heap a oe C od := by
            rcases hd with rfl | ⟨dd, kvs, rfl, hdd⟩
            · exact ⟨none, he, hz.1, hnc, by rw [hz.2]; trivial⟩
            · have hy : ObjOk X.prog X.w H s.heap dd (.xd kvs) := I.hok dd _ hdd
              obtain ⟨mA, hns, hr⟩ := hy
              obtain ⟨od, ho, hl⟩ := lookIn_ns hns
              exact ⟨some od, he, hz.1, hnc, by rw [hz.2]; exact ho⟩
          obtain ⟨od, J⟩ := inst
          exact ⟨_, PySem.W.kitx_exc (ox := oe) (od := od) g1 Tx.ga Tx.gg Tx.exC (of_decide_eq_true g3) (of_decide_eq_true g4) (of_decide_eq_true g5) (of_decide_eq_true g6), J, fun z => nomatch z⟩
      obtain ⟨Pz, Z, hp, hne⟩ := kit
      rcases hc with ⟨h1, h2⟩ | ⟨tp, o, vs, rfl, h1, h2, h3⟩
      · rw [clsV_of h1 rt]
        exact PySem.W.kia_one Z I.kIn hp h2 hne fun tk => ⟨.bl b, H, I.kept (t' := tk) fun _ _ z => z, rfl, q⟩
      · cases (show u2 = Value.ref tp from rt)
        obtain ⟨hg, hz, its, rv, ⟨o', ho', hcl, n, hdt⟩⟩ := I.hok tp _ h1
        rw [← clsVs_of h2 rv] at h3
        have htp : s.heap.get? tp = some ⟨.type "tuple", o'.dict, .seq its.toArray n, o'.slots⟩ := by
          rw [ho']
          obtain ⟨c1, c2, c3, c4⟩ := o'
          dsimp only at hcl hdt ⊢
          rw [hcl, hdt]
        exact PySem.W.kia_tup Z I.kIn hp htp h3 hne fun tk => ⟨.bl b, H, I.kept (t' := tk) fun _ _ z => z, rfl, q⟩
section
variable {X : Cx} {e c : Expr} {es : List Expr} {we : TW} {p pos : Pos} {d : He.Dv} {ds : List He.Dv} {tab : List (Str × Bool)}
def isxM (tab : List (Str × Bool)) (Q : M → Prop) : M → Prop := fun m => match m with
  | .d (.exc c _ _) => ∃ b, tab.lookup c = some b ∧ Q (.d (.bl b))
  | .d .non => Q (.d (.bl false))
  | _ => False
theorem isxM_exc {Q : M → Prop} {c : Str} {ks : List Str} {l : List D} : isxM tab Q (.d (.exc c ks l)) = ∃ b, tab.lookup c = some b ∧ Q (.d (.bl b)) := rfl
theorem isxM_non {Q : M → Prop} : isxM tab Q (.d .non) = Q (.d (.bl false)) := rfl
def wIsX (tab : List (Str × Bool)) (we : TW) : TW := fun ρ Q E => we ρ (isxM tab Q) E
theorem wIsX_mono {ρ : Sg} {Q Q' : M → Prop} {E E' : XP} (ha : QE X e we) (hq : ∀ m, Q m → Q' m) (he : ∀ x, E x → E' x) (z : wIsX tab we ρ Q E) : wIsX tab we ρ Q' E' :=
  ha.mono (fun m q => by
    unfold isxM at q ⊢
    split at q
    · obtain ⟨b, e, q⟩ := q; exact ⟨b, e, hq _ q⟩
    · exact hq _ q
    · exact q) he z
theorem kitOne_of {K : PySem.W.Frag} {t c : Value} {b : Bool} (h : PySem.W.kitAny K t [c] = some b) : PySem.W.kitOne K t c = some b := by
  unfold PySem.W.kitAny at h
  split at h
  · rename_i q; rw [q]; exact h
  · rename_i q; rw [q]; exact h
  · cases h
/-- what is told of the first argument -/
theorem isx_arg {K : PySem.W.Frag} {F H0 H : Hp} {m : M} {v : V} {fp : List Addr} {Q : M → Prop} (s : Same F H) (hT : insTB K ds tab = true) (r : RepM K F H0 H m v fp)
    (q : isxM tab Q m) :
    ∃ b, Q (.d (.bl b)) ∧ ∃ t : Value, ((v = .non ∧ t = .type "NoneType") ∨ ∃ a C d, v = .ref a ∧ t = .ref C ∧ H a = some (exh a (.ref C) d) ∧ (d = none ∨ ∃ dd kvs, d = some dd ∧ H dd = some (.xd kvs)) ∧ insB K C = true) ∧
      PySem.W.kitAny K t ((ds.map fun d => d.v K).map clsV) = some b := by
  obtain ⟨h1, hh⟩ := He.ba hT
  obtain ⟨h2, h3⟩ := He.ba hh
  unfold isxM at q
  split at q
  · rename_i c ks l
    obtain ⟨b, e, q⟩ := q
    have h4 := lookup_all h3 e
    obtain ⟨h5, h6⟩ := He.ba h4
    have r := r.ofD.2
    unfold RepD at r
    obtain ⟨a, d, ev, hF, hd⟩ := r
    refine ⟨b, q, _, .inr ⟨a, _, d, ev, rfl, s _ _ hF, ?_, h5⟩, of_decide_eq_true h6⟩
    rcases hd with ⟨rfl, _⟩ | ⟨dd, kvs, e1, e2, _⟩
    · exact .inl rfl
    · exact .inr ⟨dd, kvs, e1, s _ _ e2⟩
  · exact ⟨false, q, _, .inl ⟨r.ofD.2.ofNon, rfl⟩, of_decide_eq_true h2⟩
  · exact q.elim
theorem q_isX1 (hcl : PE X c (tC (d.v X.K))) (hT : insTB X.K [d] tab = true) (hg : Gl X "isinstance") (hm : X.mg "isinstance" = none) (ha : QE X e we)
    (he : starEach [e, c] X.env = (false, eval e X.env) :: starEach [c] X.env := by rfl) (hpl : (backTo pos (starEach [c] X.env)).any (·.1) = false := by rfl) (hs2 : starEach [c] X.env = [(false, eval c X.env)] := by rfl) :
    QE X (.Call (.Name "isinstance" p) [e, c] [] pos) (wIsX tab we) where
  mono := fun hq hx z => wIsX_mono ha hq hx z
  run := fun W F0 H0 tk => peImp (pe_callB call_isX hg hm PyProof.Rows.boot_isinstance (pa_cons (ha.run W F0 H0 tk) (pa_cons hcl pa_nil hs2) he) (by decide) (by decide) he hpl) fun σ H Qh ⟨ρ, F, rel, z⟩ =>
    ⟨ρ, F, rel, ha.mono (fun m q v H1 F1 fp x r _ _ => by
      obtain ⟨b, q, t, ht, hk⟩ := isx_arg x.s hT r q
      obtain ⟨h1, _⟩ := He.ba hT
      rw [List.map_cons, List.map_nil, List.all_cons, List.all_nil, Bool.and_true] at h1
      exact ⟨v, _, b, rfl, (q.ext x).here x.s (.d .bl), t, ht, .inl ⟨h1, kitOne_of hk⟩⟩) (fun _ q => q) z⟩
/-- several classes, as they stand in a tuple -/
inductive Cls (X : Cx) : List Expr → List He.Dv → Prop
  | nil : Cls X [] []
  | cons {c : Expr} {d : He.Dv} {cs : List Expr} {ds : List He.Dv} (h : PE X c (tC (d.v X.K))) (hs : starEach (c :: cs) X.env = (false, eval c X.env) :: starEach cs X.env) (t : Cls X cs ds) : Cls X (c :: cs) (d :: ds)
theorem Cls.pa {es : List Expr} {ds : List He.Dv} (h : Cls X es ds) : PA X es (fun _ H Q => Q (ds.map fun d => d.v X.K) H) := by
  induction h with
  | nil => exact pa_nil
  | cons h hs t ih => exact pa_cons h ih hs
theorem q_isX2 {x1} {pos2 : Pos} (hcl : Cls X es ds) (hz : ds.length ≤ 1000) (hT : insTB X.K ds tab = true) (hg : Gl X "isinstance") (hm : X.mg "isinstance" = none) (ha : QE X e we)
    (he : starEach [e, .Tuple es x1 pos2] X.env = (false, eval e X.env) :: starEach [.Tuple es x1 pos2] X.env := by rfl) (hpl : (backTo pos (starEach [.Tuple es x1 pos2] X.env)).any (·.1) = false := by rfl)
    (hs2 : starEach [.Tuple es x1 pos2] X.env = [(false, eval (.Tuple es x1 pos2) X.env)] := by rfl) :
    QE X (.Call (.Name "isinstance" p) [e, .Tuple es x1 pos2] [] pos) (wIsX tab we) where
  mono := fun hq hx z => wIsX_mono ha hq hx z
  run := fun W F0 H0 tk => peImp (pe_callB call_isX hg hm PyProof.Rows.boot_isinstance (pa_cons (ha.run W F0 H0 tk) (pa_cons (pe_tupB hcl.pa) pa_nil hs2) he) (by decide) (by decide) he hpl) fun σ H Qh ⟨ρ, F, rel, z⟩ =>
    ⟨ρ, F, rel, ha.mono (fun m q v H1 F1 fp x r _ _ => by
      obtain ⟨b, q, t, ht, hk⟩ := isx_arg x.s hT r q
      obtain ⟨h1, _⟩ := He.ba hT
      refine ⟨by rw [List.length_map]; exact k1000 hz, .inl fun tp o htp ho => ?_⟩
      have x2 : Ext F1 H1 (upd F1 tp (.frz o (.tup (ds.map fun d => d.v X.K)))) (upd H1 tp (.frz o (.tup (ds.map fun d => d.v X.K)))) := .pure x.s htp
      refine ⟨v, .ref tp, b, rfl, ((q.ext x).ext x2).here x2.s (.d .bl), t, ?_, .inr ⟨tp, o, _, rfl, upd_same, h1, hk⟩⟩
      rcases ht with h | ⟨a, C, d, e1, e2, e3, e4, e5⟩
      · exact .inl h
      · refine .inr ⟨a, C, d, e1, e2, x2.h _ _ e3, ?_, e5⟩
        rcases e4 with h | ⟨dd, kvs, g1, g2⟩
        · exact .inl h
        · exact .inr ⟨dd, kvs, g1, x2.h _ _ g2⟩) (fun _ q => q) z⟩
/-! ### e.f of a caught exception -/
def xfTB (K : PySem.W.Frag) (f : Str) (cs : List Str) : Bool := cs.all fun c => xfB K (He.ga K c) && decide (PySem.W.findIn K (.ref (He.ga K c)) f = some none)
def xfM (f : Str) (cs : List Str) (Q : M → Prop) : M → Prop := fun m => match m with
  | .d (.exc c ks l) => c ∈ cs ∧ ∃ y, (ks.zip l).lookup f = some y ∧ Q (.d y)
  | _ => False
theorem xfM_exc {f : Str} {cs : List Str} {Q : M → Prop} {c : Str} {ks : List Str} {l : List D} : xfM f cs Q (.d (.exc c ks l)) = (c ∈ cs ∧ ∃ y, (ks.zip l).lookup f = some y ∧ Q (.d y)) := rfl
def wXf (f : Str) (cs : List Str) (we : TW) : TW := fun ρ Q E => we ρ (xfM f cs Q) E
theorem xd_look {K : PySem.W.Frag} {F : Hp} {f : Str} {y : D} : ∀ {kvs : List (Str × V)} {l : List D}, RepDs K F l (kvs.map (·.2)) → ((kvs.map (·.1)).zip l).lookup f = some y → ∃ v, kvs.lookup f = some v ∧ RepD K F y v
  | [], l, r, e => by
    rw [List.map_nil, List.zip_nil_left] at e; cases e
  | (k, v) :: kvs, [], r, e => by
    rw [List.zip_nil_right] at e; cases e
  | (k, v) :: kvs, x :: l, r, e => by
    rw [List.map_cons] at r e
    unfold RepDs at r
    obtain ⟨u, w, e1, r1, r2⟩ := r
    cases e1
    rw [List.zip_cons_cons, List.lookup_cons] at e
    rw [List.lookup_cons]
    dsimp only at e ⊢
    split at e
    · cases e
      exact ⟨v, rfl, r1⟩
    · exact xd_look r2 e
theorem q_xf {f : Str} {cs : List Str} (hT : xfTB X.K f cs = true) (he : QE X e we) (hb : attributeBase e f X.env (eval e X.env) = eval e X.env := by rfl) : QE X (.Attribute e f pos) (wXf f cs we) where
  mono := fun hq hx z => he.mono (fun m q => by
    unfold xfM at q ⊢
    split at q
    · obtain ⟨h1, y, h2, q⟩ := q; exact ⟨h1, y, h2, hq _ q⟩
    · exact q) hx z
  run := fun W F0 H0 tk => by
    refine ⟨fun pins s σ H Qh I ⟨ρ, F, rel, z⟩ => ?_⟩
    refine attr_of hb (thn ((he.run W F0 H0 tk).run pins s σ H (fun v H1 => ∃ a C d dd kvs w, v = .ref a ∧ H1 a = some (exh a (.ref C) d) ∧ d = some dd ∧ H1 dd = some (.xd kvs) ∧ kvs.lookup f = some w ∧ XfC X.K C ∧ PySem.W.findIn X.K (.ref C) f = some none ∧ Qh w H1) I
      ⟨ρ, F, rel, he.mono (fun m q v H1 F1 fp x r _ _ => ?_) (fun _ q => q) z⟩) fun u s1 hh => ?_)
    · unfold xfM at q
      split at q
      · rename_i c ks l
        obtain ⟨hc, y, hy, q⟩ := q
        have hc2 : (xfB X.K (He.ga X.K c) && decide (PySem.W.findIn X.K (.ref (He.ga X.K c)) f = some none)) = true := List.all_eq_true.mp hT c hc
        obtain ⟨g1, g2⟩ := He.ba hc2
        have r := r.ofD.2
        unfold RepD at r
        obtain ⟨a, d, ev, hF, hd⟩ := r
        rcases hd with ⟨rfl, rfl, rfl⟩ | ⟨dd, kvs, e1, e2, e3, e4⟩
        · cases hy
        · rw [← e3] at hy
          obtain ⟨w, hw, rw'⟩ := xd_look e4 hy
          exact ⟨a, _, d, dd, kvs, w, ev, x.s _ _ hF, e1, x.s _ _ e2, hw, xfB_ok g1, of_decide_eq_true g2, (q.ext x).here x.s (.d rw')⟩
      · exact q.elim
    · obtain ⟨v, H1, I1, rx, a, C, d, dd, kvs, w, ev, ha, ed, hdd, hl, T, hno, q⟩ := hh
      subst ev
      obtain rfl : u = Value.ref a := rx
      subst ed
      obtain ⟨⟨oe, he', hz, vv, hv⟩, _⟩ := I1.hok a _ ha
      have hx : ObjOk X.prog X.w H1 s1.heap dd (.xd kvs) := I1.hok dd _ hdd
      obtain ⟨mA, hns, hr⟩ := hx
      obtain ⟨od, ho, hlk⟩ := lookIn_ns hns
      obtain ⟨u2, hu, ru⟩ := RelO.some_of (v := w) (o := mA f) (by rw [← hl]; exact hr f)
      have J : PySem.W.InstAt s1.heap a oe C (some od) := ⟨he', hz.1, by unfold PySem.W.notCls; rw [hv] <;> rfl, by rw [hz.2]; exact ho⟩
      exact HandSPX.exc_get I1.kIn J T.ga T.gg T.exC (PySem.W.findObj_own T.hdC hno rfl (by rw [hlk, hu])) (handed_of ru) ⟨w, H1, I1.tok _, ru, q⟩
end
/-! ### try: .. except y as n: .. -/
theorem Ext.base {F0 H0 F H : Hp} (e : Ext F0 H0 F H) : Ext F H0 F H := ⟨e.h, .refl _, e.s, fun _ _ q => .inl q⟩
theorem Ext.back {F0 H0 F H F' H' : Hp} (e : Ext F0 H0 F H) (x : Ext F H0 F' H') : Ext F0 H0 F' H' := ⟨x.h, e.f.trans x.f, x.s, fun a o q => (x.n a o q).elim (fun q => e.n a o q) .inr⟩
theorem Rel.base {K : PySem.W.Frag} {F0 H0 F H : Hp} {ρ : Sg} {σ : L2.St} {ts : List M} {tv : List V} (r : Rel K F0 H0 ρ σ ts tv F H) : Rel K F H0 ρ σ ts tv F H := ⟨r.e.base, r.len, r.sl⟩
theorem Rel.back {K : PySem.W.Frag} {F0 H0 F H F' H' : Hp} {ρ : Sg} {σ : L2.St} {ts : List M} {tv : List V} (e : Ext F0 H0 F H) (r : Rel K F H0 ρ σ ts tv F' H') : Rel K F0 H0 ρ σ ts tv F' H' := ⟨e.back r.e, r.len, r.sl⟩
def exmTB (K : PySem.W.Frag) (y : Str) (tab : List (Str × Bool)) : Bool := tab.all fun q => decide (PySem.W.exmOne K (.ref (He.ga K q.1)) (.ref (He.ga K y)) = some q.2)
section
variable {X : Cx} {x nm y : Str} {i n : Nat} {body suite : List Stmt} {b₀ : Stmt} {np pos pos' : Pos} {as bs : List Nat} {wb ws : TSW} {tab : List (Str × Bool)}
/-- what comes of an exception of the body -/
def catW (tab : List (Str × Bool)) (n i : Nat) (ws : TSW) (De : EndW) : Sg → XP := fun ρ' x => ρ'.length = n ∧ match tab.lookup x.cls with
  | some true => ws { nx := fun ρ2 => De.nx (ρ2.set i none), rt := De.rt, bk := fun ρ2 => De.bk (ρ2.set i none), ct := fun ρ2 => De.ct (ρ2.set i none), ex := fun _ _ => False } (ρ'.set i (some (.d (.exc x.cls (x.fs.map (·.1)) (x.fs.map (·.2))))))
  | some false => De.ex ρ' x
  | none => False
theorem catW_t {De : EndW} {ρ' : Sg} {c : Str} {fs : List (Str × D)} (e : tab.lookup c = some true) (hl : ρ'.length = n) (h : ws { nx := fun ρ2 => De.nx (ρ2.set i none), rt := De.rt, bk := fun ρ2 => De.bk (ρ2.set i none), ct := fun ρ2 => De.ct (ρ2.set i none), ex := fun _ _ => False } (ρ'.set i (some (.d (.exc c (fs.map (·.1)) (fs.map (·.2))))))) : catW tab n i ws De ρ' ⟨c, fs⟩ := by
  refine ⟨hl, ?_⟩
  dsimp only
  rw [e]; exact h
def wTry (tab : List (Str × Bool)) (n i : Nat) (wb ws : TSW) : TSW := fun De ρ => ρ.length = n ∧ wb { nx := De.nx, rt := De.rt, bk := De.bk, ct := De.ct, ex := catW tab n i ws De } ρ
theorem pssEx {α : Type} {st : List Stmt} {t : α → TS} (h : ∀ a, PSs X st (t a)) : PSs X st (fun D σ H => ∃ a, t a D σ H) := ⟨fun pins s σ H D I ⟨a, q⟩ => (h a).run pins s σ H D I q⟩
theorem s_try (hs : X.stack = X.env :: X.outer) (hf : X.env.frame = some X.env.locals) (hN : X.N.Nodup) (hi : X.N[i]? = some nm) (hln : X.env.kindOf nm = some .local) (hg : Gl X y) (hy : X.mg y = some (.ref (He.ga X.K y))) (hT : exmTB X.K y tab = true)
    (hp : PassesOwn (model X.prog X.w) X.A X.env X.xe)
    (hb : ∀ (pn : List (Addr × Obj)) (xe : Value → Shared → Prop), PassesOwn (model X.prog X.w) X.A X.env xe → QSs (X.tr pn xe) body as wb)
    (hsu : ∀ (a : Addr) (pn : List (Addr × Obj)), QSs (X.suite a pn) (b₀ :: suite) bs ws) (hdb : (y == ("__debug__" : Str)) = false := by decide) :
    QS X (.Try body [.ExceptHandler (some (.Name y np)) (some nm) (b₀ :: suite) pos'] [] [] pos) (as ++ List.range n) (wTry tab n i wb ws) where
  mono := fun {D D' ρ} l h => by
    obtain ⟨h1, h⟩ := h
    refine ⟨h1, (hb [] X.xe hp).mono (D := { nx := D.nx, rt := D.rt, bk := D.bk, ct := D.ct, ex := catW tab n i ws D }) (D' := { nx := D'.nx, rt := D'.rt, bk := D'.bk, ct := D'.ct, ex := catW tab n i ws D' }) ⟨l.nx, l.rt, l.bk, l.ct, fun ρ' x z => ?_⟩ h⟩
    obtain ⟨h2, z⟩ := z
    refine ⟨h2, ?_⟩
    split at z
    · exact (hsu 0 []).mono (D := { nx := fun ρ2 => D.nx (ρ2.set i none), rt := D.rt, bk := fun ρ2 => D.bk (ρ2.set i none), ct := fun ρ2 => D.ct (ρ2.set i none), ex := fun _ _ => False }) ⟨fun ρ2 q => l.nx _ q, l.rt, fun ρ2 q => l.bk _ q, fun ρ2 q => l.ct _ q, fun _ _ q => q⟩ z
    · exact l.ex _ _ z
    · exact z
  run := fun W F0 H0 tk => by
    have R := ps_try_val (X := X) (n := nm) (np := np) (pos := pos) (pos' := pos') (Wo := W) (c := .ref (He.ga X.K y)) (i := i) (body := body) (suite := suite) (b₀ := b₀)
      (tb := fun W' D σ H => ∃ F1, liftS X W' F1 H0 as wb D σ H) (ts := fun a cls d D σ H => ∃ F1, liftS X (fun _ _ _ _ => False) F1 H0 bs ws D σ H) hs hf hN hi hln ⟨hg, hdb, .inl hy⟩ tk
      (fun W' pn xe tk' pass => pssEx fun F1 => (hb pn xe pass).run W' F1 H0 tk')
      (fun a cls d pn => pssEx fun F1 => (hsu a pn).run (fun _ _ _ _ => False) F1 H0 takes0)
    refine psImp R fun D σ H ⟨ρ, F, rel, hl, h⟩ => ?_
    have lσ : σ.length = n := by rw [← rel.len, hl]
    refine ⟨F, ρ, F, rel.base, (hb [] X.xe hp).mono (D := _) ?_ h⟩
    refine ⟨fun ρ' z σ' F' H' s r f => z σ' F' H' s (r.back rel.e) (f.mono fun i hi => List.mem_append_left _ hi), fun m z hr v F' H' fp s x r hn => z hr v F' H' fp s (rel.e.back x) r hn,
      fun ρ' z σ' F' H' s r f => z σ' F' H' s (r.back rel.e) (f.mono fun i hi => List.mem_append_left _ hi), fun ρ' z σ' F' H' s r f => z σ' F' H' s (r.back rel.e) (f.mono fun i hi => List.mem_append_left _ hi), fun ρ' x z => ?_⟩
    obtain ⟨l2, z⟩ := z
    intro cls d σ' F' H' r rx
    have lσ' : σ'.length = n := by rw [← r.len, l2]
    split at z
    · rename_i e
      refine ⟨true, ?_, fun _ a ha => ?_, fun q => nomatch q⟩
      · rw [rx.1]; exact of_decide_eq_true (lookup_all (P := fun q => decide (PySem.W.exmOne X.K (.ref (He.ga X.K q.1)) (.ref (He.ga X.K y)) = some q.2)) hT e)
      · have x2 : Ext F' H' (upd F' a (exh a cls d)) (upd H' a (exh a cls d)) := .pure r.s ha
        have rd : RepD X.K (upd F' a (exh a cls d)) (.exc x.cls (x.fs.map (·.1)) (x.fs.map (·.2))) (.ref a) := by
          unfold RepD
          obtain ⟨c1, c2⟩ := rx
          refine ⟨a, d, rfl, by rw [upd_same, c1], ?_⟩
          cases d with
          | none =>
            have c2 : x.fs = [] := c2
            exact .inl ⟨rfl, by rw [c2]; rfl, by rw [c2]; rfl⟩
          | some dd =>
            obtain ⟨vs, c3, c4, c5⟩ := c2
            exact .inr ⟨dd, vs, rfl, x2.f _ _ c3, c4, c5.mono x2.f⟩
        have r3 := (r.push x2 (RepM.d rd) (fun _ z => nomatch z) List.nodup_nil).set (by unfold M.sto; rfl) i
        have fr : ∀ {bs' : List Nat} {σ3 : L2.St}, Frm bs' (σ'.set i (some (.ref a))) σ3 → Frm (as ++ List.range n) σ (σ3.set i none) := fun {bs' σ3} f3 => by
          have l3 : σ3.length = n := by rw [f3.1, List.length_set, lσ']
          refine ⟨by rw [List.length_set, l3, lσ], fun j hj => ?_⟩
          have hj2 : n ≤ j := by
            have : j ∉ List.range n := fun z => hj (List.mem_append_right _ z)
            rw [List.mem_range] at this; omega
          rw [List.getElem?_eq_none (by rw [List.length_set, l3]; exact hj2), List.getElem?_eq_none (by rw [lσ]; exact hj2)]
        refine ⟨F, _, _, r3, (hsu 0 []).mono (D := _) ?_ z⟩
        refine ⟨fun ρ2 z σ3 F3 H3 s3 q3 f3 => z _ F3 H3 q3.e.f ((q3.kill i none).back rel.e) (fr f3), fun m z hr v F3 H3 fp s3 x3 rm hn => z hr v F3 H3 fp x3.f (rel.e.back x3) rm hn,
          fun ρ2 z σ3 F3 H3 s3 q3 f3 => z _ F3 H3 q3.e.f ((q3.kill i none).back rel.e) (fr f3), fun ρ2 z σ3 F3 H3 s3 q3 f3 => z _ F3 H3 q3.e.f ((q3.kill i none).back rel.e) (fr f3), fun _ _ z => z.elim⟩
    · rename_i e
      refine ⟨false, ?_, fun q => (nomatch q), fun _ => ?_⟩
      · rw [rx.1]; exact of_decide_eq_true (lookup_all (P := fun q => decide (PySem.W.exmOne X.K (.ref (He.ga X.K q.1)) (.ref (He.ga X.K y)) = some q.2)) hT e)
      · exact z cls d σ' F' H' (r.back rel.e) rx
    · exact z.elim
end
/-! ### the head's hook, with the table of the statics (reads of a class look there) -/
def asR (g : Addr → Option Obj) (n : Nat) : List Addr := He.asD g n ++ [cStatics]
structure SaysR (fa : List He.Fa) (fn : List He.DefD) (ex : PySem.W.Frag → Bool) (K : PySem.W.Frag) : Prop where
  d : He.SaysD fa fn K
  more : ex K = true
abbrev AlR : Type := He.AlD × Bool
def obsR (n : Nat) (fa : List He.Fa) (fn : List He.DefD) (ex : PySem.W.Frag → Bool) (g : Addr → Option Obj) : AlR := (He.obsD fa fn (He.frG g (asR g n)), ex (He.frG g (asR g n)))
def hookR (n : Nat) (fa : List He.Fa) (fn : List He.DefD) (ex : PySem.W.Frag → Bool) : PySem.W.Hook where
  α := AlR
  obs := fun s => obsR n fa fn ex s.heap.get?
  val := fun _ => (He.valD fn, true)
  says := fun _ h => ∃ K : PySem.W.Frag, K.In h ∧ SaysR fa fn ex K
  of := fun _ _ e => ⟨_, He.frG_in, congrArg (fun z : AlR => z.1) e, congrArg (fun z : AlR => z.2) e⟩
  keeps := fun _ _ _ ⟨K, hK, c⟩ k => ⟨K, PySem.W.Frag.In.keeps hK k, c⟩
theorem obsR_eq {n : Nat} {fa : List He.Fa} {fn : List He.DefD} {ex : PySem.W.Frag → Bool} {g : Addr → Option Obj} {s : Shared} (h : ∀ a, g a = s.heap.get? a) : obsR n fa fn ex g = (hookR n fa fn ex).obs s := by
  have e : g = s.heap.get? := funext h
  rw [e] <;> rfl
end RT
namespace RT
open PySem PySem.Spec PyProof.Rows L2
/-! ### x.pop(i); min and max of two whole numbers -/
section
variable {X : Cx} {K : PySem.W.Frag} {F F' H H' H0 F0 : Hp} {ρ : Sg} {σ : L2.St}
variable {e : Expr} {we : TW} {x : Str} {p apos cpos spos : Pos}
def wPopAt (n : Nat) (we : TW) : TSW := fun De ρ => onFl ρ n fun l => we ρ (onI fun k => ∃ j, ixN l.length k = some j ∧ l.length ≤ 1000 ∧ De.nx (ρ.set n (some (.fl .o (l.eraseIdx j))))) (De.ex ρ)
theorem s_popAt (n : Nat) (he : QE X e we) (hN : X.N[n]? = some x := by rfl) (hv : Vis X.env.scope x := by first | exact Or.inl rfl | exact Or.inr (Or.inl rfl) | exact Or.inr (Or.inr rfl)) (hd : (x == ("__debug__" : Str)) = false := by decide) (hcd : (x == ("__classdict__" : Str)) = false := by decide)
    (hfew : ((backTo cpos (starEach [e] X.env)).all (fun x => !x.1) && (backToKw cpos (keywordEach [] X.env)).all (fun x => x.1.isSome) && decide (([e] : List Expr).length + ([] : List Keyword).length + (if ([] : List Keyword).isEmpty then 0 else 1) < 30)) = true := by rfl)
    (hline : (apos.endLine == cpos.line) = true := by rfl) (hs : starEach [e] X.env = [(false, eval e X.env)] := by rfl) (hbase : attributeBase (.Name x p) "pop" X.env (eval (.Name x p) X.env) = eval (.Name x p) X.env := by rfl) (hsw : swapsWith (.Call (.Attribute (.Name x p) "pop" apos) [e] [] cpos) none spos.line X.env = pure false := by rfl) :
    QS X (.Expr (.Call (.Attribute (.Name x p) "pop" apos) [e] [] cpos) spos) [] (wPopAt n we) where
  mono := fun l h => onFl_mono (fun _ z => he.mono (fun m q => onI_mono (fun k ⟨j, e1, e2, q⟩ => ⟨j, e1, e2, l.nx _ q⟩) q) (l.ex _) z) h
  run := fun W F0 H0 tk => psImp (ps_expr (pe_bm PySem.F.plainAttrs_list PySem.F.slot_list_pop PySem.F.type_list_pop mt_popAt (pe_var hN hv hd hcd) (pa_cons (he.run W F0 H0 tk) pa_nil hs) hbase hfew hline hs rfl) hsw) fun D σ H ⟨ρ, F, rel, z⟩ => by
    obtain ⟨a, vs, l, e0, h1, h2, h3, q, _⟩ := mut_fl rel z
    refine ⟨.ref a, h1, .inl ⟨rfl, vs, SqL.of h2⟩, ρ, F, rel, he.mono (fun m hm v H1 F1 fp x1 r hf hn => ?_) (fun _ z => exq rel z) q⟩
    unfold onI at hm
    split at hm
    · rename_i k
      obtain ⟨j, e1, hz, q⟩ := hm
      obtain ⟨vs', g2, g3, g4⟩ := fl_later rel x1 e0 h1
      rw [g3.length] at e1 hz
      obtain ⟨s1, s2, s3, s4⟩ := ixN_seq e1
      exact ⟨a, vs', k, j, vs'[j], rfl, by rw [r.ofD.2.ofInt], g2, by omega, by omega, s1, List.getElem?_eq_getElem s2, q σ F1 _ x1.f (g4 _ _ (g3.eraseIdx j)) .refl⟩
    · exact hm.elim
def wMax2 : WCl := fun xs Q => on2 (fun m m' => onI2 (fun i j => Q (.d (.int (if j > i then j else i)))) m m') xs
def wMin2 : WCl := fun xs Q => on2 (fun m m' => onI2 (fun i j => Q (.d (.int (if j < i then j else i)))) m m') xs
theorem s_max2 : CalS X (fun xs H Q => ∃ i j, xs = [.int i, .int j] ∧ Q (.int (if j > i then j else i)) H) wMax2 where
  mono := fun h q => on2_mono (fun m m' q => onI2_mono (fun i j q => h _ q) q) q
  run := fun {H0 F H xs vs fp Q Qh} s z rs q h => by
    obtain ⟨m, m', e, qq⟩ := on2_of q
    clear q
    subst e
    obtain ⟨v, v', f, f', e, r, r'⟩ := rs.two
    subst e
    obtain ⟨i, j, e1, e2, q⟩ := onI2_of qq r r'
    exact ⟨i, j, by rw [e1, e2], (h _ q).here s (.d .int)⟩
theorem s_min2 : CalS X (fun xs H Q => ∃ i j, xs = [.int i, .int j] ∧ Q (.int (if j < i then j else i)) H) wMin2 where
  mono := fun h q => on2_mono (fun m m' q => onI2_mono (fun i j q => h _ q) q) q
  run := fun {H0 F H xs vs fp Q Qh} s z rs q h => by
    obtain ⟨m, m', e, qq⟩ := on2_of q
    clear q
    subst e
    obtain ⟨v, v', f, f', e, r, r'⟩ := rs.two
    subst e
    obtain ⟨i, j, e1, e2, q⟩ := onI2_of qq r r'
    exact ⟨i, j, by rw [e1, e2], (h _ q).here s (.d .int)⟩
theorem q_max2 {a b : Expr} {wa wb : TW} {p pos : Pos} (hc : X.calm = true) (hg : Gl X "max") (hm : X.mg "max" = none) (ha : QE X a wa) (hb : QE X b wb) (hs : starEach [a, b] X.env = (false, eval a X.env) :: starEach [b] X.env := by rfl) (hs2 : starEach [b] X.env = [(false, eval b X.env)] := by rfl) (hpl : (backTo pos (starEach [b] X.env)).any (·.1) = false := by rfl) : QE X (.Call (.Name "max" p) [a, b] [] pos) (wCl wMax2 (wCons wa (wCons wb wNil))) :=
  q_cb s_max2 (call_max2 hc) hg hm (by decide +kernel) (qa_cons ha (qa_cons hb qa_nil hs2) hs) (by decide) (by decide) hs hpl
theorem q_min2 {a b : Expr} {wa wb : TW} {p pos : Pos} (hc : X.calm = true) (hg : Gl X "min") (hm : X.mg "min" = none) (ha : QE X a wa) (hb : QE X b wb) (hs : starEach [a, b] X.env = (false, eval a X.env) :: starEach [b] X.env := by rfl) (hs2 : starEach [b] X.env = [(false, eval b X.env)] := by rfl) (hpl : (backTo pos (starEach [b] X.env)).any (·.1) = false := by rfl) : QE X (.Call (.Name "min" p) [a, b] [] pos) (wCl wMin2 (wCons wa (wCons wb wNil))) :=
  q_cb s_min2 (call_min2 hc) hg hm (by decide +kernel) (qa_cons ha (qa_cons hb qa_nil hs2) hs) (by decide) (by decide) hs hpl
end
end RT
namespace RT
open PySem PySem.Spec PyProof.Rows L2
/-! ### len(set(xs)) of any whole numbers -/
theorem dedup_nodup : ∀ (xs acc : List Int), acc.Nodup → (xs.foldl step_dedup acc).Nodup
  | [], acc, h => h
  | x :: xs, acc, h => by
    rw [List.foldl_cons]
    refine dedup_nodup xs _ ?_
    unfold step_dedup
    split
    · exact h
    · rename_i c
      refine List.nodup_append.mpr ⟨h, by simp, fun a ha b hb e => ?_⟩
      rw [List.mem_singleton.mp hb] at e
      subst e
      exact c (List.any_eq_true.mpr ⟨a, ha, by simp⟩)
theorem met_mem (val : Nat → Int) (i : Nat) (k : Int) : k ∈ firstMet val i ↔ k ∈ (List.range i).map val := by
  have := firstMet_any val i k
  constructor
  · intro h
    have h1 : (firstMet val i).any (· == k) = true := List.any_eq_true.mpr ⟨k, h, by simp⟩
    rw [this] at h1
    obtain ⟨x, hx, e⟩ := List.any_eq_true.mp h1
    have : x = k := by simpa using e
    rw [← this]; exact hx
  · intro h
    have h1 : ((List.range i).map val).any (· == k) = true := List.any_eq_true.mpr ⟨k, h, by simp⟩
    rw [← this] at h1
    obtain ⟨x, hx, e⟩ := List.any_eq_true.mp h1
    have : x = k := by simpa using e
    rw [← this]; exact hx
theorem range_getD (ns : List Int) : (List.range ns.length).map (fun i => ns.getD i 0) = ns := by
  apply List.ext_getElem
  · rw [List.length_map, List.length_range]
  · intro i h1 h2
    rw [List.getElem_map, List.getElem_range, List.getD_eq_getElem?_getD, List.getElem?_eq_getElem h2]; rfl
section
variable {X : Cx} {K : PySem.W.Frag} {F F' H H' H0 F0 : Hp}
def tLenS (K : PySem.W.Frag) (ta : TE) : TE := fun σ H Q => ta σ H fun x H1 => ∃ (l : Addr) (ns : List Int), x = V.ref l ∧ (SqL K H1 l (ns.map V.int) ∨ SqT K H1 l (ns.map V.int)) ∧ ns.length ≤ 60 ∧ ∀ ks : List Int, ks.Nodup → (∀ k, k ∈ ks ↔ k ∈ ns) → Q (V.int (ks.length : Nat)) H1
theorem pe_lenS {a : Expr} {ta : TE} {p p2 q pos : Pos} (clm : X.calm = true) (g1 : Gl X "len") (n1 : X.mg "len" = none) (g2 : Gl X "set") (n2 : X.mg "set" = none) (pa : PE X a ta)
    (st : starEach [a] X.env = (false, eval a X.env) :: starEach [] X.env := by rfl) : PE X (.Call (.Name "len" p) [.Call (.Name "set" p2) [a] [] q] [] pos) (tLenS X.K ta) := by
  refine ⟨fun pins s σ H Q I start => ?_⟩
  refine Call_ (ld_blt I g1 n1 PySem.boot_len ?_)
  refine PyProof.Rows.callWith_builtin1 (PyProof.Rows.args_cons ?_ rfl) rfl (by rfl)
  refine Call_ (ld_blt I g2 n2 PyProof.Rows.boot_set ?_)
  refine PyProof.Rows.callWith_type1 (PyProof.Rows.args_cons (thn (pa.run pins s σ H _ I start) fun val t1 ⟨x, H1, J, rx, z⟩ => PyProof.Rows.args_nil ?_) st) st rfl
  obtain ⟨l, ns, rfl, either, few, fin⟩ := z
  obtain rfl : val = Value.ref l := rx
  rcases either with hq | hq
  · obtain ⟨its, rv, pl, _⟩ := J.list hq
    have sz : its.toArray.size = ns.length := by rw [List.size_toArray, ← rv.length, List.length_map]
    refine PySem.call_set_list (ns := ns) (J.ok.hd clm) pl.isList (by simpa using rv.ints) (by rw [sz]; unfold scanBound; omega) fun h' tk so keep => ?_
    refine PyProof.Rows.args_nil ?_
    rw [sz] at so
    have nk : (firstMet (fun i => ns.getD i 0) ns.length).Nodup := dedup_nodup _ _ List.nodup_nil
    have mk : ∀ k, k ∈ firstMet (fun i => ns.getD i 0) ns.length ↔ k ∈ ns := fun k => by
      have := met_mem (fun i => ns.getD i 0) ns.length k
      rw [range_getD] at this
      exact this
    have few2 := firstMet_length_le (fun i => ns.getD i 0) ns.length
    obtain ⟨o, es, ep, t, ho, hex, hd, _, _, _, hf, hn⟩ := so
    have J2 : Inv X pins σ H1 { t1 with heap := h', toks := tk } := J.kept fun b o e => keep b o (Heap.lt_size e) e
    exact call_len_set ho hex hd hf (by rw [hn] <;> omega) ⟨.int (firstMet (fun i => ns.getD i 0) ns.length).length, H1, J2.tok _, ⟨_, by rw [hn]⟩, fin _ nk mk⟩
  · obtain ⟨its, rv, pl, _⟩ := J.tuple hq
    refine call_set_tupI ns (J.ok.hd clm) pl (by simpa using rv.ints) (by unfold scanBound; omega) fun h' tk c so hcl keep => ?_
    refine PyProof.Rows.args_nil ?_
    obtain ⟨o, es, ep, t, ho, hex, hd, _, nk, mem, _, hf, hn, _⟩ := so
    have J2 : Inv X pins σ H1 { t1 with heap := h', toks := tk } := J.kept fun b o e => keep b o e
    exact call_len_set ho hex hd hf (by omega) ⟨.int (es.toList.map keyOf).length, H1, J2.tok _, ⟨_, by rw [List.length_map, Array.length_toList]⟩, fin _ nk (fun k => by rw [← mem k]; simp)⟩
def wLenS (wa : TW) : TW := fun ρ Q E => wa ρ (fun m => ∃ l ns, m.seqD = some l ∧ D.ints l = some ns ∧ ns.length ≤ 60 ∧ ∀ ks : List Int, ks.Nodup → (∀ k, k ∈ ks ↔ k ∈ ns) → Q (.d (.int (ks.length : Nat)))) E
theorem q_lenS {a : Expr} {wa : TW} {p p2 q pos : Pos} (hc : X.calm = true) (hg : Gl X "len") (hm : X.mg "len" = none) (hg2 : Gl X "set") (hm2 : X.mg "set" = none) (ha : QE X a wa)
    (hs : starEach [a] X.env = (false, eval a X.env) :: starEach [] X.env := by rfl) : QE X (.Call (.Name "len" p) [.Call (.Name "set" p2) [a] [] q] [] pos) (wLenS wa) where
  mono := fun hq h z => ha.mono (fun m ⟨l, ns, e1, e2, e4, q⟩ => ⟨l, ns, e1, e2, e4, fun ks h1 h2 => hq _ (q ks h1 h2)⟩) h z
  run := fun W F0 H0 tk => peImp (pe_lenS hc hg hm hg2 hm2 (ha.run W F0 H0 tk) hs) fun σ H Qh ⟨ρ, F, rel, z⟩ =>
    ⟨ρ, F, rel, ha.mono (fun m ⟨l, ns, e1, e2, e4, q⟩ v H1 F1 fp x rm _ _ => by
      obtain ⟨b, vs, ev, hq, r⟩ := rm.seq x.s (rel.e.h.trans x.h) e1
      exact ⟨b, ns, ev, by rw [← r.ints e2]; exact hq, e4, fun ks h1 h2 => ((q ks h1 h2).ext x).here x.s (.d .int)⟩) (fun _ q => q) z⟩
end
/-! ### x[i], x[j] = two things -/
section
variable {X : Cx} {we wi wj : TW} {e ei ej : Expr} {x : Str} {p p' q q' pos tpos : Pos} {k : Nat}
def wSetII (n : Nat) (wi wj we : TW) : TSW := fun De ρ => onFl ρ n fun l => we ρ (fun m => ∃ y z, m.frz = some (.tup [y, z]) ∧ wi ρ (onI fun a => ∃ i, ixN l.length a = some i ∧ wj (ρ.set n (some (.fl .o (l.set i y)))) (onI fun b => ∃ j, ixN l.length b = some j ∧ De.nx (ρ.set n (some (.fl .o ((l.set i y).set j z))))) (De.ex (ρ.set n (some (.fl .o (l.set i y)))))) (De.ex ρ)) (De.ex ρ)
theorem s_setII (n : Nat) (hc : X.calm = true) (hi : QE X ei wi) (hj : QE X ej wj) (he : QE X e we)
    (ha : ∀ v, assign (.Subscript (.Name x p) ei p') X.env v = (do
      let ov ← holding [v] (eval (.Name x p) X.env)
      let iv ← holding [v, ov] (eval ei X.env)
      standAt p'
      holding [v, ov, iv] (setItem ov iv v)
      release [v, ov, iv] []) := by intro _; rfl)
    (hb : ∀ v, assign (.Subscript (.Name x q) ej q') X.env v = (do
      let ov ← holding [v] (eval (.Name x q) X.env)
      let iv ← holding [v, ov] (eval ej X.env)
      standAt q'
      holding [v, ov, iv] (setItem ov iv v)
      release [v, ov, iv] []) := by intro _; rfl)
    (hN : X.N[n]? = some x := by rfl) (hv : Vis X.env.scope x := by first | exact Or.inl rfl | exact Or.inr (Or.inl rfl) | exact Or.inr (Or.inr rfl)) (hd : (x == ("__debug__" : Str)) = false := by decide) (hcd : (x == ("__classdict__" : Str)) = false := by decide)
    (h2 : (assignEach [.Subscript (.Name x p) ei p', .Subscript (.Name x q) ej q'] X.env).map (·.2) = assign (.Subscript (.Name x p) ei p') X.env :: (assignEach [.Subscript (.Name x q) ej q'] X.env).map (·.2) := by rfl)
    (h1 : (assignEach [.Subscript (.Name x q) ej q'] X.env).map (·.2) = assign (.Subscript (.Name x q) ej q') X.env :: (assignEach [] X.env).map (·.2) := by rfl)
    (hn : (assignEach [.Subscript (.Name x p) ei p', .Subscript (.Name x q) ej q'] X.env).length = 2 := by rfl) (hst : (assignEach [.Subscript (.Name x p) ei p', .Subscript (.Name x q) ej q'] X.env).findIdx? (·.1) = none := by rfl)
    (hs : swapsWithSole [.Tuple [.Subscript (.Name x p) ei p', .Subscript (.Name x q) ej q'] k tpos] e pos.line X.env = pure false := by rfl) (hw : swappedStores [.Tuple [.Subscript (.Name x p) ei p', .Subscript (.Name x q) ej q'] k tpos] e X.env = pure none := by rfl) :
    QS X (.Assign [.Tuple [.Subscript (.Name x p) ei p', .Subscript (.Name x q) ej q'] k tpos] e pos) [] (wSetII n wi wj we) where
  mono := fun l h => onFl_mono (fun _ h => he.mono (fun m ⟨y, z, ey, u⟩ => ⟨y, z, ey, hi.mono (fun kd q => onI_mono (fun a ⟨i, e1, q⟩ => ⟨i, e1, hj.mono (fun kd q => onI_mono (fun b ⟨j, e2, q⟩ => ⟨j, e2, l.nx _ q⟩) q) (l.ex _) q⟩) q) (l.ex _) u⟩) (l.ex _) h) h
  run := fun W F0 H0 tk => psImp (ps_asg (he.run W F0 H0 tk) (pg_tup hc (pgs_cons (pg_sub (pe_var hN hv hd hcd) (hi.run W F0 H0 tk) set_list ha) (pgs_cons (pg_sub (pe_var hN hv hd hcd) (hj.run W F0 H0 tk) set_list hb) pgs_nil h1) h2) hn hst) hs hw) fun D σ H ⟨ρ, F, rel, z⟩ => by
    obtain ⟨a, vs0, l, e0, g1, _, _, z, _⟩ := mut_fl rel z
    refine ⟨ρ, F, rel, he.mono (fun m hm v1 H1 F1 fp x1 r hf hn => ?_) (fun _ q => exq rel q) z⟩
    obtain ⟨y, z, ey, u⟩ := hm
    have x2 := ext_frz x1 r hf
    have ry := r.frz (frzH_frz fun b hb => (r.own b hb).1) ey
    generalize frzH F1 H1 fp = F2 at x2 ry
    unfold RepD at ry
    obtain ⟨ta, tv, ev, tp, rr⟩ := ry
    subst ev
    unfold RepDs at rr
    obtain ⟨v, r2, e2, rv, rr⟩ := rr
    unfold RepDs at rr
    obtain ⟨w, r3, e3, rw', rr⟩ := rr
    unfold RepDs at rr
    subst rr; subst e3; subst e2
    refine ⟨ta, [v, w], rfl, Same.sqT x2.s tp.sq, rfl, v, [w], rfl, ?_⟩
    refine ⟨.ref a, g1, ρ, F2, rel.ext x2, hi.mono (fun kd hk v2 H3 F3 fk x3 rk _ _ => ?_) (fun _ q => exq (as := []) (D := D) (rel.ext x2) q) u⟩
    unfold onI at hk
    split at hk
    · rename_i ki
      obtain ⟨i', ei', hk⟩ := hk
      obtain ⟨vs, h2, h4, h5⟩ := fl_later rel (x2.trans x3) e0 g1
      have rel2 := h5 _ _ (RepDs.set (rv.mono x3.f) i' h4)
      refine ⟨a, vs, ki, i', rfl, rk.ofD.2.ofInt, h2, by rw [← h4.length]; exact ei', ?_⟩
      refine ⟨w, [], rfl, ?_⟩
      have e02 : (ρ.set n (some (.fl .o (l.set i' y))))[n]? = some (some (.fl .o (l.set i' y))) := List.getElem?_set_self (List.getElem?_eq_some_iff.mp e0).1
      refine ⟨.ref a, g1, ρ.set n (some (.fl .o (l.set i' y))), F3, rel2, hj.mono (fun kd hk v4 H5 F5 fk5 x5 rk5 _ _ => ?_) (fun _ q => ?_) hk⟩
      · unfold onI at hk
        split at hk
        · rename_i kj
          obtain ⟨j', ej', q⟩ := hk
          obtain ⟨vs2, k2, k4, k5⟩ := fl_later rel2 x5 e02 g1
          refine ⟨a, vs2, kj, j', rfl, rk5.ofD.2.ofInt, k2, by rw [← k4.length, List.length_set]; exact ej', ?_⟩
          have rel3 := k5 _ _ (RepDs.set ((rw'.mono x3.f).mono x5.f) j' k4)
          rw [List.set_set] at rel3
          exact ⟨rfl, q σ F5 _ ((x2.trans x3).f.trans x5.f) rel3 .refl⟩
        · exact hk.elim
      · exact exq (as := []) (D := D) rel2 q
    · exact hk.elim
end
end RT
namespace RT
open PySem PySem.Spec PyProof.Rows L2
/-! ### in, of data of any depth, in a list -/
theorem hu65 {k : Nat} {A : Around} (hr : Room k A) : A.units + 65 < cLine := by have := hr.un; omega
theorem any_py (a : D) (l : List D) : ((D.pys l).any fun z => PyData.eqv z a.py) = l.any fun z => z.eqb a := by
  rw [pys_map, List.any_map]; rfl
section
variable {X : Cx} {a b : Expr} {wa wb : TW} {pos : Pos}
def wInD (neg : Bool) : WR2 := fun x y Q => match x.snap, y.snap with
  | some d, some (.lst l) => d.ok ∧ (D.lst l).ok ∧ Q (.d (.bl (if neg then !(l.any fun z => z.eqb d) else l.any fun z => z.eqb d)))
  | _, _ => False
theorem s_inD : OpS X (rInD X.K) (wInD false) where
  mono := fun h q => by unfold wInD at q ⊢; split at q <;> first | exact ⟨q.1, q.2.1, h _ q.2.2⟩ | exact q
  run := fun s z rx ry q h => by
    unfold wInD at q
    split at q
    · rename_i e1 e2
      have r2 := ry.dp s z e2 q.2.1.lay
      have hs := q.2.1
      have qq := (h _ q.2.2).here s (.d .bl)
      unfold D.py at r2
      unfold D.ok D.py at hs
      rw [← any_py] at qq
      exact ⟨_, _, rx.dp s z e1 q.1.lay, r2, q.1, hs, qq⟩
    · exact q.elim
theorem s_ninD : OpS X (rNotInD X.K) (wInD true) where
  mono := fun h q => by unfold wInD at q ⊢; split at q <;> first | exact ⟨q.1, q.2.1, h _ q.2.2⟩ | exact q
  run := fun s z rx ry q h => by
    unfold wInD at q
    split at q
    · rename_i e1 e2
      have r2 := ry.dp s z e2 q.2.1.lay
      have hs := q.2.1
      have qq := (h _ q.2.2).here s (.d .bl)
      unfold D.py at r2
      unfold D.ok D.py at hs
      rw [← any_py] at qq
      exact ⟨_, _, rx.dp s z e1 q.1.lay, r2, q.1, hs, qq⟩
    · exact q.elim
theorem q_inD (hu : X.A.units + 65 < cLine) (ha : QE X a wa) (hb : QE X b wb) (hm : behindInMarks .In b = false := by rfl) : QE X (.Compare a [.In] [b] pos) (wOp (wInD false) wa wb) := q_cmp (op_inD hu) s_inD ha hb hm
theorem q_ninD (hu : X.A.units + 65 < cLine) (ha : QE X a wa) (hb : QE X b wb) (hm : behindInMarks .NotIn b = false := by rfl) : QE X (.Compare a [.NotIn] [b] pos) (wOp (wInD true) wa wb) := q_cmp (op_notInD hu) s_ninD ha hb hm
theorem t_inD (hu : X.A.units + 65 < cLine) (ha : QE X a wa) (hb : QE X b wb) (hm : behindInMarks .In b = false := by rfl) : QT X (.Compare a [.In] [b] pos) (wTB (wOp (wInD false) wa wb)) := t_cmp (op_inD hu) s_inD ha hb hm
theorem t_ninD (hu : X.A.units + 65 < cLine) (ha : QE X a wa) (hb : QE X b wb) (hm : behindInMarks .NotIn b = false := by rfl) : QT X (.Compare a [.NotIn] [b] pos) (wTB (wOp (wInD true) wa wb)) := t_cmp (op_notInD hu) s_ninD ha hb hm
theorem wInD_dl {c : Bool} {d : D} {l : List D} {Q : M → Prop} : wInD c (.d d) (.d (.lst l)) Q = (d.ok ∧ (D.lst l).ok ∧ Q (.d (.bl (if c then !(l.any fun z => z.eqb d) else l.any fun z => z.eqb d)))) := by
  unfold wInD; exact propext Iff.rfl
theorem wInD_df {c : Bool} {d : D} {k : Md} {l : List D} {Q : M → Prop} : wInD c (.d d) (.fl k l) Q = (d.ok ∧ (D.lst l).ok ∧ Q (.d (.bl (if c then !(l.any fun z => z.eqb d) else l.any fun z => z.eqb d)))) := by
  unfold wInD; exact propext Iff.rfl
end
end RT
namespace RT
open PySem PySem.Spec PyProof.Rows L2
/-! ### d.update(another dict); dict(pairs) -/
section
variable {X : Cx} {A : Around} {E : Value → Shared → Prop} {pins : List (Addr × Obj)} {σ : L2.St} {H : Hp} {s : Shared} {a o : Addr} {kvs more : List (Key × V)}
theorem d_update {Q : Value → Shared → Prop} (I : Inv X pins σ H s) (ne : a ≠ o) (e : H a = some (.dK kvs)) (e2 : H o = some (.dK more)) (hz : kvs.length + more.length ≤ sizeLine) (h : ∀ s', Inv X pins σ (upd H a (.dK (mergeK kvs more))) s' → Q .none s') : wpAny (model X.prog X.w) A (call (.builtin "dict.update") [.ref a, .ref o]) Q E s := by
  obtain ⟨z, hd, vs, rel, dd⟩ := dk_of I.hok e
  obtain ⟨z2, hd2, vs2, rel2, dd2⟩ := dk_of I.hok e2
  refine call_meetsIn PySem.F.slot_dict_update dd.typeIs PySem.F.entry_dict_update (PySem.F.args_dict_update_2 _ _) (meets_dict_update (mixKind X.prog X.w) a o ne hd2) ⟨vs, vs2, dd, dd2, by rw [← rel.length, ← rel2.length]; exact hz, fun h' dd' _ hs => h _ ?_⟩
  have he : ∃ q, h'.get? a = some q := let ⟨q, _, _, hq, _⟩ := dd'; ⟨q, hq⟩
  exact d_write (t' := s.toks) I (by rw [e]; exact True.intro) hs he (dk_new (Nat.le_trans (length_mergeK more kvs) hz) hd (KV.merge rel2 rel) dd')
end
def tDUpd (td ty : TE) : TE := fun σ H Q => td σ H fun x H1 => ∃ a, x = .ref a ∧ IsD H1 a ∧ ty σ H1 fun y H2 => ∃ o kvs more, y = .ref o ∧ a ≠ o ∧ H2 a = some (.dK kvs) ∧ H2 o = some (.dK more) ∧ kvs.length + more.length ≤ sizeLine ∧ Q .non (upd H2 a (.dK (mergeK kvs more)))
section
variable {X : Cx} {o e : Expr} {apos cpos : Pos} {td ty : TE}
theorem pe_dupd (ho : PE X o td) (he : PE X e ty) (m : M1 X o "update" apos e cpos) : PE X (.Call (.Attribute o "update" apos) [e] [] cpos) (tDUpd td ty) := by
  refine ⟨fun pins s σ H Q I h => ?_⟩
  refine wpAny_Call_method m.base m.few m.line PySem.F.plainAttrs_dict PySem.F.slot_dict_update PySem.F.type_dict_update (thn (ho.run pins s σ H _ I h) fun u s1 ⟨x, H1, I1, rx, a, ex, d, q1⟩ => ?_)
  subst ex
  obtain rfl : u = Value.ref a := rx
  obtain ⟨t1, t2, _⟩ := isD_at I1 d
  refine ⟨t1, t2, ?_⟩
  rw [m.trees]
  refine Calls.callWith_builtin rfl (Calls.evalArgs_plain (Calls.spliced_cons (thn (he.run pins s1 σ H1 _ I1 q1) fun iv s2 ⟨y, H2, I2, ry, b, kvs, more, ey, ne, ea, eb, hz, q2⟩ => Calls.spliced_nil ?_)))
  subst ey
  obtain rfl : iv = Value.ref b := ry
  exact d_update I2 ne ea eb hz fun s3 I3 => ⟨.non, _, I3, rfl, q2⟩
end
def mergeD (l more : List (Key × D)) : List (Key × D) := more.foldl (fun acc kv => putD acc kv.1 kv.2) l
section
variable {K : PySem.W.Frag} {F : Hp}
theorem merge_rep : ∀ {more : List (Key × D)} {mv : List (Key × V)} {l : List (Key × D)} {kvs : List (Key × V)}, mv.map (·.1) = more.map (·.1) → RepDs K F (more.map (·.2)) (mv.map (·.2)) → kvs.map (·.1) = l.map (·.1) → RepDs K F (l.map (·.2)) (kvs.map (·.2)) →
    (mergeK kvs mv).map (·.1) = (mergeD l more).map (·.1) ∧ RepDs K F ((mergeD l more).map (·.2)) ((mergeK kvs mv).map (·.2))
  | [], [], l, kvs, _, _, h, r => ⟨h, r⟩
  | [], _ :: _, _, _, h, _, _, _ => by cases h
  | _ :: _, [], _, _, h, _, _, _ => by cases h
  | p :: more, q :: mv, l, kvs, h1, r1, h, r => by
    rw [List.map_cons, List.map_cons] at h1 r1
    obtain ⟨e1, e2⟩ := List.cons.inj h1
    unfold RepDs at r1
    obtain ⟨v, r2, ev, rv, rr⟩ := r1
    obtain ⟨e3, e4⟩ := List.cons.inj ev
    obtain ⟨h3, r3⟩ := put_rep (k := p.1) h r rv
    have ih := merge_rep (more := more) (mv := mv) e2 (by rw [e4]; exact rr) h3 r3
    have e5 : putK kvs q.1 q.2 = putK kvs p.1 v := by rw [← e3]; show putK kvs q.1 q.2 = putK kvs p.1 q.2; rw [show q.1 = p.1 from e1]
    have e6 : mergeK kvs (q :: mv) = mergeK (putK kvs q.1 q.2) mv := rfl
    have e7 : mergeD l (p :: more) = mergeD (putD l p.1 p.2) more := rfl
    rw [e6, e7, e5]
    exact ih
end
section
variable {X : Cx} {F0 H0 : Hp} {we : TW} {e : Expr} {x : Str} {p apos cpos spos : Pos}
def onOd (P : List (Key × D) → Prop) : M → Prop := fun m => match m with
  | .fd .o l => P l
  | _ => False
theorem onOd_e {P : List (Key × D) → Prop} {l : List (Key × D)} : onOd P (.fd .o l) = P l := rfl
def wUpd (n : Nat) (we : TW) : TSW := fun De ρ => onFd ρ n fun l => we ρ (onOd fun l2 => l.length + l2.length ≤ 16777216 ∧ De.nx (ρ.set n (some (.fd .o (mergeD l l2))))) (De.ex ρ)
theorem s_upd (n : Nat) (he : QE X e we) (m : M1 X (.Name x p) "update" apos e cpos) (hN : X.N[n]? = some x := by rfl) (hv : Vis X.env.scope x := by first | exact Or.inl rfl | exact Or.inr (Or.inl rfl) | exact Or.inr (Or.inr rfl)) (hd : (x == ("__debug__" : Str)) = false := by decide) (hcd : (x == ("__classdict__" : Str)) = false := by decide)
    (hsw : swapsWith (.Call (.Attribute (.Name x p) "update" apos) [e] [] cpos) none spos.line X.env = pure false := by rfl) :
    QS X (.Expr (.Call (.Attribute (.Name x p) "update" apos) [e] [] cpos) spos) [] (wUpd n we) where
  mono := fun l h => onFd_mono (fun _ z => he.mono (fun m q => by
    unfold onOd at q ⊢
    split at q
    · exact ⟨q.1, l.nx _ q.2⟩
    · exact q) (l.ex _) z) h
  run := fun W F0 H0 tk => psImp (ps_expr (pe_dupd (pe_var hN hv hd hcd) (he.run W F0 H0 tk) m) hsw) fun D σ H ⟨ρ, F, rel, z⟩ => by
    obtain ⟨l, e0, z⟩ := onFd_of z
    obtain ⟨a, kvs0, g1, g2, _⟩ := rel.updFd rfl e0
    refine ⟨.ref a, g1, a, rfl, .inl ⟨kvs0, .inl g2⟩, ρ, F, rel, he.mono (fun m hm v1 H1 F1 fp x1 r hf hn => ?_) (fun _ q => exq rel q) z⟩
    unfold onOd at hm
    split at hm
    · rename_i l2
      unfold RepM at r
      obtain ⟨b, mv, ev, at_, k1, r1⟩ := r
      obtain ⟨kvs, h2, h3, h4, h5⟩ := fd_later rel x1 e0 g1
      have hb := at_.now (rel.e.h.trans x1.h)
      have hbf : b ∈ fp := by rw [at_.1]; exact List.mem_cons_self
      have hab : a ≠ b := fun z => by
        have := hf b hbf
        rw [← z, g2] at this; cases this
      have len1 : kvs.length = l.length := by have := congrArg List.length h3; simpa using this
      have len2 : mv.length = l2.length := by have := congrArg List.length k1; simpa using this
      obtain ⟨m1, m2⟩ := merge_rep k1 r1 h3 h4
      exact ⟨b, kvs, mv, ev, hab, h2, hb, by rw [len1, len2, sizeLine_eq]; exact hm.1, hm.2 σ F1 _ x1.f (h5 _ _ m1 m2) .refl⟩
    · exact hm.elim
end
/-! ### dict(xs), xs a list of pairs -/
def pairsD : List D → Option (List (Key × D))
  | [] => some []
  | .tup [k, v] :: l => match k.key, pairsD l with
    | some k', some r => some ((k', v) :: r)
    | _, _ => none
  | _ :: _ => none
section
variable {X : Cx} {K : PySem.W.Frag} {F H H0 F0 : Hp} {wa : TW} {a : Expr} {p pos : Pos}
theorem pairs_rep (s : Same F H) : ∀ {l : List D} {kvs : List (Key × D)} {vs : List V}, pairsD l = some kvs → RepDs K F l vs → ∃ (ps : List Addr) (mv : List (Key × V)), vs = ps.map V.ref ∧ Paired (fun p kv => SqT K H p [kV kv.1, kv.2]) ps mv ∧ mv.map (·.1) = kvs.map (·.1) ∧ RepDs K F (kvs.map (·.2)) (mv.map (·.2))
  | [], kvs, vs, e, r => by
    unfold pairsD at e
    unfold RepDs at r
    cases e
    subst r
    exact ⟨[], [], rfl, .nil, rfl, .nil⟩
  | x :: l, kvs, vs, e, r => by
    unfold pairsD at e
    split at e
    · rename_i h; cases h
    · rename_i k v l' h
      obtain ⟨h1, h2⟩ := List.cons.inj h
      subst h1; subst h2
      split at e
      · rename_i k' r' ek er
        cases e
        unfold RepDs at r
        obtain ⟨u, us, e1, ru, rr⟩ := r
        subst e1
        unfold RepD at ru
        obtain ⟨ta, tv, eu, tp, rt⟩ := ru
        subst eu
        unfold RepDs at rt
        obtain ⟨w1, r1, e2, rk, rt⟩ := rt
        unfold RepDs at rt
        obtain ⟨w2, r2, e3, rv, rt⟩ := rt
        unfold RepDs at rt
        subst rt; subst e3; subst e2
        obtain ⟨ps, mv, i1, i2, i3, i4⟩ := pairs_rep s er rr
        refine ⟨ta :: ps, (k', w2) :: mv, by rw [i1]; rfl, .cons ?_ i2, by rw [List.map_cons, List.map_cons, i3], .cons rv i4⟩
        have := Same.sqT s tp.sq
        rw [rk.key ek] at this
        exact this
      · cases e
    · cases e
def wDictP : WCl := fun xs Q => on1 (fun m => ∃ l kvs, m.lstD = some l ∧ pairsD l = some kvs ∧ Q (.fd .o (mergeD [] kvs))) xs
theorem s_dictP : CalS X (fun xs H Q => ∃ (a : Addr) (ps : List Addr) (kvs : List (Key × V)), xs = [.ref a] ∧ SqL X.K H a (ps.map V.ref) ∧ Paired (fun p kv => SqT X.K H p [kV kv.1, kv.2]) ps kvs ∧
    ∀ p, H p = none → Q (.ref p) (upd H p (.dK (mergeK [] kvs)))) wDictP where
  mono := fun h q => on1_mono (fun m ⟨l, kvs, e, e2, q⟩ => ⟨l, kvs, e, e2, h _ q⟩) q
  run := fun {H0 F H xs vs fp Q Qh} s z rs q h => by
    obtain ⟨m, e, l, kvs, hl, hk, qq⟩ := on1_of q
    clear q
    subst e
    obtain ⟨v, e, r⟩ := rs.one
    subst e
    obtain ⟨b, ws, ev, hb, r2⟩ := r.lst s z hl
    obtain ⟨ps, mv, e1, e2, e3, e4⟩ := pairs_rep s hk r2
    subst e1
    refine ⟨b, ps, mv, by rw [ev], SqL.of hb, e2, fun p hp => ?_⟩
    obtain ⟨m1, m2⟩ := merge_rep (l := []) (kvs := []) e3 e4 rfl .nil
    refine h _ qq (.ref p) _ F [p] (Ext.mine s hp) ?_ (fun a ha => ?_) (List.nodup_cons.mpr ⟨(by simp), List.nodup_nil⟩)
    · unfold RepM
      exact ⟨p, mergeK [] mv, rfl, ⟨rfl, upd_same, s.free hp, z.free hp⟩, m1, m2⟩
    · have : a = p := by simpa using ha
      rw [this]; exact hp
theorem q_dictP (hc : X.calm = true) (hg : Gl X "dict") (hm : X.mg "dict" = none) (ha : QE X a wa) (hs : starEach [a] X.env = [(false, eval a X.env)] := by rfl) : QE X (.Call (.Name "dict" p) [a] [] pos) (wCl wDictP (wCons wa wNil)) :=
  q_ct s_dictP (call_dictP hc) hg hm boot_dict (qa_cons ha qa_nil hs) (by decide) (by decide) hs rfl
end
end RT
namespace RT
open PySem PySem.Spec PyProof.Rows L2
/-! ### list(reversed(a list)) -/
section
variable {prog : Program} {w : World} {A : Around} {E : Value → Shared → Prop} {s : Shared}
theorem wpAny_extend_rev {R : Result → Shared → Prop} {it l : Addr} {items : Array Value} (hh : A.handled = none) (hit : s.heap.IsRevIter it l ((items.size : Int) - 1)) (hl : s.heap.IsList l items) (hne : l ≠ it) (hn : items.size ≤ sizeLine)
    (S : Addr) (res : Value) (c₀ : Nat) (hSi : S ≠ it) (hSl : S ≠ l) (hS : s.heap.get? S = some { cls := .type "list", data := .seq #[] c₀ })
    (hR : ∀ h' tk acc' c', (∀ b o, b ≠ S → b ≠ it → s.heap.get? b = some o → h'.get? b = some o) → h'.get? S = some { cls := .type "list", dict := none, data := .seq acc' c', slots := #[] } → ItemsOf (fun i v => items[items.size - 1 - i]? = some v) acc' items.size → R (.ok (.ret res)) { s with heap := h', toks := tk }) :
    wpAny (model prog w) A.in1 (Builtin.List.listExtendWith (.ref S) (.ref it) res)
      (fun fin s' => match fin with | .done f => R (.ok f) s' | .again c' => c'.quiet = true ∧ codeAny (model prog w) A c' R s') (fun e s' => R (.error e) s') s := by
  have W := (Walks.listRev (prog := prog) (w := w) (A := A.in1) hh it l hne items).toS
  have hSf : S ∉ [it, l] := by simp only [List.mem_cons, List.not_mem_nil, or_false, not_or]; exact ⟨hSi, hSl⟩
  have hT : s.TypeIs (.ref it) "list_reverseiterator" := Heap.IsRevIter.typeIs hit
  have h1 : Builtin.List.listSameRef (.ref S) (.ref it) = false := by simp [Builtin.List.listSameRef, hSi]
  unfold Builtin.List.listExtendWith
  refine wpAny_bind (wpAny_typeOf hT ?_)
  rw [if_neg (by rw [h1]; decide)]
  refine wpAny_bind (wpAny_pyIter_revIter hit ?_)
  refine wpAny_bind (wpAny_holding ?_)
  unfold Builtin.List.listLengthHint
  refine wpAny_bind (wpAny_specialOf hT nolen_lri ?_)
  show wpAny _ A.in1 (specialOf (Value.ref it) (Str.ofString "__length_hint__") >>= _) _ _ _
  refine wpAny_bind (wpAny_specialOf hT hint_lri ?_)
  generalize hid : ("list_reverseiterator.__length_hint__" : String) = id0
  wp_delta
  rw [show splitId id0 = some ("list_reverseiterator", "__length_hint__") from by subst hid; decide +kernel]
  subst hid
  refine wpAny_bind (wpAny_isInstance (b := true) hT (by rw [isSubtype_type]; kernel_rfl) ?_)
  refine wpAny_pure ?_
  rw [if_neg (by decide)]
  have e0 : ((items.size : Nat) : Int) - 1 - ((0 : Nat) : Int) = (items.size : Int) - 1 := by omega
  refine wpAny_pure ⟨plainId_quiet F.plain_extend_loop _, codeAny_extend_loopS W hn _ hSf _ items.size 0 _ _ _ rfl (Nat.zero_le _) ⟨Nat.zero_le _, by rw [e0]; exact hit, hl⟩ hS (ItemsOf.nil _) fun s' acc' c' hm hS' hacc => ?_⟩
  rw [Moved.eq_with hm]
  refine hR s'.heap s'.toks acc' c' (fun b o hb hb2 e => hm.heap b o (fun hmem => ?_) e) hS' hacc
  rcases List.mem_cons.mp hmem with e' | hmem
  · exact hb e'
  · exact hb2 (List.mem_singleton.mp hmem)
theorem wpAny_list_init_rev {R : Result → Shared → Prop} {it l : Addr} {items : Array Value} (hh : A.handled = none) (hit : s.heap.IsRevIter it l ((items.size : Int) - 1)) (hl : s.heap.IsList l items) (hne : l ≠ it) (hn : items.size ≤ sizeLine)
    (S : Addr) (hSi : S ≠ it) (hSl : S ≠ l) (hS : s.heap.get? S = some { cls := .type "list", data := .seq #[] })
    (hR : ∀ h' tk acc' c', (∀ b o, b ≠ S → b ≠ it → s.heap.get? b = some o → h'.get? b = some o) → h'.get? S = some { cls := .type "list", dict := none, data := .seq acc' c', slots := #[] } → ItemsOf (fun i v => items[items.size - 1 - i]? = some v) acc' items.size → R (.ok (.ret .none)) { s with heap := h', toks := tk }) :
    wpAny (model prog w) A.in1 (Builtin.«list.__init__» ⟨[.ref S, .ref it], []⟩)
      (fun fin s' => match fin with | .done f => R (.ok f) s' | .again c' => c'.quiet = true ∧ codeAny (model prog w) A c' R s') (fun e s' => R (.error e) s') s := by
  show wpAny _ _ (do let old ← Builtin.List.listItems (.ref S); Builtin.List.listUpdate (.ref S) (fun _ => #[]); letGo old.toList.reverse; Builtin.List.listExtendWith (.ref S) (.ref it) .none) _ _ s
  refine wpAny_bind ?_
  unfold Builtin.List.listItems
  refine wpAny_bind (wpAny_seqItems hS rfl (wpAny_pure ?_))
  show wpAny _ _ (updateSeq S (fun _ => #[]) >>= fun _ => letGo (#[] : Array Value).toList.reverse >>= fun _ => Builtin.List.listExtendWith (.ref S) (.ref it) .none) _ _ s
  refine wpAny_bind (wpAny_updateSeq hS rfl ?_)
  have hS₂ := Heap.get?_update_self (Obj.mapSeq (fun _ => (#[] : Array Value))) hS rfl
  have oth : ∀ b o, b ≠ S → s.heap.get? b = some o → (s.heap.update S (Obj.mapSeq (fun _ => (#[] : Array Value)))).get? b = some o :=
    fun b o hb e => (Heap.get?_update_other _ _ (Ne.symm hb)).trans e
  refine wpAny_bind (wpAny_letGo ?_)
  have hl2 : (s.heap.update S (Obj.mapSeq (fun _ => (#[] : Array Value)))).IsList l items := by
    obtain ⟨o, ho, hc, n, hd⟩ := id hl
    exact ⟨o, oth _ _ (Ne.symm hSl) ho, hc, n, hd⟩
  refine wpAny_extend_rev hh (hit.at fun o e => oth _ _ (Ne.symm hSi) e) hl2 hne hn S .none _ hSi hSl hS₂ fun h' tk acc' c' hk hS' hacc => ?_
  exact hR h' tk acc' c' (fun b o hb hb2 e => hk b o hb hb2 (oth b o hb e)) hS' hacc
theorem call_list_rev {it l : Addr} {items : Array Value} {Q : Value → Shared → Prop} (hh : A.handled = none) (hit : s.heap.IsRevIter it l ((items.size : Int) - 1)) (hl : s.heap.IsList l items) (hne : l ≠ it) (hn : items.size ≤ sizeLine)
    (hQ : ∀ h' tk acc' c', (∀ b o, b ≠ it → s.heap.get? b = some o → h'.get? b = some o) → h'.get? s.heap.objs.size = some { cls := .type "list", dict := none, data := .seq acc' c', slots := #[] } → ItemsOf (fun i v => items[items.size - 1 - i]? = some v) acc' items.size → Q (.ref s.heap.objs.size) { s with heap := h', toks := tk }) :
    wpAny (model prog w) A (call (.type "list") [.ref it]) Q E s := by
  refine callType_codes (Q₁ := fun obj s₁ => obj = .ref s.heap.objs.size ∧ s₁ = { s with heap := s.heap.push { cls := .type "list", data := .seq #[] } }) F.called_list (F.typeCall_list_1 _) F.entry_list_init
    (code_list_new _ ⟨rfl, rfl⟩) fun obj s₁ h₁ => ?_
  obtain ⟨rfl, rfl⟩ := h₁
  have hS : (s.heap.push { cls := .type "list", data := .seq #[] }).get? s.heap.objs.size = some { cls := .type "list", data := .seq #[] } := Heap.get?_push_size _ rfl
  obtain ⟨oi, hoi, _⟩ := id hit
  obtain ⟨ol, hol, _⟩ := id hl
  refine ⟨⟨_, hS, rfl⟩, F.args_list_init_2 _ _, wpAny_list_init_rev (A := A.in1) hh (hit.at fun o e => Heap.get?_push_of_some _ e) (hl.push _) hne hn _ (Nat.ne_of_gt (Heap.lt_size hoi)) (Nat.ne_of_gt (Heap.lt_size hol)) hS fun h' tk acc' c' hk hS' hacc => ?_⟩
  exact ⟨rfl, hQ h' tk acc' c' (fun b o hb e => hk b o (Nat.ne_of_lt (Heap.lt_size e)) hb (Heap.get?_push_of_some _ e)) hS' hacc⟩
end
/-- list(reversed(x)), x a list: a new list -/
def tLstRev (K : PySem.W.Frag) (te : TE) : TE := fun σ H Q => te σ H fun v H1 => ∃ (a : Addr) (xs : List V), v = .ref a ∧ SqL K H1 a xs ∧ ∀ q, H1 q = none → Q (.ref q) (upd H1 q (.lst xs.reverse))
section
variable {X : Cx}
theorem pe_lstRev {e : Expr} {te : TE} {p p2 pos pos2 : Pos} (hc : X.calm = true) (hg : Gl X "list") (hm : X.mg "list" = none) (hg2 : Gl X "reversed") (hm2 : X.mg "reversed" = none) (he : PE X e te)
    (hs : starEach [e] X.env = (false, eval e X.env) :: starEach [] X.env := by rfl)
    (hs2 : starEach [.Call (.Name "reversed" p2) [e] [] pos2] X.env = (false, eval (.Call (.Name "reversed" p2) [e] [] pos2) X.env) :: starEach [] X.env := by rfl) :
    PE X (.Call (.Name "list" p) [.Call (.Name "reversed" p2) [e] [] pos2] [] pos) (tLstRev X.K te) := by
  refine ⟨fun pins s σ H Q I h => ?_⟩
  refine Call_ (ld_blt I hg hm boot_list (PyProof.Rows.callWith_type1 (args_cons (Call_ (ld_blt I hg2 hm2 PyProof.Rows.boot_reversed (PyProof.Rows.callWith_type1 (args_cons (thn (he.run pins s σ H _ I h) fun u s1 ⟨v, H1, I1, r1, q1⟩ => args_nil ?_) hs) hs rfl))) hs2) hs2 rfl))
  obtain ⟨a, xs, ev, hq, q⟩ := q1
  subst ev
  obtain rfl : u = Value.ref a := r1
  obtain ⟨its, rv, p', hz⟩ := I1.list hq
  refine call_reversed_list p'.isList (args_nil ?_)
  have k0 : ∀ b o, s1.heap.get? b = some o → (s1.heap.push (revObj a ((its.toArray.size : Int) - 1))).get? b = some o := fun b o e => Heap.get?_push_of_some _ e
  have I2 : Inv X pins σ H1 { s1 with heap := s1.heap.push (revObj a ((its.toArray.size : Int) - 1)) } := I1.kept (t' := s1.toks) k0
  obtain ⟨f0, f1, f2, f3, f4, f5⟩ := I1.fpOk (H' := H1) (b := s1.heap.objs.size) (Nat.le_refl _) (I1.hok.fresh (Nat.le_refl _))
  have hl := p'.isList
  obtain ⟨ol, hol, _⟩ := id hl
  have hne : a ≠ s1.heap.objs.size := Nat.ne_of_lt (Heap.lt_size hol)
  have hn : its.toArray.size ≤ sizeLine := by rw [List.size_toArray, ← rv.length]; exact hz
  refine call_list_rev (s := { s1 with heap := s1.heap.push (revObj a ((its.toArray.size : Int) - 1)) }) (I1.ok.hd hc) ⟨_, Heap.get?_push_size _ rfl, rfl, rfl⟩ (hl.push _) hne hn fun h' tk acc c' hk hS hi => ?_
  have hle : s1.heap.objs.size ≤ (s1.heap.push (revObj a ((its.toArray.size : Int) - 1))).objs.size := by
    show s1.heap.objs.size ≤ (s1.heap.objs.push _).size
    rw [Array.size_push]; omega
  have hv : Vals xs.reverse acc.toList := vals_rev rv hi
  have hS' : h'.get? (s1.heap.push (revObj a ((its.toArray.size : Int) - 1))).objs.size = some { cls := .type "list", dict := none, data := .seq acc.toList.toArray c', slots := #[] } := by
    rw [Array.toArray_toList]; exact hS
  exact ⟨.ref (s1.heap.push (revObj a ((its.toArray.size : Int) - 1))).objs.size, upd H1 (s1.heap.push (revObj a ((its.toArray.size : Int) - 1))).objs.size (.lst xs.reverse),
    I1.laid (t' := tk) (fun b o e => hk b o (Nat.ne_of_lt (Heap.lt_size e)) (k0 b o e)) hle (show ObjOk X.prog X.w _ h' _ (.lst xs.reverse) from ⟨by rw [List.length_reverse]; exact hz, acc.toList, c', hv, hS'⟩), rfl, q _ (I1.hok.fresh hle)⟩
end
section
variable {X : Cx} {K : PySem.W.Frag} {F H H0 F0 : Hp} {wa : TW} {a : Expr} {p pos : Pos}
theorem reps_rev : ∀ {l : List D} {vs : List V}, RepDs K F l vs → RepDs K F l.reverse vs.reverse := by
  intro l
  induction l with
  | nil =>
    intro vs r
    unfold RepDs at r
    subst r
    exact .nil
  | cons x l ih =>
    intro vs r
    unfold RepDs at r
    obtain ⟨u, us, e, ru, rr⟩ := r
    subst e
    rw [List.reverse_cons, List.reverse_cons]
    exact (ih rr).append (.cons ru .nil)
def wLstRev (wa : TW) : TW := fun ρ Q E => wa ρ (fun m => ∃ l, m.lstD = some l ∧ Q (.fl .o l.reverse)) E
theorem q_lstRev {p2 pos2 : Pos} (hc : X.calm = true) (hg : Gl X "list") (hm : X.mg "list" = none) (hg2 : Gl X "reversed") (hm2 : X.mg "reversed" = none) (ha : QE X a wa) (hs : starEach [a] X.env = [(false, eval a X.env)] := by rfl)
    (hs2 : starEach [Expr.Call (.Name "reversed" p2) [a] [] pos2] X.env = [(false, eval (Expr.Call (.Name "reversed" p2) [a] [] pos2) X.env)] := by rfl) : QE X (.Call (.Name "list" p) [.Call (.Name "reversed" p2) [a] [] pos2] [] pos) (wLstRev wa) where
  mono := fun hq h z => ha.mono (fun m ⟨l, e, q⟩ => ⟨l, e, hq _ q⟩) h z
  run := fun W F0 H0 tk => peImp (pe_lstRev hc hg hm hg2 hm2 (ha.run W F0 H0 tk) hs hs2) fun σ H Qh ⟨ρ, F, rel, z⟩ =>
    ⟨ρ, F, rel, ha.mono (fun m ⟨l, hl, qq⟩ v H1 F1 fp x rm h1 h2 => by
      obtain ⟨b, us, e1, hq, r2⟩ := rm.lst x.s (rel.e.h.trans x.h) hl
      exact ⟨b, us, e1, SqL.of hq, (qq.ext x).mine x.s (rel.e.h.trans x.h) (reps_rev r2)⟩) (fun _ q => q) z⟩
end
end RT
namespace RT
open PySem PySem.Spec PyProof.Rows L2
/-! ### try with two clauses -/
def wCat2 (K : PySem.W.Frag) (c : Value) (i : Nat) (ts : Addr → Value → Option Addr → TS) (c2 : Value) (i2 : Nat) (ts2 : Addr → Value → Option Addr → TS) (Wo : WX) (D : Ends) : WX := fun cls d σ H =>
  ∃ b b2, PySem.W.exmOne K cls c = some b ∧ PySem.W.exmOne K cls c2 = some b2 ∧
    (b = true → ∀ a, H a = none → ts a cls d { nx := fun σ2 H2 => D.nx (σ2.set i none) H2, rt := D.rt, bk := fun σ2 H2 => D.bk (σ2.set i none) H2, ct := fun σ2 H2 => D.ct (σ2.set i none) H2 } (σ.set i (some (.ref a))) (upd H a (exh a cls d))) ∧
    (b = false → b2 = true → ∀ a, H a = none → ts2 a cls d { nx := fun σ2 H2 => D.nx (σ2.set i2 none) H2, rt := D.rt, bk := fun σ2 H2 => D.bk (σ2.set i2 none) H2, ct := fun σ2 H2 => D.ct (σ2.set i2 none) H2 } (σ.set i2 (some (.ref a))) (upd H a (exh a cls d))) ∧
    (b = false → b2 = false → Wo cls d σ H)
section
variable {X : Cx} {x n x2 n2 : Str} {c c2 : Value} {i i2 : Nat} {body suite suite2 : List Stmt} {b₀ c₀ : Stmt} {np np2 pos pos' pos2 : Pos} {tb : WX → TS} {ts ts2 : Addr → Value → Option Addr → TS} {Wo : WX}
theorem ps_try_val2 (hs : X.stack = X.env :: X.outer) (hf : X.env.frame = some X.env.locals) (hN : X.N.Nodup) (hi : X.N[i]? = some n) (hln : X.env.kindOf n = some .local) (hc : Names X x c) (hi2 : X.N[i2]? = some n2) (hln2 : X.env.kindOf n2 = some .local) (hc2 : Names X x2 c2) (tk : Takes X Wo)
    (hb : ∀ (W : WX) (pn : List (Addr × Obj)) (xe : Value → Shared → Prop), Takes (X.tr pn xe) W → PassesOwn (model X.prog X.w) X.A X.env xe → PSs (X.tr pn xe) body (tb W))
    (hsu : ∀ (a : Addr) (cls : Value) (d : Option Addr) (pn : List (Addr × Obj)), PSs (X.suite a pn) (b₀ :: suite) (ts a cls d))
    (hsu2 : ∀ (a : Addr) (cls : Value) (d : Option Addr) (pn : List (Addr × Obj)), PSs (X.suite a pn) (c₀ :: suite2) (ts2 a cls d)) :
    PS X (.Try body [.ExceptHandler (some (.Name x np)) (some n) (b₀ :: suite) pos', .ExceptHandler (some (.Name x2 np2)) (some n2) (c₀ :: suite2) pos2] [] [] pos) (fun D σ H => tb (wCat2 X.K c i ts c2 i2 ts2 Wo D) D σ H) := by
  refine ⟨fun pins s σ H De I hgo => ?_⟩
  have okX := I.ok
  have frX : X.A.frames = some (X.env :: X.outer) := by rw [okX.frames, hs]
  have locX : Loc X.env.scope n := .inl hln
  have locX2 : Loc X.env.scope n2 := .inl hln2
  refine wpAny_Try_except ?_
  refine wpAny_mono ((hb (wCat2 X.K c i ts c2 i2 ts2 Wo De) (X.pn ++ pins) (fun ev s₁ => wpAny (model X.prog X.w) X.A (noteFrame ev X.env) (fun _ s₂ => wpAny (model X.prog X.w) X.A (setFlight ev none) (fun _ s₃ =>
      wpAny (model X.prog X.w) X.A (handleBy ev X.env [.ExceptHandler (some (.Name x np)) (some n) (b₀ :: suite) pos', .ExceptHandler (some (.Name x2 np2)) (some n2) (c₀ :: suite2) pos2]) (SP X pins De) X.xe s₃) X.xe s₂) X.xe s₁) (fun uv sX air => ?_) PassesOwn.looking).run [] s σ H De (I.toTry _) hgo) (fun fl sE hsp => ?_) (fun _ _ z => z)
  · -- caught
    obtain ⟨a, B, sI, pinsX, σX, HX, cls, d, rfl, JX, nb, up, sky, na, eos, bare, b, b2, hb1, hb2, hyes, hyes2, hno⟩ := air
    have J := JX.ofTry okX
    have sky2 : Sky B (X.env :: X.outer) a (Zc cls d) X.env.locals sX.heap := by rw [← hs]; exact sky
    show wpAny (model X.prog X.w) X.A (noteFrame (.ref a) X.env) _ _ _
    refine Sky.land Zc.steady frX hf sky2 fun hA flA upA => ?_
    have JA : Inv X pins σX HX { sX with heap := hA } := J.landed nb flA.1 (up.trans upA) eos bare
    obtain ⟨oA, vA, gA, zA, dA⟩ := flA.there
    have away : ∀ {hh : Heap} {u : Obj} {vv : Array Value}, hh.FunFrames B (X.env :: X.outer) → hh.get? a = some u → u.data = .fields vv → a ∉ frs X.stack := fun {hh u vv} ff e dd hm => by
      rw [hs] at hm
      obtain ⟨_, u', e', hnf⟩ := ff.mem hm
      rw [e] at e'; cases e'
      exact hnf _ dd
    have nfr := away flA.2.2.1 gA dA
    have SA := toSuite JA a
    refine wpAny_handleBy_cons (codeAny_handlers_test ?_) (by intro q; cases q)
    have lk1 : PySem.W.Looks (model X.prog X.w) hA (typeOf (.ref a)) cls := fun A Q E s k q => wpAny_typeOf_ref (k _ _ gA) (by rw [zA.1]; exact q)
    have lk2 := PySem.W.exm_one (M := model X.prog X.w) JA.kIn lk1 hb1
    have lk3 := PySem.W.exm_one (M := model X.prog X.w) JA.kIn lk1 hb2
    have named : ∀ {y : Str} {k : Value} {np : Pos}, Names X y k → ∀ {Q : Value → Shared → Prop} {E : Value → Shared → Prop}, Q k { sX with heap := hA } → wpAny (model X.prog X.w) (X.A.mark (some (.ref a))) (eval (.Name y np) X.env) Q E { sX with heap := hA } := fun {y k np} hc {Q E} q => by
      obtain ⟨n1, n2, n3 | ⟨n3, n4, n5⟩⟩ := hc
      · exact ld_glob (X := X.suite a (X.pn ++ pins)) SA n1 n3 q n2
      · exact ld_blt (X := X.suite a (X.pn ++ pins)) SA n1 n3 n4 q n5 n2
    refine named hc (lk2.here ?_)
    cases b with
    | true =>
      refine codeAny_handlers_suite_as ?_
      refine HandSPX.lands_againZ flA fun hC flC upC => ?_
      obtain ⟨oC, vC, gC, zC, dC⟩ := flC.there
      have JC : Inv X pins σX (upd HX a (exh a cls d)) { sX with heap := hC } := landT J nb flC.1 ((up.trans upA).trans upC) eos bare flC.2.1 nfr na (exh_ok gC zC dC)
      refine store_ok (X := X.suite a (X.pn ++ pins)) (v := .ref a) (toSuite JC a) hN hi locX rfl (fun sD SD => ?_) (.inr hln)
      refine wpAny_mono ((hsu a cls d (X.pn ++ pins)).run [] sD _ _ _ SD (hyes rfl a na)) (fun fl sE hsp => ?_) (fun _ _ z => False.elim z)
      have fin : ∀ {σE : L2.St} {HE : Hp} {Q : Shared → Prop}, Inv (X.suite a (X.pn ++ pins)) [] σE HE sE → (∀ sF, Inv X pins (σE.set i none) HE sF → Q sF) →
          wpAny (model X.prog X.w) X.A (do bindName X.env n .none; unbindBehindTheSuite X.env n pos') (fun _ sF => Q sF) X.xe sE := fun {σE HE Q} SE hq => gone_ok (ofSuite SE okX) hN hi hln hq
      cases fl with
      | next => obtain ⟨σE, HE, SE, qE⟩ := hsp; exact fin SE fun sF JF => ⟨_, _, JF, qE⟩
      | brk => obtain ⟨σE, HE, SE, qE⟩ := hsp; exact fin SE fun sF JF => ⟨_, _, JF, qE⟩
      | cont => obtain ⟨σE, HE, SE, qE⟩ := hsp; exact fin SE fun sF JF => ⟨_, _, JF, qE⟩
      | ret u => obtain ⟨vE, σE, HE, SE, rE, qE⟩ := hsp; exact fin SE fun sF JF => ⟨_, _, _, JF, rE, qE⟩
    | false =>
      show wpAny _ X.A (handleBy (.ref a) X.env [.ExceptHandler (some (.Name x2 np2)) (some n2) (c₀ :: suite2) pos2]) _ _ _
      refine wpAny_handleBy_cons (codeAny_handlers_test ?_) (by intro q; cases q)
      refine named hc2 (lk3.here ?_)
      cases b2 with
      | true =>
        refine codeAny_handlers_suite_as ?_
        refine HandSPX.lands_againZ flA fun hC flC upC => ?_
        obtain ⟨oC, vC, gC, zC, dC⟩ := flC.there
        have JC : Inv X pins σX (upd HX a (exh a cls d)) { sX with heap := hC } := landT J nb flC.1 ((up.trans upA).trans upC) eos bare flC.2.1 nfr na (exh_ok gC zC dC)
        refine store_ok (X := X.suite a (X.pn ++ pins)) (v := .ref a) (toSuite JC a) hN hi2 locX2 rfl (fun sD SD => ?_) (.inr hln2)
        refine wpAny_mono ((hsu2 a cls d (X.pn ++ pins)).run [] sD _ _ _ SD (hyes2 rfl rfl a na)) (fun fl sE hsp => ?_) (fun _ _ z => False.elim z)
        have fin : ∀ {σE : L2.St} {HE : Hp} {Q : Shared → Prop}, Inv (X.suite a (X.pn ++ pins)) [] σE HE sE → (∀ sF, Inv X pins (σE.set i2 none) HE sF → Q sF) →
            wpAny (model X.prog X.w) X.A (do bindName X.env n2 .none; unbindBehindTheSuite X.env n2 pos2) (fun _ sF => Q sF) X.xe sE := fun {σE HE Q} SE hq => gone_ok (ofSuite SE okX) hN hi2 hln2 hq
        cases fl with
        | next => obtain ⟨σE, HE, SE, qE⟩ := hsp; exact fin SE fun sF JF => ⟨_, _, JF, qE⟩
        | brk => obtain ⟨σE, HE, SE, qE⟩ := hsp; exact fin SE fun sF JF => ⟨_, _, JF, qE⟩
        | cont => obtain ⟨σE, HE, SE, qE⟩ := hsp; exact fin SE fun sF JF => ⟨_, _, JF, qE⟩
        | ret u => obtain ⟨vE, σE, HE, SE, rE, qE⟩ := hsp; exact fin SE fun sF JF => ⟨_, _, _, JF, rE, qE⟩
      | false =>
        show wpAny _ X.A (handleBy (.ref a) X.env []) _ _ _
        refine wpAny_handleBy_nil ?_
        obtain ⟨_, _, _, oB, vB, Tb, oT, tB, gB, zB, dB, e1, _⟩ := id flA
        unfold PySem.passOn
        refine wpAny_bind (wpAny_field gB dB e1 ?_)
        rw [if_neg (show ¬ ((Value.ref Tb == Value.none) = true) by simp)]
        have goOn : wpAny (model X.prog X.w) X.A (setFlight (.ref a) X.env.frame) (fun _ sG => wpAny (model X.prog X.w) X.A (throw (.ref a) : Sem Flow) (SP X pins De) X.xe sG) X.xe { sX with heap := hA } := by
          rw [hf]
          refine HandSPX.setFlight_upZ flA fun hG heldG upG => wpAny_throw (tk _ _ ?_)
          exact ⟨a, B, sI, pins, σX, HX, cls, d, rfl, J, nb, (up.trans upA).trans upG, .inr (.inr (by rw [hs]; exact heldG)), na, eos, bare, hno rfl rfl⟩
        first
          | exact wpAny_bind (wpAny_pure (wpAny_bind goOn))
          | exact wpAny_bind goOn
  cases fl with
  | next => obtain ⟨σE, HE, JE, qE⟩ := hsp; exact wpAny_execs_nil ⟨σE, HE, JE.ofTry okX, qE⟩
  | brk => obtain ⟨σE, HE, JE, qE⟩ := hsp; exact ⟨σE, HE, JE.ofTry okX, qE⟩
  | cont => obtain ⟨σE, HE, JE, qE⟩ := hsp; exact ⟨σE, HE, JE.ofTry okX, qE⟩
  | ret u => obtain ⟨vE, σE, HE, JE, rE, qE⟩ := hsp; exact ⟨vE, σE, HE, JE.ofTry okX, rE, qE⟩
end
def catW2 (tab tab2 : List (Str × Bool)) (n i : Nat) (ws : TSW) (i2 : Nat) (ws2 : TSW) (De : EndW) : Sg → XP := fun ρ' x => ρ'.length = n ∧ match tab.lookup x.cls with
  | some true => tab2.lookup x.cls ≠ none ∧ ws { nx := fun ρ2 => De.nx (ρ2.set i none), rt := De.rt, bk := fun ρ2 => De.bk (ρ2.set i none), ct := fun ρ2 => De.ct (ρ2.set i none), ex := fun _ _ => False } (ρ'.set i (some (.d (.exc x.cls (x.fs.map (·.1)) (x.fs.map (·.2))))))
  | some false => (match tab2.lookup x.cls with
    | some true => ws2 { nx := fun ρ2 => De.nx (ρ2.set i2 none), rt := De.rt, bk := fun ρ2 => De.bk (ρ2.set i2 none), ct := fun ρ2 => De.ct (ρ2.set i2 none), ex := fun _ _ => False } (ρ'.set i2 (some (.d (.exc x.cls (x.fs.map (·.1)) (x.fs.map (·.2))))))
    | some false => De.ex ρ' x
    | none => False)
  | none => False
theorem catW2_1 {tab tab2 : List (Str × Bool)} {n i i2 : Nat} {ws ws2 : TSW} {De : EndW} {ρ' : Sg} {c : Str} {fs : List (Str × D)} (e : tab.lookup c = some true) (e2 : tab2.lookup c ≠ none) (hl : ρ'.length = n) (h : ws { nx := fun ρ2 => De.nx (ρ2.set i none), rt := De.rt, bk := fun ρ2 => De.bk (ρ2.set i none), ct := fun ρ2 => De.ct (ρ2.set i none), ex := fun _ _ => False } (ρ'.set i (some (.d (.exc c (fs.map (·.1)) (fs.map (·.2))))))) : catW2 tab tab2 n i ws i2 ws2 De ρ' ⟨c, fs⟩ := by
  refine ⟨hl, ?_⟩
  dsimp only
  rw [e]; exact ⟨e2, h⟩
theorem catW2_2 {tab tab2 : List (Str × Bool)} {n i i2 : Nat} {ws ws2 : TSW} {De : EndW} {ρ' : Sg} {c : Str} {fs : List (Str × D)} (e : tab.lookup c = some false) (e2 : tab2.lookup c = some true) (hl : ρ'.length = n) (h : ws2 { nx := fun ρ2 => De.nx (ρ2.set i2 none), rt := De.rt, bk := fun ρ2 => De.bk (ρ2.set i2 none), ct := fun ρ2 => De.ct (ρ2.set i2 none), ex := fun _ _ => False } (ρ'.set i2 (some (.d (.exc c (fs.map (·.1)) (fs.map (·.2))))))) : catW2 tab tab2 n i ws i2 ws2 De ρ' ⟨c, fs⟩ := by
  refine ⟨hl, ?_⟩
  dsimp only
  rw [e]; dsimp only; rw [e2]; exact h
def wTry2 (tab tab2 : List (Str × Bool)) (n i : Nat) (wb ws : TSW) (i2 : Nat) (ws2 : TSW) : TSW := fun De ρ => ρ.length = n ∧ wb { nx := De.nx, rt := De.rt, bk := De.bk, ct := De.ct, ex := catW2 tab tab2 n i ws i2 ws2 De } ρ
section
variable {X : Cx} {tab tab2 : List (Str × Bool)} {n i i2 : Nat} {wb ws ws2 : TSW} {nm nm2 y y2 : Str} {body suite suite2 : List Stmt} {b₀ c₀ : Stmt} {np np2 pos pos' pos2 : Pos} {as bs bs2 : List Nat}
theorem s_try2 (hs : X.stack = X.env :: X.outer) (hf : X.env.frame = some X.env.locals) (hN : X.N.Nodup) (hi : X.N[i]? = some nm) (hln : X.env.kindOf nm = some .local) (hg : Gl X y) (hy : X.mg y = some (.ref (He.ga X.K y))) (hT : exmTB X.K y tab = true) (hi2 : X.N[i2]? = some nm2) (hln2 : X.env.kindOf nm2 = some .local) (hg2 : Gl X y2) (hy2 : X.mg y2 = some (.ref (He.ga X.K y2))) (hT2 : exmTB X.K y2 tab2 = true)
    (hp : PassesOwn (model X.prog X.w) X.A X.env X.xe)
    (hb : ∀ (pn : List (Addr × Obj)) (xe : Value → Shared → Prop), PassesOwn (model X.prog X.w) X.A X.env xe → QSs (X.tr pn xe) body as wb)
    (hsu : ∀ (a : Addr) (pn : List (Addr × Obj)), QSs (X.suite a pn) (b₀ :: suite) bs ws) (hsu2 : ∀ (a : Addr) (pn : List (Addr × Obj)), QSs (X.suite a pn) (c₀ :: suite2) bs2 ws2) (hdb : (y == ("__debug__" : Str)) = false := by decide) (hdb2 : (y2 == ("__debug__" : Str)) = false := by decide) :
    QS X (.Try body [.ExceptHandler (some (.Name y np)) (some nm) (b₀ :: suite) pos', .ExceptHandler (some (.Name y2 np2)) (some nm2) (c₀ :: suite2) pos2] [] [] pos) (as ++ List.range n) (wTry2 tab tab2 n i wb ws i2 ws2) where
  mono := fun {D D' ρ} l h => by
    obtain ⟨h1, h⟩ := h
    refine ⟨h1, (hb [] X.xe hp).mono (D := { nx := D.nx, rt := D.rt, bk := D.bk, ct := D.ct, ex := catW2 tab tab2 n i ws i2 ws2 D }) (D' := { nx := D'.nx, rt := D'.rt, bk := D'.bk, ct := D'.ct, ex := catW2 tab tab2 n i ws i2 ws2 D' }) ⟨l.nx, l.rt, l.bk, l.ct, fun ρ' x z => ?_⟩ h⟩
    obtain ⟨h2, z⟩ := z
    refine ⟨h2, ?_⟩
    split at z
    · exact ⟨z.1, (hsu 0 []).mono (D := { nx := fun ρ2 => D.nx (ρ2.set i none), rt := D.rt, bk := fun ρ2 => D.bk (ρ2.set i none), ct := fun ρ2 => D.ct (ρ2.set i none), ex := fun _ _ => False }) ⟨fun ρ2 q => l.nx _ q, l.rt, fun ρ2 q => l.bk _ q, fun ρ2 q => l.ct _ q, fun _ _ q => q⟩ z.2⟩
    · split at z
      · exact (hsu2 0 []).mono (D := { nx := fun ρ2 => D.nx (ρ2.set i2 none), rt := D.rt, bk := fun ρ2 => D.bk (ρ2.set i2 none), ct := fun ρ2 => D.ct (ρ2.set i2 none), ex := fun _ _ => False }) ⟨fun ρ2 q => l.nx _ q, l.rt, fun ρ2 q => l.bk _ q, fun ρ2 q => l.ct _ q, fun _ _ q => q⟩ z
      · exact l.ex _ _ z
      · exact z
    · exact z
  run := fun W F0 H0 tk => by
    have R := ps_try_val2 (X := X) (n := nm) (np := np) (pos := pos) (pos' := pos') (Wo := W) (c := .ref (He.ga X.K y)) (i := i) (n2 := nm2) (np2 := np2) (pos2 := pos2) (c2 := .ref (He.ga X.K y2)) (i2 := i2) (suite2 := suite2) (c₀ := c₀) (body := body) (suite := suite) (b₀ := b₀)
      (tb := fun W' D σ H => ∃ F1, liftS X W' F1 H0 as wb D σ H) (ts := fun a cls d D σ H => ∃ F1, liftS X (fun _ _ _ _ => False) F1 H0 bs ws D σ H) (ts2 := fun a cls d D σ H => ∃ F1, liftS X (fun _ _ _ _ => False) F1 H0 bs2 ws2 D σ H) hs hf hN hi hln ⟨hg, hdb, .inl hy⟩ hi2 hln2 ⟨hg2, hdb2, .inl hy2⟩ tk
      (fun W' pn xe tk' pass => pssEx fun F1 => (hb pn xe pass).run W' F1 H0 tk')
      (fun a cls d pn => pssEx fun F1 => (hsu a pn).run (fun _ _ _ _ => False) F1 H0 takes0)
      (fun a cls d pn => pssEx fun F1 => (hsu2 a pn).run (fun _ _ _ _ => False) F1 H0 takes0)
    refine psImp R fun D σ H ⟨ρ, F, rel, hl, h⟩ => ?_
    have lσ : σ.length = n := by rw [← rel.len, hl]
    refine ⟨F, ρ, F, rel.base, (hb [] X.xe hp).mono (D := _) ?_ h⟩
    refine ⟨fun ρ' z σ' F' H' s r f => z σ' F' H' s (r.back rel.e) (f.mono fun i hi => List.mem_append_left _ hi), fun m z hr v F' H' fp s x r hn => z hr v F' H' fp s (rel.e.back x) r hn,
      fun ρ' z σ' F' H' s r f => z σ' F' H' s (r.back rel.e) (f.mono fun i hi => List.mem_append_left _ hi), fun ρ' z σ' F' H' s r f => z σ' F' H' s (r.back rel.e) (f.mono fun i hi => List.mem_append_left _ hi), fun ρ' x z => ?_⟩
    obtain ⟨l2, z⟩ := z
    intro cls d σ' F' H' r rx
    have lσ' : σ'.length = n := by rw [← r.len, l2]
    split at z
    · rename_i e
      obtain ⟨z2, z⟩ := z
      obtain ⟨bb, e2⟩ := Option.ne_none_iff_exists'.mp z2
      refine ⟨true, bb, ?_, ?_, fun _ a ha => ?_, fun q => (nomatch q), fun q => (nomatch q)⟩
      · rw [rx.1]; exact of_decide_eq_true (lookup_all (P := fun q => decide (PySem.W.exmOne X.K (.ref (He.ga X.K q.1)) (.ref (He.ga X.K y)) = some q.2)) hT e)
      · rw [rx.1]; exact of_decide_eq_true (lookup_all (P := fun q => decide (PySem.W.exmOne X.K (.ref (He.ga X.K q.1)) (.ref (He.ga X.K y2)) = some q.2)) hT2 e2)
      · have x2 : Ext F' H' (upd F' a (exh a cls d)) (upd H' a (exh a cls d)) := .pure r.s ha
        have rd : RepD X.K (upd F' a (exh a cls d)) (.exc x.cls (x.fs.map (·.1)) (x.fs.map (·.2))) (.ref a) := by
          unfold RepD
          obtain ⟨c1, c2⟩ := rx
          refine ⟨a, d, rfl, by rw [upd_same, c1], ?_⟩
          cases d with
          | none =>
            have c2 : x.fs = [] := c2
            exact .inl ⟨rfl, by rw [c2]; rfl, by rw [c2]; rfl⟩
          | some dd =>
            obtain ⟨vs, c3, c4, c5⟩ := c2
            exact .inr ⟨dd, vs, rfl, x2.f _ _ c3, c4, c5.mono x2.f⟩
        have r3 := (r.push x2 (RepM.d rd) (fun _ z => nomatch z) List.nodup_nil).set (by unfold M.sto; rfl) i
        have fr : ∀ {bs' : List Nat} {σ3 : L2.St}, Frm bs' (σ'.set i (some (.ref a))) σ3 → Frm (as ++ List.range n) σ (σ3.set i none) := fun {bs' σ3} f3 => by
          have l3 : σ3.length = n := by rw [f3.1, List.length_set, lσ']
          refine ⟨by rw [List.length_set, l3, lσ], fun j hj => ?_⟩
          have hj2 : n ≤ j := by
            have : j ∉ List.range n := fun z => hj (List.mem_append_right _ z)
            rw [List.mem_range] at this; omega
          rw [List.getElem?_eq_none (by rw [List.length_set, l3]; exact hj2), List.getElem?_eq_none (by rw [lσ]; exact hj2)]
        refine ⟨F, _, _, r3, (hsu 0 []).mono (D := _) ?_ z⟩
        refine ⟨fun ρ2 z σ3 F3 H3 s3 q3 f3 => z _ F3 H3 q3.e.f ((q3.kill i none).back rel.e) (fr f3), fun m z hr v F3 H3 fp s3 x3 rm hn => z hr v F3 H3 fp x3.f (rel.e.back x3) rm hn,
          fun ρ2 z σ3 F3 H3 s3 q3 f3 => z _ F3 H3 q3.e.f ((q3.kill i none).back rel.e) (fr f3), fun ρ2 z σ3 F3 H3 s3 q3 f3 => z _ F3 H3 q3.e.f ((q3.kill i none).back rel.e) (fr f3), fun _ _ z => z.elim⟩
    · rename_i e
      split at z
      · rename_i e2
        refine ⟨false, true, ?_, ?_, fun q => (nomatch q), fun _ _ a ha => ?_, fun _ q => (nomatch q)⟩
        · rw [rx.1]; exact of_decide_eq_true (lookup_all (P := fun q => decide (PySem.W.exmOne X.K (.ref (He.ga X.K q.1)) (.ref (He.ga X.K y)) = some q.2)) hT e)
        · rw [rx.1]; exact of_decide_eq_true (lookup_all (P := fun q => decide (PySem.W.exmOne X.K (.ref (He.ga X.K q.1)) (.ref (He.ga X.K y2)) = some q.2)) hT2 e2)
        · have x2 : Ext F' H' (upd F' a (exh a cls d)) (upd H' a (exh a cls d)) := .pure r.s ha
          have rd : RepD X.K (upd F' a (exh a cls d)) (.exc x.cls (x.fs.map (·.1)) (x.fs.map (·.2))) (.ref a) := by
            unfold RepD
            obtain ⟨c1, c2⟩ := rx
            refine ⟨a, d, rfl, by rw [upd_same, c1], ?_⟩
            cases d with
            | none =>
              have c2 : x.fs = [] := c2
              exact .inl ⟨rfl, by rw [c2]; rfl, by rw [c2]; rfl⟩
            | some dd =>
              obtain ⟨vs, c3, c4, c5⟩ := c2
              exact .inr ⟨dd, vs, rfl, x2.f _ _ c3, c4, c5.mono x2.f⟩
          have r3 := (r.push x2 (RepM.d rd) (fun _ z => nomatch z) List.nodup_nil).set (by unfold M.sto; rfl) i2
          have fr : ∀ {bs' : List Nat} {σ3 : L2.St}, Frm bs' (σ'.set i2 (some (.ref a))) σ3 → Frm (as ++ List.range n) σ (σ3.set i2 none) := fun {bs' σ3} f3 => by
            have l3 : σ3.length = n := by rw [f3.1, List.length_set, lσ']
            refine ⟨by rw [List.length_set, l3, lσ], fun j hj => ?_⟩
            have hj2 : n ≤ j := by
              have : j ∉ List.range n := fun z => hj (List.mem_append_right _ z)
              rw [List.mem_range] at this; omega
            rw [List.getElem?_eq_none (by rw [List.length_set, l3]; exact hj2), List.getElem?_eq_none (by rw [lσ]; exact hj2)]
          refine ⟨F, _, _, r3, (hsu2 0 []).mono (D := _) ?_ z⟩
          refine ⟨fun ρ2 z σ3 F3 H3 s3 q3 f3 => z _ F3 H3 q3.e.f ((q3.kill i2 none).back rel.e) (fr f3), fun m z hr v F3 H3 fp s3 x3 rm hn => z hr v F3 H3 fp x3.f (rel.e.back x3) rm hn,
            fun ρ2 z σ3 F3 H3 s3 q3 f3 => z _ F3 H3 q3.e.f ((q3.kill i2 none).back rel.e) (fr f3), fun ρ2 z σ3 F3 H3 s3 q3 f3 => z _ F3 H3 q3.e.f ((q3.kill i2 none).back rel.e) (fr f3), fun _ _ z => z.elim⟩
      · rename_i e2
        refine ⟨false, false, ?_, ?_, fun q => (nomatch q), fun _ q => (nomatch q), fun _ _ => ?_⟩
        · rw [rx.1]; exact of_decide_eq_true (lookup_all (P := fun q => decide (PySem.W.exmOne X.K (.ref (He.ga X.K q.1)) (.ref (He.ga X.K y)) = some q.2)) hT e)
        · rw [rx.1]; exact of_decide_eq_true (lookup_all (P := fun q => decide (PySem.W.exmOne X.K (.ref (He.ga X.K q.1)) (.ref (He.ga X.K y2)) = some q.2)) hT2 e2)
        · exact z cls d σ' F' H' (r.back rel.e) rx
      · exact z.elim
    · exact z.elim
end
end RT
namespace RT
open PySem PySem.Spec PyProof.Rows L2
/-! ### an exception made, kept as a value -/
section
variable {X : Cx} {x f : Str} {e : Expr} {we : TW} {p pos : Pos} {wa wb : TW} {a b : Expr}
theorem pe_of_mk {t : L2.St → Hp → XK → Prop} (h : PMk X e t) : PE X e (fun σ H Q => t σ H fun cls d H1 => ∀ a, H1 a = none → Q (.ref a) (upd H1 a (exh a cls d))) := by
  refine ⟨fun pins s σ H Q I hh => ?_⟩
  refine wpAny_mono (h pins s σ H _ I hh) (fun u s1 hu => ?_) fun _ _ x => x
  obtain ⟨a, oe, vs, sI, H1, cls, d, rfl, J, k, hne, ha, hz, hd, h1, na, os, ag, r, q⟩ := hu
  refine ⟨.ref a, upd H1 a (exh a cls d), ?_, rfl, q a na⟩
  have J1 := J.call (ch := []) (h' := s1.heap) (g' := s1.gens) (t' := s1.toks) (d' := s1.drawn) (H' := upd H1 a (exh a cls d)) (Un.laidN k hne na) (J.hok.laidN k na (exh_ok ha hz hd)) ag (fun _ z => nomatch z)
  obtain ⟨b1, b2, b3, b4, b5⟩ := s1
  have e5 : b5 = sI.os := os
  subst e5
  exact J1
theorem op_mulStr : OpR X (binaryOp .Mult) (fun x y H Q => ∃ s n, x = .str s ∧ y = .int n ∧ 0 ≤ n ∧ n ≤ 1000 ∧ s.length ≤ 1000 ∧ ∀ z, Q (.str z) H) := by
  intro pins s σ H x y v u Q I rx ry h
  obtain ⟨i, n, rfl, rfl, h0, h1, h2, q⟩ := h
  obtain ⟨t, rfl⟩ := rx
  obtain ⟨t', rfl⟩ := ry
  have hl : i.length * n.toNat ≤ sizeLine := by
    have : i.length * n.toNat ≤ 1000 * 1000 := Nat.mul_le_mul h2 (by omega)
    rw [sizeLine_eq]; omega
  have tl : Builtin.Str.tooLong (i.length * n.toNat) = false := by
    unfold Builtin.Str.tooLong
    rw [decide_eq_false_iff_not]; omega
  refine P.mul_str (by
    have h3 : ¬ n < -(2 ^ 63 : Int) := by omega
    have h4 : ¬ n ≥ 2 ^ 63 := by omega
    rw [decide_eq_false h3, decide_eq_false h4]; rfl) (fun c1 _ c3 => ?_) (fun _ _ => tl) ?_
  · have : (1000 : Int) ≤ (2 ^ 63 - 1) / n := Int.le_ediv_of_mul_le (by omega) (by omega)
    omega
  · split
    · exact ⟨by decide, .str Str.empty, H, I.tok _, ⟨_, rfl⟩, q _⟩
    · split
      · exact ⟨.str i, H, I, ⟨_, rfl⟩, q _⟩
      · exact ⟨fits_reps tl, .str _, H, I.tok _, ⟨_, rfl⟩, q _⟩
def wSMul : WR2 := fun x y Q => match x, y with
  | .d (.str i), .d (.int n) => 0 ≤ n ∧ n ≤ 1000 ∧ i.length ≤ 1000 ∧ ∀ z, Q (.d (.str z))
  | _, _ => False
theorem s_SMul : OpS X (fun x y H Q => ∃ s n, x = .str s ∧ y = .int n ∧ 0 ≤ n ∧ n ≤ 1000 ∧ s.length ≤ 1000 ∧ ∀ z, Q (.str z) H) wSMul where
  mono := fun h q => by
    unfold wSMul at q ⊢
    split at q
    · exact ⟨q.1, q.2.1, q.2.2.1, fun z => h _ (q.2.2.2 z)⟩
    · exact q
  run := fun s z rx ry q h => by
    unfold wSMul at q
    split at q
    · exact ⟨_, _, rx.ofD.2.ofStr, ry.ofD.2.ofInt, q.1, q.2.1, q.2.2.1, fun y => (h _ (q.2.2.2 y)).here s (.d .str)⟩
    · exact q.elim
/-- a text times a whole number: some text -/
theorem q_smul (ha : QE X a wa) (hb : QE X b wb) : QE X (.BinOp a .Mult b pos) (wOp wSMul wa wb) := q_bin op_mulStr s_SMul ha hb
/-- x(e), a class without own __init__ -/
def wMkx0 (x : Str) (we : TW) : TW := fun ρ Q E => we ρ (fun _ => Q (.d (.exc x [] []))) E
theorem rd_exc0 {K : PySem.W.Frag} {F : Hp} {a : Addr} (h : F a = some (exh a (.ref (He.ga K x)) none)) : RepD K F (.exc x [] []) (.ref a) := by
  unfold RepD
  exact ⟨a, none, rfl, h, .inl ⟨rfl, rfl, rfl⟩⟩
theorem q_mkx0 (hc : X.calm = true) (hx : X.mg x = some (.ref (He.ga X.K x))) (hf : (He.Fa.exc x).ok X.K = true) (hg : Gl X x) (he : QE X e we) (hs : starEach [e] X.env = [(false, eval e X.env)] := by rfl) (hdb : (x == ("__debug__" : Str)) = false := by decide) :
    QE X (.Call (.Name x p) [e] [] pos) (wMkx0 x we) where
  mono := fun hq hxx z => he.mono (fun m q => hq _ q) hxx z
  run := fun W F0 H0 tk => by
    obtain ⟨q, kC, h1, h2⟩ := He.exc_ok hf
    refine peImp (pe_of_mk (SkE.pmk_own1 PySem.F.excBase_ValueError q hx kC (raises_own h1 h2) hg (he.run W F0 H0 tk) hs hdb)) fun σ H Qh ⟨ρ, F, rel, z⟩ => ?_
    refine ⟨ρ, F, rel, he.mono (fun m qq v H1 F1 fp x1 r hf hn a ha => ?_) (fun _ q => q) z⟩
    have x2 : Ext F1 H1 (upd F1 a (exh a (.ref (He.ga X.K x)) none)) (upd H1 a (exh a (.ref (He.ga X.K x)) none)) := .pure x1.s ha
    exact qq (.ref a) _ _ [] (x1.trans x2) (.d (rd_exc0 upd_same)) (fun _ h => nomatch h) List.nodup_nil
/-- x(e), a class with __init__(self, f) -/
def wMkx1 (x f : Str) (we : TW) : TW := fun ρ Q E => we ρ (onDx fun y => Q (.d (.exc x [f] [y]))) E
theorem q_mkx1 {k : Nat} (hc : X.calm = true) (I : IniOk X.prog X.w X.K X.mg X.base x f k) (hr : Room (k + 1) X.A) (hg : Gl X x) (he : QE X e we) (hs : starEach [e] X.env = [(false, eval e X.env)] := by rfl) (hdb : (x == ("__debug__" : Str)) = false := by decide) :
    QE X (.Call (.Name x p) [e] [] pos) (wMkx1 x f we) where
  mono := fun hq hxx z => he.mono (fun m q => by unfold onDx at q ⊢; split at q <;> first | exact hq _ q | exact q) hxx z
  run := fun W F0 H0 tk => by
    obtain ⟨fI, fd, iC, tI, F1, hb⟩ := I.ex
    refine peImp (pe_of_mk (pmk_oex I.T iC tI F1 hr hb .nil passL hg I.hm (pa_cons (he.run W F0 H0 tk) pa_nil hs) hdb hs rfl)) fun σ H Qh ⟨ρ, F, rel, h⟩ => ?_
    refine ⟨ρ, F, rel, he.mono (fun m hm => ?_) (fun _ z => z) h⟩
    intro v H1 F1 fp x1 r hf hn
    unfold onDx at hm
    split at hm
    · rename_i y
      obtain ⟨e0, ry⟩ := r.ofD
      subst e0
      refine ⟨by simp, fun a ha => ⟨a, _, v, rfl, I.T, I.no, upd_same, fun dx hdx hne => ⟨rfl, dx, [(f, v)], upd_same, by rw [upd_ne hne, upd_same], by rw [upd_ne hne] at hdx; exact hdx, ?_⟩⟩⟩
      have hdn : H1 dx = none := by rw [upd_ne hne] at hdx; exact hdx
      have eH : upd (del (upd (upd (upd H1 a (exo a (He.ga X.K x) none)) dx (exd dx [(f, v)])) a (exo a (He.ga X.K x) (some dx))) a) dx (.xd [(f, v)]) = upd H1 dx (.xd [(f, v)]) := by
        funext b
        by_cases hb : b = dx
        · subst hb; rw [upd_same, upd_same]
        · rw [upd_ne hb, upd_ne hb]
          by_cases hba : b = a
          · subst hba; rw [del_same, ha]
          · rw [del_ne hba, upd_ne hba, upd_ne hb, upd_ne hba]
      rw [eH]
      intro a' ha'
      have x2 : Ext F1 H1 (upd F1 dx (.xd [(f, v)])) (upd H1 dx (.xd [(f, v)])) := .pure x1.s hdn
      have x3 : Ext (upd F1 dx (.xd [(f, v)])) (upd H1 dx (.xd [(f, v)])) (upd (upd F1 dx (.xd [(f, v)])) a' (exh a' (.ref (He.ga X.K x)) (some dx))) (upd (upd H1 dx (.xd [(f, v)])) a' (exh a' (.ref (He.ga X.K x)) (some dx))) := .pure x2.s ha'
      refine hm (.ref a') _ _ [] (x1.trans (x2.trans x3)) (.d ?_) (fun _ h => nomatch h) List.nodup_nil
      unfold RepD
      refine ⟨a', some dx, rfl, upd_same, .inr ⟨dx, [(f, v)], rfl, x3.f _ _ upd_same, rfl, ?_⟩⟩
      exact .cons (ry.mono (x2.f.trans x3.f)) .nil
    · exact hm.elim
end
end RT
namespace RT
open PySem PySem.Spec PyProof.Rows L2
/-! ### {k: v} -/
section
variable {X : Cx} {ek ev : Expr} {wk wv : TW} {pos : Pos}
def onDk (P : Key → Prop) : M → Prop := fun m => match m with
  | .d kd => ∃ k, kd.key = some k ∧ P k
  | _ => False
theorem onDk_d {P : Key → Prop} {kd : D} : onDk P (.d kd) = ∃ k, kd.key = some k ∧ P k := rfl
def wDict1 (wk wv : TW) : TW := fun ρ Q E => wk ρ (onDk fun k => wv ρ (fun m => ∃ y, m.frz = some y ∧ Q (.fd .o [(k, y)])) E) E
theorem q_dict1 (hk : QE X ek wk) (hv : QE X ev wv) : QE X (.Dict [some ek] [ev] pos) (wDict1 wk wv) where
  mono := fun hq hx z => hk.mono (fun m q => by
    unfold onDk at q ⊢
    split at q
    · obtain ⟨k, e, q⟩ := q
      exact ⟨k, e, hv.mono (fun m ⟨y, ey, q⟩ => ⟨y, ey, hq _ q⟩) hx q⟩
    · exact q) hx z
  run := fun W F0 H0 tk => peImp (pe_disp (pps_cons (hk.run W F0 H0 tk) (hv.run W F0 H0 tk) pps_nil) rfl rfl (by simp) (by simp)) fun σ H Qh ⟨ρ, F, rel, z⟩ p hp => by
    have x0 : Ext F H F (L2.upd H p (.dK [])) := Ext.mine rel.e.s hp
    refine ⟨ρ, F, rel.ext x0, hk.mono (fun kd hkd v1 H1 F1 fp1 x1 r1 _ _ => ?_) (fun _ q => q.ext x0) z⟩
    unfold onDk at hkd
    split at hkd
    · rename_i kd
      obtain ⟨k, ek, q⟩ := hkd
      refine ⟨ρ, F1, (rel.ext x0).ext x1, hv.mono (fun m hm v2 H2 F2 fp2 x2 r2 hf2 _ => ?_) (fun _ q => (q.ext x0).ext x1) q⟩
      obtain ⟨y, ey, q⟩ := hm
      have x3 := ext_frz x2 r2 hf2
      have ry := r2.frz (frzH_frz fun b hb => (r2.own b hb).1) ey
      generalize frzH F2 H2 fp2 = F3 at x3 ry
      have x4 := x1.trans x3
      have x5 := x0.trans x4
      have hF : F3 p = none := by
        cases e : F3 p with
        | none => rfl
        | some u =>
          rcases x4.n p u e with e2 | e2
          · have := rel.e.s p u e2
            rw [hp] at this; cases this
          · rw [upd_same] at e2; cases e2
      refine ⟨x4.h p _ upd_same, [(k, v2)], by rw [r1.ofD.2.key ek]; rfl, by simp, ?_⟩
      refine q (.ref p) _ F3 [p] ⟨fun b u e => ?_, x5.f, fun b u e => ?_, x5.n⟩ ?_ (fun a ha => ?_) (List.nodup_cons.mpr ⟨(by simp), List.nodup_nil⟩)
      · rw [upd_ne (ne_of_none e hp)]; exact x5.h b u e
      · have hb : b ≠ p := fun z => by rw [z, hF] at e; cases e
        rw [upd_ne hb]; exact x5.s b u e
      · unfold RepM
        exact ⟨p, mergeK [] [(k, v2)], rfl, ⟨rfl, upd_same, hF, rel.e.h.free hp⟩, rfl, .cons ry .nil⟩
      · have : a = p := by simpa using ha
        rw [this]; exact hp
    · exact hkd.elim
end
/-! ### tuple(range(a, b)) -/
section
variable {X : Cx} {e e2 : Expr} {we we2 : TW} {p p2 pos pos2 : Pos}
theorem pe_tupRgB {te : L2.St → Hp → (Int → Int → Hp → Prop) → Prop} (hc : X.calm = true) (hg : Gl X "tuple") (hm : X.mg "tuple" = none) (he : PRg X e te) (na : starEach [e] X.env = (false, eval e X.env) :: starEach [] X.env := by rfl) :
    PE X (.Call (.Name "tuple" p) [e] [] pos) (fun σ H Q => te σ H fun a b H1 => RgOk a b ∧ NewT H1 (rgV a b) Q) := ⟨fun pins s σ H Q I h =>
  Call_ (ld_blt I hg hm boot_tuple (PyProof.Rows.callWith_type1 (args_cons (thn (he pins s σ H _ I h) fun x s1 ⟨r, a, b, t, u, v, H1, ex, hr, I1, ok, q⟩ => args_nil (by
    subst ex
    refine call_tuple_range (n := (b - a).toNat) (I1.ok.hd hc) hr (small_one ok.1 ok.2.1 ok.2.2.1 ok.2.2.2.1) (rangeSize_nat a b) ok.2.2.2.2 fun h' tk acc hk hi => ?_
    have I2 : Inv X pins σ H1 { s1 with heap := h', toks := tk } := I1.kept hk
    have z : (rgV a b).length ≤ sizeLine := by rw [rgV_length, sizeLine_eq]; have := ok.2.2.2.2; omega
    have I3 := frz_laid I2 (vals_rg hi) z
    rw [Array.toArray_toList] at I3
    exact ⟨.ref h'.objs.size, _, I3, rfl, q _ _ (I2.hok.fresh (Nat.le_refl _)) rfl⟩)) na) na))⟩
def iota2 (a b : Int) : List D := (List.range (b - a).toNat).map fun i => .int (a + (i : Nat))
def wTupRg2 (wa wb : TW) : TW := fun ρ Q E => wa ρ (fun x => wb ρ (fun y => onI2 (fun i j => -16777216 ≤ i ∧ i ≤ 16777216 ∧ -16777216 ≤ j ∧ j ≤ 16777216 ∧ (j - i).toNat ≤ 16777216 ∧ Q (.d (.tup (iota2 i j)))) x y) E) E
theorem q_tupRg2 (hc : X.calm = true) (hg : Gl X "tuple") (hm : X.mg "tuple" = none) (hg2 : Gl X "range") (hm2 : X.mg "range" = none) (he : QE X e we) (he2 : QE X e2 we2) (hs : starEach [e, e2] X.env = [(false, eval e X.env), (false, eval e2 X.env)] := by rfl) (hs2 : starEach [e2] X.env = [(false, eval e2 X.env)] := by rfl)
    (hp : (backTo pos2 (starEach [e2] X.env)).any (·.1) = false := by rfl) (hs3 : starEach [Expr.Call (.Name "range" p2) [e, e2] [] pos2] X.env = [(false, eval (Expr.Call (.Name "range" p2) [e, e2] [] pos2) X.env)] := by rfl) :
    QE X (.Call (.Name "tuple" p) [.Call (.Name "range" p2) [e, e2] [] pos2] [] pos) (wTupRg2 we we2) where
  mono := fun hq h z => he.mono (fun m q => he2.mono (fun m2 q2 => onI2_mono (fun i j ⟨a, b, c, d, f, q⟩ => ⟨a, b, c, d, f, hq _ q⟩) q2) h q) h z
  run := fun W F0 H0 tk => peImp (pe_tupRgB hc hg hm (prg_2 hg2 hm2 (he.run W F0 H0 tk) (he2.run W F0 H0 tk) (by rw [hs, hs2]) hs2 hp) hs3) fun σ H Qh ⟨ρ, F, rel, z⟩ => by
    refine two he he2 (r := fun u v H2 => ∃ i j : Int, u = .int i ∧ v = .int j ∧ RgOk i j ∧ NewT H2 (rgV i j) Qh) rel z fun x y u v fx fy F2 H2 x2 rx ry _ _ _ zz hxy => ?_
    obtain ⟨i, j, e1, e2, h1, h2, h3, h4, h5, q⟩ := onI2_of hxy rx ry
    refine ⟨i, j, e1, e2, ⟨by omega, by omega, by omega, by omega, by omega⟩, KQ.tup (q.ext x2) x2.s ?_⟩
    unfold iota2 rgV
    exact reps_map (fun _ => .int) _
end
end RT
namespace RT
open PySem PySem.Spec PyProof.Rows L2
/-! ### xs[a:b:c], a list -/
def pickV {α : Type} (xs : List α) (lo hi st : Option Int) : List α := (sliceRange (sliceBounds lo hi st xs.length).1 (sliceBounds lo hi st xs.length).2.1 (sliceBounds lo hi st xs.length).2.2).filterMap fun i => xs[i]?
theorem vals_pick {xs : List V} {its : List Value} (r : Vals xs its) : ∀ is : List Nat, Vals (is.filterMap fun i => xs[i]?) (is.filterMap fun i => its.toArray[i]?)
  | [] => .nil
  | i :: is => by
    have ih := vals_pick r is
    cases e : xs[i]? with
    | some x =>
      obtain ⟨u, hu, ru⟩ := r.get e
      have e2 : its.toArray[i]? = some u := by simpa using hu
      rw [List.filterMap_cons, e, List.filterMap_cons, e2]
      exact .cons ru ih
    | none =>
      have hl := r.length
      have h1 := List.getElem?_eq_none_iff.mp e
      have e2 : its.toArray[i]? = none := by simp; omega
      rw [List.filterMap_cons, e, List.filterMap_cons, e2]
      exact ih
section
variable {X : Cx} {e : Expr} {lo hi st : Option Expr} {p2 pos : Pos} {te : TE} {tl th ts : TO}
theorem pe_sliceS (he : PE X e te) (hl : PO X lo tl) (hu : PO X hi th) (hst : PO X st ts) (hop : ∀ o i, subscripted (.Slice lo hi st p2) false o i = operate [o, i] (getItem o i) := by with_unfolding_all (intro _ _; rfl)) : PE X (.Subscript e (.Slice lo hi st p2) pos)
    (fun σ H Q => te σ H fun x H1 => tl σ H1 fun l H2 => th σ H2 fun u H3 => ts σ H3 fun c H4 => c ≠ some 0 ∧ ∃ a xs, x = .ref a ∧ SqL X.K H4 a xs ∧ ∀ q, H4 q = none → Q (.ref q) (upd H4 q (.lst (pickV xs l u c)))) := by
  refine ⟨fun pins s σ H Q I h => Subscript_ (thn (he.run pins s σ H _ I h) fun v s1 ⟨x, H1, I1, r1, q1⟩ => ?_)⟩
  refine wpAny_Slice (thn (hl.run pins s1 σ H1 _ I1 q1) fun vl s2 ⟨l, H2, I2, pl, q2⟩ => thn (hu.run pins s2 σ H2 _ I2 q2) fun vu s3 ⟨u, H3, I3, pu, q3⟩ => thn (hst.run pins s3 σ H3 _ I3 q3) fun vs s4 ⟨c, H4, I4, ps, c0, a, xs, ex, hx, q⟩ => ?_)
  subst ex
  obtain rfl : v = Value.ref a := r1
  have I5 : Inv X pins σ H4 { s4 with heap := s4.heap.push { cls := .type "slice", data := .fields #[vl, vu, vs] } } := I4.kept (t' := s4.toks) fun b ob q => Heap.get?_push_of_some _ q
  obtain ⟨its, r, ht, hz⟩ := I5.list hx
  have hlen := r.length
  show wpAny (model X.prog X.w) X.A (subscriptTail e (.Slice lo hi st p2) (.ref a) (.ref s4.heap.objs.size)) (EP X pins σ Q) X.xe { s4 with heap := s4.heap.push { cls := .type "slice", data := .fields #[vl, vu, vs] } }
  refine tail_any (ops := [.ref a, .ref s4.heap.objs.size]) ht.isList.typeIs slot_list_getitem.lookup ?_ (hop _ _)
  refine wpAny_getItem_list_slice ht.isList (Heap.IsSliceOf.new ..) pl pu ps c0 ?_ (by rw [List.size_toArray]; omega)
  have hv : Vals (pickV xs l u c) (slicePick its.toArray l u c).toList := by
    unfold pickV slicePick
    rw [List.size_toArray, hlen]
    exact vals_pick r _
  have hz2 : (pickV xs l u c).length ≤ sizeLine := by
    have h1 := slicePick_size_le its.toArray l u c
    have h2 : its.toArray.size = its.length := List.size_toArray
    rw [hv.length, Array.length_toList]
    omega
  refine ⟨.ref (s4.heap.push { cls := .type "slice", data := .fields #[vl, vu, vs] }).objs.size, _, I5.laid (t' := s4.toks) (o := .lst (pickV xs l u c)) (fun b ob q => Heap.get?_push_of_some _ q) (Nat.le_refl _) ⟨hz2, _, 0, hv, ?_⟩, rfl, q _ (I5.hok.fresh (Nat.le_refl _))⟩
  rw [Array.toArray_toList]
  exact Heap.get?_push_size _ rfl
end
section
variable {X : Cx} {K : PySem.W.Frag} {F H H0 : Hp} {a : Expr} {wa : TW} {pos p2 : Pos}
theorem reps_pick {xs : List D} {vs : List V} (r : RepDs K F xs vs) : ∀ is : List Nat, RepDs K F (is.filterMap fun i => xs[i]?) (is.filterMap fun i => vs[i]?)
  | [] => .nil
  | i :: is => by
    have ih := reps_pick r is
    cases e : xs[i]? with
    | some x =>
      obtain ⟨u, hu, ru⟩ := r.get e
      rw [List.filterMap_cons, e, List.filterMap_cons, hu]
      exact .cons ru ih
    | none =>
      have hl := r.length
      have h1 := List.getElem?_eq_none_iff.mp e
      have e2 : vs[i]? = none := List.getElem?_eq_none_iff.mpr (by omega)
      rw [List.filterMap_cons, e, List.filterMap_cons, e2]
      exact ih
def M.sqD : M → Option (List D)
  | .d (.lst l) => some l
  | .d (.scr l) => some l
  | .fl _ l => some l
  | _ => none
theorem RepM.sqL (s : Same F H) (z : Same H0 H) {m : M} {v : V} {fp : List Addr} {l : List D} (e : M.sqD m = some l) (r : RepM K F H0 H m v fp) : ∃ a vs, v = .ref a ∧ SqL K H a vs ∧ RepDs K F l vs := by
  unfold M.sqD at e
  split at e
  · obtain ⟨a, vs, e1, p, q⟩ := RepM.lst s z (l := l) (by cases e; rfl) r
    exact ⟨a, vs, e1, SqL.of p, q⟩
  · cases e
    obtain ⟨a, vs, e1, q, r⟩ := (by have := r.ofD.2; unfold RepD at this; exact this)
    exact ⟨a, vs, e1, s.seq q, r⟩
  · obtain ⟨a, vs, e1, p, q⟩ := RepM.lst s z (l := l) (by cases e; rfl) r
    exact ⟨a, vs, e1, SqL.of p, q⟩
  · cases e
def wSlcS (wa : TW) (wl wh ws : TOW) : TW := fun ρ Q E => wa ρ (fun x => wl ρ (fun lo => wh ρ (fun hi => ws ρ (fun st => st ≠ some 0 ∧ ∃ l, M.sqD x = some l ∧ Q (.fl .o (pickV l lo hi st))) E) E) E) E
theorem q_slcS {lo hi st : Option Expr} {wl wh ws : TOW} (ha : QE X a wa) (hl : QO X lo wl) (hh : QO X hi wh) (hs : QO X st ws) (hop : ∀ o i, subscripted (.Slice lo hi st p2) false o i = operate [o, i] (getItem o i) := by with_unfolding_all (intro _ _; rfl)) : QE X (.Subscript a (.Slice lo hi st p2) pos) (wSlcS wa wl wh ws) where
  mono := fun hq he z => ha.mono (fun x z => hl.mono (fun l z => hh.mono (fun u z => hs.mono (fun c ⟨c0, l, e, q⟩ => ⟨c0, l, e, hq _ q⟩) he z) he z) he z) he z
  run := fun W F0 H0 tk => peImp (pe_sliceS (ha.run W F0 H0 tk) (hl.run W F0 H0 tk) (hh.run W F0 H0 tk) (hs.run W F0 H0 tk) hop) fun σ H Qh ⟨ρ, F, rel, z⟩ => by
    refine ⟨ρ, F, rel, ha.mono (fun x hx => ?_) (fun _ q => q) z⟩
    intro u H1 F1 fx x1 rx hfx hnx
    refine ⟨ρ, F1, rel.ext x1, hl.mono (fun l hl' => ?_) (fun _ q => q.ext x1) hx⟩
    intro H2 F2 x2
    refine ⟨ρ, F2, (rel.ext x1).ext x2, hh.mono (fun h' hh' => ?_) (fun _ q => (q.ext x1).ext x2) hl'⟩
    intro H3 F3 x3
    refine ⟨ρ, F3, ((rel.ext x1).ext x2).ext x3, hs.mono (fun c hc => ?_) (fun _ q => ((q.ext x1).ext x2).ext x3) hh'⟩
    intro H4 F4 x4
    obtain ⟨c0, ls, e, q⟩ := hc
    have z4 := ((((rel.ext x1).ext x2).ext x3).ext x4).e.h
    obtain ⟨b, vs, e1, hq, r2⟩ := RepM.sqL x4.s z4 e (((rx.ext x2).ext x3).ext x4)
    have hlen := r2.length
    refine ⟨c0, b, vs, e1, hq, ((((q.ext x1).ext x2).ext x3).ext x4).mine x4.s z4 ?_⟩
    unfold pickV
    rw [hlen]
    exact reps_pick r2 _
end
end RT
namespace RT
open PySem PySem.Spec PyProof.Rows L2
/-! ### d.pop(k), a dict of one's own -/
def dropD (l : List (Key × D)) (k : Key) : List (Key × D) := l.filter fun kv => decide (kv.1 ≠ k)
section
variable {X : Cx} {K : PySem.W.Frag} {F : Hp} {we : TW} {e : Expr} {x : Str} {p apos cpos spos : Pos}
theorem drop_rep (k : Key) : ∀ {l : List (Key × D)} {kvs : List (Key × V)}, kvs.map (·.1) = l.map (·.1) → RepDs K F (l.map (·.2)) (kvs.map (·.2)) → (dropK kvs k).map (·.1) = (dropD l k).map (·.1) ∧ RepDs K F ((dropD l k).map (·.2)) ((dropK kvs k).map (·.2))
  | [], [], _, _ => ⟨rfl, .nil⟩
  | [], _ :: _, h, _ => by cases h
  | _ :: _, [], h, _ => by cases h
  | a :: l, b :: kvs, h, r => by
    rw [List.map_cons, List.map_cons] at h r
    obtain ⟨e1, e2⟩ := List.cons.inj h
    unfold RepDs at r
    obtain ⟨v, r2, ev, rv, rr⟩ := r
    obtain ⟨e3, e4⟩ := List.cons.inj ev
    obtain ⟨i1, i2⟩ := drop_rep k e2 (by rw [e4]; exact rr)
    unfold dropK dropD at i1 i2 ⊢
    by_cases c : a.1 = k
    · have c2 : b.1 = k := by rw [e1]; exact c
      rw [List.filter_cons_of_neg (by simpa using c2), List.filter_cons_of_neg (by simpa using c)]
      exact ⟨i1, i2⟩
    · have c2 : ¬ b.1 = k := by rw [e1]; exact c
      rw [List.filter_cons_of_pos (by simpa using c2), List.filter_cons_of_pos (by simpa using c)]
      refine ⟨by rw [List.map_cons, List.map_cons, i1, e1], ?_⟩
      rw [List.map_cons, List.map_cons]
      exact .cons (by rw [e3]; exact rv) i2
def wDpop (n : Nat) (we : TW) : TSW := fun De ρ => onFd ρ n fun l => we ρ (onDk fun k => (∃ y, look l k = some y) ∧ De.nx (ρ.set n (some (.fd .o (dropD l k))))) (De.ex ρ)
theorem s_dpop (n : Nat) (he : QE X e we) (m : M1 X (.Name x p) "pop" apos e cpos) (hN : X.N[n]? = some x := by rfl) (hv : Vis X.env.scope x := by first | exact Or.inl rfl | exact Or.inr (Or.inl rfl) | exact Or.inr (Or.inr rfl)) (hd : (x == ("__debug__" : Str)) = false := by decide) (hcd : (x == ("__classdict__" : Str)) = false := by decide)
    (hsw : swapsWith (.Call (.Attribute (.Name x p) "pop" apos) [e] [] cpos) none spos.line X.env = pure false := by rfl) :
    QS X (.Expr (.Call (.Attribute (.Name x p) "pop" apos) [e] [] cpos) spos) [] (wDpop n we) where
  mono := fun l h => onFd_mono (fun _ z => he.mono (fun m q => by
    unfold onDk at q ⊢
    split at q
    · obtain ⟨k, e, y, q⟩ := q; exact ⟨k, e, y, l.nx _ q⟩
    · exact q) (l.ex _) z) h
  run := fun W F0 H0 tk => psImp (ps_expr (pe_dpop1 (pe_var hN hv hd hcd) (he.run W F0 H0 tk) m) hsw) fun D σ H ⟨ρ, F, rel, z⟩ => by
    obtain ⟨l, e0, z⟩ := onFd_of z
    obtain ⟨a, kvs0, g1, g2, _⟩ := rel.updFd rfl e0
    refine ⟨.ref a, g1, a, rfl, .inl ⟨kvs0, .inl g2⟩, ρ, F, rel, he.mono (fun m hm v1 H1 F1 fp x1 r hf hn => ?_) (fun _ q => exq rel q) z⟩
    unfold onDk at hm
    split at hm
    · rename_i kd
      obtain ⟨k, ek, ⟨y, hy⟩, q⟩ := hm
      obtain ⟨kvs, h2, h3, h4, h5⟩ := fd_later rel x1 e0 g1
      obtain ⟨v, hv, _⟩ := (look_val k h3 h4).1 y hy
      obtain ⟨d1, d2⟩ := drop_rep k h3 h4
      refine ⟨kvs, k, v, h2, r.ofD.2.key ek, hv, ?_⟩
      exact q σ F1 _ x1.f (h5 _ _ d1 d2) .refl
    · exact hm.elim
end
end RT
namespace RT
open PySem PySem.Spec PyProof.Rows L2
/-! ### a dict of one's own is locked for good -/
section
variable {K : PySem.W.Frag} {F F' H H' H0 F0 : Hp} {ρ : Sg} {σ : L2.St} {i : Nat}
theorem Rel.lockD {l : List (Key × D)} (r : Rel K F0 H0 ρ σ [] [] F H) (h : ρ[i]? = some (some (.fd .o l))) : ∃ a kvs, σ[i]? = some (some (.ref a)) ∧ H a = some (.dK kvs) ∧
    ∀ od, ∃ F', Same F F' ∧ Rel K F0 H0 (ρ.set i (some (.d (.dct (l.map (·.1)) (l.map (·.2)))))) σ [] [] F' (L2.upd H a (.frz od (.dK kvs))) := by
  obtain ⟨e, ln, fs, ft, n1, n2, ow, dj, dt, rt, sl⟩ := r
  obtain ⟨v, h1, h2, h3⟩ := sl i _ h
  unfold RepM at h3
  obtain ⟨a, kvs, ev, ⟨efp, g1, g2, g3⟩, ek, rv⟩ := h3
  subst ev
  have hai : a ∈ fs i := by rw [efp]; exact List.mem_cons_self
  have oth : ∀ j, j ≠ i → ∀ b ∈ fs j, b ≠ a := fun j hj b hb z => hj (dj j i a (by rw [← z]; exact hb) hai)
  have eft : ft = [] := by unfold RepMs at rt; exact rt.2
  refine ⟨a, kvs, h1, g1, fun od => ⟨L2.upd F a (.frz od (.dK kvs)), ?_, ?_⟩⟩
  · intro b o hb
    rw [upd_ne (fun z => by rw [z, g2] at hb; cases hb)]; exact hb
  have sF : Same F (L2.upd F a (.frz od (.dK kvs))) := fun b o hb => by
    rw [upd_ne (fun z => by rw [z, g2] at hb; cases hb)]; exact hb
  refine ⟨⟨fun b o hb => ?_, e.f.trans sF, fun b o hb => ?_, fun b o hb => ?_⟩, by rw [List.length_set, ln], fun j => if j = i then [] else fs j, [], List.nodup_nil, fun j => ?_, fun j b hb => ?_, fun j k b hb hb' => ?_, fun j b hb => List.not_mem_nil, ?_, fun j m2 h' => ?_⟩
  · rw [upd_ne (fun z => by rw [z, g3] at hb; cases hb)]; exact e.h _ _ hb
  · by_cases c : b = a
    · subst c; rw [upd_same] at hb ⊢; exact hb
    · rw [upd_ne c] at hb ⊢; exact e.s _ _ hb
  · by_cases c : b = a
    · subst c; exact .inr g3
    · rw [upd_ne c] at hb; exact e.n _ _ hb
  · dsimp only; split
    · exact List.nodup_nil
    · exact n2 j
  · dsimp only at hb; split at hb
    · cases hb
    · rename_i hj
      obtain ⟨x1, ⟨o, x2⟩, x3⟩ := ow j b hb
      exact ⟨by rw [upd_ne (oth j hj b hb)]; exact x1, ⟨o, by rw [upd_ne (oth j hj b hb)]; exact x2⟩, x3⟩
  · dsimp only at hb hb'
    split at hb <;> split at hb'
    · cases hb
    · cases hb
    · cases hb'
    · exact dj j k b hb hb'
  · unfold RepMs; exact ⟨rfl, rfl⟩
  · dsimp only
    by_cases hj : j = i
    · subst hj
      rw [if_pos rfl]
      by_cases hl : j < ρ.length
      · rw [List.getElem?_set_self hl] at h'
        cases h'
        refine ⟨.ref a, h1, by unfold M.sto; rfl, ?_⟩
        unfold RepM
        refine ⟨rfl, ?_⟩
        unfold RepD
        exact ⟨a, od, kvs, rfl, upd_same, ek, rv.mono sF⟩
      · rw [List.getElem?_eq_none (by simpa using hl)] at h'
        cases h'
    · rw [if_neg hj]
      rw [List.getElem?_set_ne (Ne.symm hj)] at h'
      obtain ⟨v2, y1, y2, y3⟩ := sl j m2 h'
      refine ⟨v2, y1, y2, ?_⟩
      have z1 := y3.keep (H' := L2.upd H a (.frz od (.dK kvs))) y2 fun b hb => upd_ne (oth j hj b hb)
      exact z1.mono ⟨sF, .refl _, fun b hb => by rw [upd_ne (oth j hj b hb)]; exact (ow j b hb).1⟩
end
def gLock (n : Nat) (u : TSW) : TSW := fun D ρ => ∃ l, ρ[n]? = some (some (.fd .o l)) ∧ u D (ρ.set n (some (.d (.dct (l.map (·.1)) (l.map (·.2))))))
section
variable {X : Cx}
theorem pss_lockG {sts : List Stmt} {t : TS} (h : PSs X sts t) : PSs X sts (fun D σ H => ∃ a kvs, H a = some (.dK kvs) ∧ ∀ od, t D σ (L2.upd H a (.frz od (.dK kvs)))) := by
  refine ⟨fun pins s σ H D I ⟨a, kvs, e, q⟩ => ?_⟩
  obtain ⟨od, I1⟩ := I.lock e True.intro
  exact h.run pins s σ _ D I1 (q od)
theorem ss_lockG {sts : List Stmt} {as : List Nat} {u : TSW} (i : Nat) (h2 : QSs X sts as u) : QSs X sts as (gLock i u) where
  mono := fun l ⟨m, e, z⟩ => ⟨m, e, h2.mono l z⟩
  run := fun W F0 H0 tk => pssImp (pss_lockG (h2.run W F0 H0 tk)) fun D σ H ⟨ρ, F, rel, l, e, z⟩ => by
    obtain ⟨a, kvs, g1, g2, fin⟩ := rel.lockD e
    refine ⟨a, kvs, g2, fun od => ?_⟩
    obtain ⟨F', s, rel'⟩ := fin od
    exact ⟨_, F', rel', h2.mono (endsOf_le (bs := []) s .refl fun _ z => nomatch z) z⟩
end
/-! ### the pairs of a locked dict -/
def Itix (d : Addr) (o : Obj) (kvs : List (Key × V)) : It :=
  ⟨fun i H => H d = some (.frz o (.dK kvs)) ∧ i < kvs.length, fun i H x H' => ∃ T ob k v, x = .ref T ∧ H T = none ∧ ob.dict = none ∧ kvs[i]? = some (k, v) ∧ H' = L2.upd H T (.frz ob (.tup [kV k, v])),
    fun i H => H d = some (.frz o (.dK kvs)) ∧ kvs.length ≤ i⟩
section
variable {P : Program} {w : World} {K : PySem.W.Frag} {d : Addr} {o : Obj} {es : Array DictEntry} {ep : Nat}
theorem turn_itemsX {kvs : List (Key × V)} {elts : List Expr} {kk : Nat} {tpos : Pos} (it : Addr) (hod : o.data = .dict es ep) :
    Turn P w K (.Tuple elts kk tpos) (Itix d o kvs) [it] it (fun i h => ∃ a b, IsItemIter h it d i kvs.length ep a b) where
  mem := List.mem_singleton.mpr rfl
  obj := fun i h ⟨a, b, e⟩ c hc => by
    rw [List.mem_singleton.mp hc]
    exact ⟨_, e, fun v z => nomatch z⟩
  keep := fun i h h' ⟨a, b, e⟩ k => ⟨a, b, k it (List.mem_singleton.mpr rfl) _ e⟩
  item := by
    intro X hP hw hK hc i pins s σ H E I hf hst hgo
    subst hP hw hK
    obtain ⟨g1, g2⟩ := hgo
    obtain ⟨_, _, _, es2, ep2, vs, q1, _, q2, q3⟩ := I.frzK g1
    obtain ⟨rfl, rfl⟩ := dict_ep hod q1
    obtain ⟨⟨k, v⟩, ekv⟩ : ∃ p, kvs[i]? = some p := ⟨_, List.getElem?_eq_getElem g2⟩
    obtain ⟨u, hu, ru⟩ := kv_get q2 ekv
    have len : kvs.length = vs.length := Paired.length q2
    obtain ⟨a, b, hit⟩ := hst
    rw [len] at hit
    have lt : it < s.heap.objs.size := Heap.lt_size hit
    refine wpAny_pyNext_items_item hit q3 hu fun key h1 hkey ho hT _ hk => ?_
    refine ⟨_, rfl, wpAny_letOwnedTupleGo_items (s := { s with heap := h1 }) ho fun h2 hit2 sb => ?_⟩
    have at2 : h2.get? s.heap.objs.size = some { cls := .type "tuple", data := .seq #[key, u] } := (sb.2 _ (Nat.ne_of_gt lt)).trans hT
    have ok2 : ObjOk X.prog X.w (L2.upd H s.heap.objs.size (.frz { cls := .type "tuple", data := .seq #[key, u] } (.tup [kV k, v]))) h2 s.heap.objs.size (.frz { cls := .type "tuple", data := .seq #[key, u] } (.tup [kV k, v])) :=
      ⟨at2, by show 2 ≤ sizeLine; decide, [key, u], .cons (relV_key hkey) (.cons ru .nil), ⟨_, at2, rfl, _, rfl⟩⟩
    have J : Inv X pins σ (L2.upd H s.heap.objs.size (.frz { cls := .type "tuple", data := .seq #[key, u] } (.tup [kV k, v]))) { s with heap := h2 } :=
      I.turnedNew (t' := s.toks) (ch := [it]) (fun c ob hb e => (sb.2 c fun z => hb (List.mem_singleton.mpr z)).trans (hk c ob (fun z => hb (List.mem_singleton.mpr z)) e)) hf (Nat.le_refl _) ok2
    refine ⟨.ref s.heap.objs.size, _, J, rfl, ⟨_, _, k, v, rfl, I.hok.fresh (Nat.le_refl _), rfl, ekv, rfl⟩, ⟨key, u, by rw [len]; exact hit2⟩, fun c hc => ?_⟩
    have e := List.mem_singleton.mp hc
    rw [e, L2.upd_ne (Nat.ne_of_lt lt)]
    exact (hf it (List.mem_singleton.mpr rfl)).1
  done := by
    intro X hP hw hK hc i pins s σ H E I hf hst hgo
    subst hP hw hK
    obtain ⟨g1, g2⟩ := hgo
    obtain ⟨f0, f1, _, f3, f4, f5⟩ := hf it (List.mem_singleton.mpr rfl)
    obtain ⟨_, _, _, es2, ep2, vs, q1, _, q2, q3⟩ := I.frzK g1
    obtain ⟨rfl, rfl⟩ := dict_ep hod q1
    have len : kvs.length = vs.length := Paired.length q2
    obtain ⟨a, b, hit⟩ := hst
    rw [len] at hit
    exact wpAny_pyNext_items_end (I.ok.hd hc) hit q3 (List.getElem?_eq_none (by omega)) fun h1 k => ⟨rfl, I.turned (t' := s.toks) (fun c ob hb e => k c ob hb e) f0 f1 f3 f4 f5⟩
  self := fun A i s Q E ⟨a, b, e⟩ h => PySem.W.kcp_self e h
end
def iItemsX (td : TE) : TI := fun σ H R => td σ H fun x H1 => ∃ d o kvs, x = .ref d ∧ H1 d = some (.frz o (.dK kvs)) ∧ R (Itix d o kvs) H1
section
variable {X : Cx} {e : Expr} {td : TE} {apos cpos : Pos}
theorem pi_itemsX {elts : List Expr} {kk : Nat} {tpos : Pos} (he : PE X e td) (hbase : attributeBase e "items" X.env (eval e X.env) = eval e X.env := by rfl) (hline : (apos.endLine == cpos.line) = true := by rfl) :
    PI X (.Tuple elts kk tpos) (.Call (.Attribute e "items" apos) [] [] cpos) (iItemsX td) := by
  refine ⟨fun pins s σ H R I h => ?_⟩
  refine wpAny_Call_method (T := "dict") (id := "dict.items") hbase rfl hline PySem.F.plainAttrs_dict PySem.F.slot_dict_items PySem.F.type_dict_items (thn (he.run pins s σ H _ I h) fun u s1 ⟨x, H1, I1, rx, d, o, kvs, ex, hd, q⟩ => ?_)
  subst ex
  obtain rfl : u = Value.ref d := rx
  obtain ⟨hsm, _, _, es, ep, vs, q1, _, q2, q3⟩ := I1.frzK hd
  have len : kvs.length = vs.length := Paired.length q2
  refine ⟨q3.dictOf.typeIs, q3.dictOf.mapOf.noDict, ?_⟩
  have I2 : Inv X pins σ H1 { s1 with heap := s1.heap.push { cls := .type "dict_items", data := .fields #[.ref d] } } := I1.kept (t' := s1.toks) fun b ob q => Heap.get?_push_of_some _ q
  have last : wpAny (model X.prog X.w) X.A (pyIter (.ref s1.heap.objs.size)) (PIE X pins σ (.Tuple elts kk tpos) R) X.xe { s1 with heap := s1.heap.push { cls := .type "dict_items", data := .fields #[.ref d] } } := by
    refine wpAny_pyIter_items (d := d) (knd := mixKind X.prog X.w) ⟨_, Heap.get?_push_size _ rfl, rfl, rfl⟩ (q3.push _) (pi_one (tk := s1.toks) I2 _ (turn_itemsX _ q1) ⟨.none, .none, ?_⟩ q)
    rw [len]
    exact Heap.get?_push_size _ rfl
  show wpAny _ _ (callWith cpos (.builtin "dict.items") [.ref d] [] []) _ X.xe s1
  exact method_meetsIn PySem.F.slot_dict_items PySem.F.entry_dict_items rfl (PySem.evalArgs_none ⟨rfl, q3.dictOf.typeIs, PySem.F.args_dict_items_1 _, _, meets_dict_items (mixKind X.prog X.w) d hsm, ⟨vs, q3.dictOf⟩, last⟩)
end
def keyD : Key → D
  | .inl i => .int i
  | .inr x => .str x
def itemsD (ks : List Key) (l : List D) : List D := List.zipWith (fun k x => .tup [keyD k, x]) ks l
theorem rep_keyD {K : PySem.W.Frag} {F : Hp} (k : Key) : RepD K F (keyD k) (kV k) := by
  cases k <;> (unfold keyD RepD; rfl)
theorem it_items {K : PySem.W.Frag} {F H0 : Hp} {d : Addr} {o : Obj} {kvs : List (Key × V)} {l : List D} (hF : F d = some (.frz o (.dK kvs))) (r : RepDs K F l (kvs.map (·.2))) : ItOk K F H0 (Itix d o kvs) (itemsD (kvs.map (·.1)) l) where
  go := fun i x hx F1 H1 s1 s2 z1 => by
    unfold itemsD at hx
    rw [List.getElem?_zipWith] at hx
    cases e1 : (kvs.map (·.1))[i]? with
    | none => rw [e1] at hx; cases hx
    | some k =>
      cases e2 : l[i]? with
      | none => rw [e1, e2] at hx; cases hx
      | some y =>
        rw [e1, e2] at hx
        have hx : RT.D.tup [keyD k, y] = x := Option.some.inj hx
        obtain ⟨u, hu, ru⟩ := r.get e2
        rw [List.getElem?_map] at e1 hu
        cases e3 : kvs[i]? with
        | none => rw [e3] at e1; cases e1
        | some p =>
          rw [e3] at e1 hu
          have e1 : p.1 = k := Option.some.inj e1
          have hu : p.2 = u := Option.some.inj hu
          refine ⟨⟨s2 _ _ (s1 _ _ hF), (List.getElem?_eq_some_iff.mp e3).1⟩, fun v H2 ⟨T, ob, k', v', ev, hT, ho, e4, eH⟩ => ?_⟩
          rw [e3] at e4
          have e4 : p = (k', v') := Option.some.inj e4
          subst e4
          subst ev eH hx e1 hu
          refine ⟨L2.upd F1 T (.frz ob (.tup [kV k', v'])), Ext.pure s2 hT, ?_⟩
          unfold RepD
          exact ⟨T, _, rfl, .inl ⟨ob, L2.upd_same, ho⟩, .cons (rep_keyD _) (.cons ((ru.mono s1).mono (Ext.pure s2 hT).f) .nil)⟩
  stop := fun F1 H1 s1 s2 z1 => by
    refine ⟨s2 _ _ (s1 _ _ hF), ?_⟩
    have := r.length
    unfold itemsD
    rw [List.length_zipWith, List.length_map, this, List.length_map]; omega
def wItems (wa : TW) : TIW := fun ρ Q E => wa ρ (fun m => ∃ ks l, m = .d (.dct ks l) ∧ l.length ≤ 16777216 ∧ Q (itemsD ks l)) E
section
variable {X : Cx} {e : Expr} {wa : TW} {apos cpos : Pos} {c : Bool}
theorem qi_items {elts : List Expr} {kk : Nat} {tpos : Pos} (he : QE X e wa) (hbase : attributeBase e "items" X.env (eval e X.env) = eval e X.env := by rfl) (hline : (apos.endLine == cpos.line) = true := by rfl) :
    QI X c (.Tuple elts kk tpos) (.Call (.Attribute e "items" apos) [] [] cpos) (wItems wa) where
  mono := fun hq h z => he.mono (fun m ⟨ks, l, e, e2, q⟩ => ⟨ks, l, e, e2, hq _ q⟩) h z
  run := fun W F0 H0 tk => piImp (pi_itemsX (he.run W F0 H0 tk) hbase hline) fun σ H R ⟨ρ, F, rel, z⟩ => by
    refine ⟨ρ, F, rel, he.mono (fun m hm => ?_) (fun _ q => q) z⟩
    obtain ⟨ks, l, em, hlen, q⟩ := hm
    intro v H1 F1 fp x r hf hn
    subst em
    have rd := r.ofD.2
    unfold RepD at rd
    obtain ⟨a, od, kvs, ev, ha, ek, rv⟩ := rd
    subst ek
    refine ⟨a, od, kvs, ev, x.s _ _ ha, ?_⟩
    exact q (by unfold itemsD; rw [List.length_zipWith]; omega) _ _ _ x (it_items ha rv)
end
end RT
namespace RT
open PySem PySem.Spec PyProof.Rows L2
/-! ### d.setdefault(k, []).append(e), d a dict of lists of one's own -/
section
variable {X : Cx} {K : PySem.W.Frag} {F F' H H' H0 F0 : Hp} {ρ : Sg} {σ : L2.St} {ts : List M} {tv : List V}
theorem RepMs.appendF : ∀ {ms ns : List M} {vs us : List V} {f g : List Addr}, RepMs K F H0 H ms vs f → RepMs K F H0 H ns us g → RepMs K F H0 H (ms ++ ns) (vs ++ us) (f ++ g)
  | [], ns, vs, us, f, g, h, h' => by unfold RepMs at h; obtain ⟨rfl, rfl⟩ := h; exact h'
  | m :: ms, ns, vs, us, f, g, h, h' => by
    unfold RepMs at h
    obtain ⟨v, w, f1, f2, e1, e2, q, z⟩ := h
    subst e1; subst e2
    show RepMs K F H0 H (m :: (ms ++ ns)) _ _
    unfold RepMs
    exact ⟨v, w ++ us, f1, f2 ++ g, rfl, by rw [List.append_assoc], q, z.appendF h'⟩
theorem stos_app : ∀ {ms ns : List M}, M.stos ms = true → M.stos ns = true → M.stos (ms ++ ns) = true
  | [], _, _, h => h
  | m :: ms, ns, h, h' => by
    unfold M.stos at h; rw [Bool.and_eq_true] at h
    show M.stos (m :: (ms ++ ns)) = true
    unfold M.stos; rw [Bool.and_eq_true]; exact ⟨h.1, stos_app h.2 h'⟩
theorem Rel.updMd {i j : Nat} {ks : List Key} {ms : List M} {l : List D} (r : Rel K F0 H0 ρ σ ts tv F H) (ht : M.stos ts = true) (h : ρ[i]? = some (some (.md .o ks ms))) (hj : ms[j]? = some (.fl .o l)) :
    ∃ a kvs b us, σ[i]? = some (some (.ref a)) ∧ H a = some (.dK kvs) ∧ kvs.map (·.1) = ks ∧ (kvs.map (·.2))[j]? = some (.ref b) ∧ H b = some (.lst us) ∧ RepDs K F l us ∧
      ∀ l' us', RepDs K F l' us' → Rel K F0 H0 (ρ.set i (some (.md .o ks (ms.set j (.fl .o l'))))) σ ts tv F (L2.upd H b (.lst us')) := by
  obtain ⟨v, fp, e1, hs, q, n, fin⟩ := r.upd ht h
  unfold M.sto at hs
  rw [Bool.and_eq_true] at hs
  unfold RepM at q
  obtain ⟨a, kvs, f, e, ⟨e2, h1, h2, h3⟩, ek, r2⟩ := q
  subst e; subst e2
  have n2 := List.nodup_cons.mp n
  obtain ⟨b, us, y1, y2, y3, y4, y5⟩ := r2.updAt hs.2 n2.2 hj
  have hab : a ≠ b := fun z => n2.1 (by rw [z]; exact y4)
  refine ⟨a, kvs, b, us, e1, h1, ek, y1, y2, y3, fun l' us' r' => fin (.md .o ks (ms.set j (.fl .o l'))) (a :: f) _ ?_ ?_ n (fun d o hd hn => ?_) (fun d hd => .inl hd)⟩
  · unfold RepM
    exact ⟨a, kvs, f, rfl, ⟨rfl, by rw [upd_ne hab]; exact h1, h2, h3⟩, ek, y5 l' us' r'⟩
  · unfold M.sto; rw [Bool.and_eq_true]; exact ⟨hs.1, stos_set hs.2 rfl⟩
  · rw [upd_ne fun z => hn (by rw [z]; exact List.mem_cons_of_mem _ y4)]; exact hd
theorem Rel.addMd {i : Nat} {ks : List Key} {ms : List M} {b : Addr} (r : Rel K F0 H0 ρ σ ts tv F H) (ht : M.stos ts = true) (h : ρ[i]? = some (some (.md .o ks ms))) (hb : H b = none) :
    ∃ a kvs, σ[i]? = some (some (.ref a)) ∧ H a = some (.dK kvs) ∧ kvs.map (·.1) = ks ∧ kvs.length = ms.length ∧
      ∀ k, Rel K F0 H0 (ρ.set i (some (.md .o (ks ++ [k]) (ms ++ [.fl .o []])))) σ ts tv F (L2.upd (L2.upd H b (.lst [])) a (.dK (kvs ++ [(k, .ref b)]))) := by
  have hFb : F b = none := by
    cases q : F b with
    | none => rfl
    | some o => have := r.e.s _ _ q; rw [hb] at this; cases this
  have hHb : H0 b = none := by
    cases q : H0 b with
    | none => rfl
    | some o => have := r.e.h _ _ q; rw [hb] at this; cases this
  obtain ⟨v, fp, e1, hs, q, n, fin⟩ := r.upd ht h
  unfold M.sto at hs
  rw [Bool.and_eq_true] at hs
  unfold RepM at q
  obtain ⟨a, kvs, f, e, ⟨e2, h1, h2, h3⟩, ek, r2⟩ := q
  subst e; subst e2
  have n2 := List.nodup_cons.mp n
  have hab : a ≠ b := fun z => by rw [z, hb] at h1; cases h1
  have hbf : b ∉ f := fun z => by
    obtain ⟨_, ⟨o, x⟩, _⟩ := r2.own b z
    rw [hb] at x; cases x
  refine ⟨a, kvs, e1, h1, ek, by have := r2.length; rw [List.length_map] at this; exact this.symm, fun k => fin (.md .o (ks ++ [k]) (ms ++ [.fl .o []])) (a :: (f ++ [b])) _ ?_ ?_ ?_ (fun d o hd hn => ?_) (fun d hd => ?_)⟩
  · unfold RepM
    refine ⟨a, kvs ++ [(k, .ref b)], f ++ [b], rfl, ⟨rfl, upd_same, h2, h3⟩, by rw [List.map_append, ek]; rfl, ?_⟩
    rw [List.map_append]
    refine RepMs.appendF (r2.keep hs.2 fun c hc => ?_) ?_
    · rw [upd_ne fun z => n2.1 (by rw [← z]; exact hc), upd_ne fun z => hbf (by rw [← z]; exact hc)]
    · show RepMs K F H0 _ [.fl .o []] [.ref b] [b]
      unfold RepMs
      refine ⟨.ref b, [], [b], [], rfl, rfl, ?_, ?_⟩
      · unfold RepM
        exact ⟨b, [], rfl, ⟨rfl, by rw [upd_ne (Ne.symm hab)]; exact upd_same, hFb, hHb⟩, .nil⟩
      · unfold RepMs; exact ⟨rfl, rfl⟩
  · unfold M.sto; rw [Bool.and_eq_true]; exact ⟨hs.1, stos_app hs.2 rfl⟩
  · refine List.nodup_cons.mpr ⟨fun z => ?_, List.nodup_append.mpr ⟨n2.2, List.nodup_cons.mpr ⟨List.not_mem_nil, List.nodup_nil⟩, fun c hc d hd z => hbf (by rw [← List.mem_singleton.mp hd, ← z]; exact hc)⟩⟩
    rcases List.mem_append.mp z with z | z
    · exact n2.1 z
    · exact hab (List.mem_singleton.mp z)
  · rw [upd_ne fun z => hn (by rw [z]; exact List.mem_cons_self), upd_ne fun z => by rw [z, hb] at hd; cases hd]; exact hd
  · rcases List.mem_cons.mp hd with z | z
    · exact .inl (by rw [z]; exact List.mem_cons_self)
    · rcases List.mem_append.mp z with z | z
      · exact .inl (List.mem_cons_of_mem _ z)
      · exact .inr (by rw [List.mem_singleton.mp z]; exact hb)
theorem val_at {kvs : List (Key × V)} {k : Key} {v : V} (h : valV kvs k = some v) : ∃ j : Nat, (kvs.map (·.1))[j]? = some k ∧ (kvs.map (·.2))[j]? = some v := by
  unfold valV at h
  cases q : kvs.find? (fun kv => decide (kv.1 = k)) with
  | none => rw [q] at h; cases h
  | some p =>
    rw [q] at h
    have h : p.2 = v := Option.some.inj h
    have h1 : p.1 = k := by simpa using List.find?_some q
    obtain ⟨j, hj⟩ := List.getElem?_of_mem (List.mem_of_find?_eq_some q)
    exact ⟨j, by rw [List.getElem?_map, hj, ← h1]; rfl, by rw [List.getElem?_map, hj, ← h]; rfl⟩
theorem val_out {kvs : List (Key × V)} {k : Key} (h : valV kvs k = none) (x : V) : k ∉ kvs.map (·.1) ∧ putK kvs k x = kvs ++ [(k, x)] := by
  unfold valV at h
  have hn : kvs.find? (fun kv => decide (kv.1 = k)) = none := by
    cases q : kvs.find? (fun kv => decide (kv.1 = k)) with
    | none => rfl
    | some p => rw [q] at h; cases h
  have hn2 := List.find?_eq_none.mp hn
  refine ⟨fun z => ?_, ?_⟩
  · obtain ⟨p, hp, e⟩ := List.mem_map.mp z
    exact hn2 p hp (by simpa using e)
  · unfold putK
    rw [if_neg]
    rw [List.any_eq_true]
    rintro ⟨p, hp, e⟩
    exact hn2 p hp e
/-- the reading: k new, or at a place j -/
def wDsetApp (n : Nat) (wk we : TW) : TSW := fun De ρ => ∃ ks ms, ρ[n]? = some (some (.md .o ks ms)) ∧ ks.length < 16777216 ∧ wk ρ (onDk fun k => (k ∉ ks → we (ρ.set n (some (.md .o (ks ++ [k]) (ms ++ [.fl .o []])))) (fun m => ∃ y, m.frz = some y ∧ De.nx (ρ.set n (some (.md .o (ks ++ [k]) (ms ++ [.fl .o [y]]))))) (fun _ => False)) ∧ ∀ j : Nat, ks[j]? = some k → ∃ l, ms[j]? = some (.fl .o l) ∧ l.length < 16777216 ∧ we ρ (fun m => ∃ y, m.frz = some y ∧ De.nx (ρ.set n (some (.md .o ks (ms.set j (.fl .o (l ++ [y]))))))) (fun _ => False)) (De.ex ρ)
theorem md_later {n j : Nat} {F2 H2 : Hp} {ks : List Key} {ms : List M} {l : List D} {a : Addr} (rel : Rel X.K F0 H0 ρ σ [] [] F H) (x : Ext F H F2 H2) (e : ρ[n]? = some (some (.md .o ks ms))) (h : σ[n]? = some (some (.ref a))) (hj : ms[j]? = some (.fl .o l)) :
    ∃ kvs b us, H2 a = some (.dK kvs) ∧ kvs.map (·.1) = ks ∧ (kvs.map (·.2))[j]? = some (.ref b) ∧ H2 b = some (.lst us) ∧ RepDs X.K F2 l us ∧
      ∀ l' us', RepDs X.K F2 l' us' → Rel X.K F0 H0 (ρ.set n (some (.md .o ks (ms.set j (.fl .o l'))))) σ [] [] F2 (L2.upd H2 b (.lst us')) := by
  obtain ⟨a', kvs, b, us, g1, g2, g3, g4, g5, g6, g7⟩ := (rel.ext x).updMd rfl e hj
  rw [h] at g1; cases g1
  exact ⟨kvs, b, us, g2, g3, g4, g5, g6, g7⟩
theorem md_slot {n : Nat} {ks : List Key} {ms : List M} (rel : Rel X.K F0 H0 ρ σ [] [] F H) (e : ρ[n]? = some (some (.md .o ks ms))) : ∃ a kvs, σ[n]? = some (some (.ref a)) ∧ H a = some (.dK kvs) ∧ kvs.map (·.1) = ks := by
  obtain ⟨v, fp, e1, _, q, _⟩ := rel.get e
  unfold RepM at q
  obtain ⟨a, kvs, f, e, ⟨_, h1, _⟩, ek, _⟩ := q
  exact ⟨a, kvs, by rw [e1, e], h1, ek⟩
variable {k e : Expr} {wk we : TW} {x : Str} {p lp apos apos2 cpos cpos2 spos : Pos}
theorem ext_new {F1 H1 : Hp} {b : Addr} {o : HO} (s : Same F1 H1) (hb : H1 b = none) : Ext F1 H1 F1 (L2.upd H1 b o) :=
  ⟨fun c u e => by rw [upd_ne fun z => by rw [z, hb] at e; cases e]; exact e, .refl _, fun c u e => by rw [upd_ne fun z => by rw [z] at e; have := s _ _ e; rw [hb] at this; cases this]; exact s _ _ e, fun c u e => .inl e⟩
theorem s_dsetapp (n : Nat) (hk : QE X k wk) (he : QE X e we) (m : M2 X (.Name x p) "setdefault" apos2 k (.List [] lp) cpos2) (hN : X.N[n]? = some x := by rfl) (hv : Vis X.env.scope x := by first | exact Or.inl rfl | exact Or.inr (Or.inl rfl) | exact Or.inr (Or.inr rfl)) (hd : (x == ("__debug__" : Str)) = false := by decide) (hcd : (x == ("__classdict__" : Str)) = false := by decide)
    (hbase : attributeBase (.Call (.Attribute (.Name x p) "setdefault" apos2) [k, .List [] lp] [] cpos2) "append" X.env (eval (.Call (.Attribute (.Name x p) "setdefault" apos2) [k, .List [] lp] [] cpos2) X.env) = eval (.Call (.Attribute (.Name x p) "setdefault" apos2) [k, .List [] lp] [] cpos2) X.env := by rfl)
    (hfew : ((backTo cpos (starEach [e] X.env)).all (fun x => !x.1) && (backToKw cpos (keywordEach [] X.env)).all (fun x => x.1.isSome) && decide (([e] : List Expr).length + ([] : List Keyword).length + (if ([] : List Keyword).isEmpty then 0 else 1) < 30)) = true := by rfl)
    (hline : (apos.endLine == cpos.line) = true := by rfl) (hs : starEach [e] X.env = [(false, eval e X.env)] := by rfl)
    (hsw : swapsWith (.Call (.Attribute (.Call (.Attribute (.Name x p) "setdefault" apos2) [k, .List [] lp] [] cpos2) "append" apos) [e] [] cpos) none spos.line X.env = pure false := by rfl) :
    QS X (.Expr (.Call (.Attribute (.Call (.Attribute (.Name x p) "setdefault" apos2) [k, .List [] lp] [] cpos2) "append" apos) [e] [] cpos) spos) [] (wDsetApp n wk we) where
  mono := fun l ⟨ks, ms, e0, hz, h⟩ => ⟨ks, ms, e0, hz, hk.mono (fun m q => by
    unfold onDk at q ⊢
    split at q
    · obtain ⟨kk, ek, q1, q2⟩ := q
      exact ⟨kk, ek, fun hn => he.mono (fun m ⟨y, h1, q⟩ => ⟨y, h1, l.nx _ q⟩) (fun _ z => z) (q1 hn), fun j hj => by
        obtain ⟨l', g1, g2, q⟩ := q2 j hj
        exact ⟨l', g1, g2, he.mono (fun m ⟨y, h1, q⟩ => ⟨y, h1, l.nx _ q⟩) (fun _ z => z) q⟩⟩
    · exact q) (l.ex _) h⟩
  run := fun W F0 H0 tk => psImp (ps_expr (pe_bm PySem.F.plainAttrs_list PySem.F.slot_list_append PySem.F.type_list_append mt_append (pe_dsetd (pe_var hN hv hd hcd) (hk.run W F0 H0 tk) (pe_lst pa_nil) m) (pa_cons (he.run W F0 H0 tk) pa_nil hs) hbase hfew hline hs rfl) hsw) fun D σ H ⟨ρ, F, rel, ks, ms, e0, hz, z⟩ => by
    obtain ⟨a, kvs0, g1, g2, g3⟩ := md_slot rel e0
    refine ⟨.ref a, g1, a, rfl, .inl ⟨kvs0, .inl g2⟩, ρ, F, rel, hk.mono (fun mk hmk v1 H1 F1 fp x1 r hf hn => ?_) (fun _ q => exq rel q) z⟩
    unfold onDk at hmk
    split at hmk
    · rename_i kd
      obtain ⟨kk, ek, q1, q2⟩ := hmk
      have rel1 := rel.ext x1
      have evk := r.ofD.2.key ek
      refine ⟨by decide, fun b hb => ?_⟩
      have hs1 := rel1.e.s
      have x3 := x1.trans (ext_new (o := .lst []) hs1 hb)
      obtain ⟨a', kvs, e1, h2, h3, h4, fin⟩ := rel1.addMd rfl e0 hb
      rw [g1] at e1; cases e1
      have hab : a ≠ b := fun z => by rw [z, hb] at h2; cases h2
      refine ⟨kvs, kk, by rw [upd_ne hab]; exact h2, evk, lt_line (by rw [← List.length_map (f := (·.1)), h3]; exact hz), fun v hv => ?_, fun hv => ?_⟩
      · obtain ⟨j, j1, j2⟩ := val_at hv
        rw [h3] at j1
        obtain ⟨l, hl, hlen, qe⟩ := q2 j j1
        obtain ⟨kvs1, b1, us, f1, f2, f3, f4, f5, f6⟩ := md_later rel x3 e0 g1 hl
        rw [upd_ne hab, h2] at f1; cases f1
        rw [j2] at f3; cases f3
        refine ⟨.inl ⟨rfl, us, SqL.of f4⟩, ρ, F1, rel.ext x3, he.mono (fun m hm => ?_) (fun _ q => q.elim) qe⟩
        obtain ⟨y, hy, q⟩ := hm
        intro v2 H4 F4 fp4 x4 r4 hf4 hn4
        have x5 := ext_frz x4 r4 hf4
        have ry := r4.frz (frzH_frz fun c hc => (r4.own c hc).1) hy
        generalize frzH F4 H4 fp4 = F5 at x5 ry
        obtain ⟨kvs2, b2, us2, f1', f2', f3', f4', f5', f6'⟩ := md_later rel (x3.trans x5) e0 g1 hl
        have hk2 : kvs2 = kvs := by
          have := x5.h _ _ (by rw [upd_ne hab]; exact h2)
          rw [f1'] at this; cases this; rfl
        subst hk2
        rw [j2] at f3'; cases f3'
        exact ⟨b1, us2, v2, rfl, rfl, f4', lt_line (by rw [← f5'.length]; exact hlen), q σ F5 _ (x3.trans x5).f (f6' _ _ (f5'.append (.cons ry .nil))) .refl⟩
      · obtain ⟨n1, n2⟩ := val_out hv (.ref b)
        rw [h3] at n1
        rw [n2]
        have rel2 := fin kk
        have hnl : n < ρ.length := (List.getElem?_eq_some_iff.mp e0).1
        refine ⟨.inl ⟨rfl, [], SqL.of (by rw [upd_ne (Ne.symm hab)]; exact upd_same)⟩, _, F1, rel2, he.mono (fun m hm => ?_) (fun _ q => q.elim) (q1 n1)⟩
        obtain ⟨y, hy, q⟩ := hm
        intro v2 H4 F4 fp4 x4 r4 hf4 hn4
        have x5 := ext_frz x4 r4 hf4
        have ry := r4.frz (frzH_frz fun c hc => (r4.own c hc).1) hy
        generalize frzH F4 H4 fp4 = F5 at x5 ry
        have ej : (ms ++ [M.fl .o []])[ms.length]? = some (.fl .o []) := by rw [List.getElem?_append_right (Nat.le_refl _), Nat.sub_self]; rfl
        obtain ⟨kvs2, b2, us2, f1', f2', f3', f4', f5', f6'⟩ := md_later rel2 x5 (List.getElem?_set_self hnl) g1 ej
        have hk2 : kvs2 = kvs ++ [(kk, .ref b)] := by
          have := x5.h _ _ (show L2.upd (L2.upd H1 b (.lst [])) a (.dK (kvs ++ [(kk, .ref b)])) a = _ from upd_same)
          rw [f1'] at this; cases this; rfl
        subst hk2
        have e3 : ((kvs ++ [(kk, V.ref b)]).map (·.2))[ms.length]? = some (.ref b) := by
          rw [List.map_append, List.getElem?_append_right (by rw [List.length_map]; omega), List.length_map, h4, Nat.sub_self]; rfl
        rw [e3] at f3'; cases f3'
        have eus : us2 = [] := by
          have := f5'.length
          exact List.length_eq_zero_iff.mp this.symm
        subst eus
        have last := f6' _ _ (RepDs.cons ry .nil)
        rw [List.set_set, List.set_append_right (h := Nat.le_refl _), Nat.sub_self] at last
        exact ⟨b, [], v2, rfl, rfl, f4', by decide, q σ F5 _ (x1.f.trans x5.f) last .refl⟩
    · exact hmk.elim
/-- an empty dict for lists of one's own -/
def wDic0M : TW := fun _ Q _ => Q (.md .o [] [])
theorem q_dic0M {pos : Pos} : QE X (.Dict [] [] pos) wDic0M where
  mono := fun hq _ h => hq _ h
  run := fun W F0 H0 tk => peImp pe_dnewK fun σ H Qh ⟨ρ, F, rel, q⟩ => by
    intro p hp
    refine q (.ref p) _ F [p] (Ext.mine rel.s hp) ?_ (fun a ha => by rw [List.mem_singleton.mp ha]; exact hp) (List.nodup_cons.mpr ⟨List.not_mem_nil, List.nodup_nil⟩)
    unfold RepM
    refine ⟨p, [], [], rfl, ⟨rfl, upd_same, rel.s.free hp, rel.e.h.free hp⟩, rfl, ?_⟩
    unfold RepMs; exact ⟨rfl, rfl⟩
end
end RT
namespace RT
open PySem PySem.Spec PyProof.Rows L2
/-! ### functions as values -/
section
variable {X : Cx} {x : Str} {p pos : Pos} {e : Expr} {es : List Expr}
theorem q_fnv (hg : Gl X x) (hm : X.mg x = some (.ref (He.ga X.K x))) (hd : (x == ("__debug__" : Str)) = false := by decide) : QE X (.Name x p) (wC (.fn x)) :=
  q_c (pe_glob hg hm (v := .ref (He.ga X.K x)) rfl hd) fun F => by unfold RepD; rfl
def tCallLS (i : Nat) (f : Addr) (sp : Sp) (dvs : List V) (E : L2.St → XK) (t : TA) : TE := fun σ H Q => σ[i]? = some (some (.ref f)) ∧ tCallSD sp dvs E t σ H Q
theorem pe_callLS {CX : CXT} {k i : Nat} {f : Addr} {fd : FuncData} {ps : List Str} {sp : Sp} {dvs : List V} {ds : List Value} {E : L2.St → XK} {t : TA} (F : FnOk X.prog X.w X.K X.mg X.base CX k f fd ps sp) (hr : Room k X.A) (hN : X.N[i]? = some x) (hv : Vis X.env.scope x)
    (hk : PySem.W.keepIn X.K (.ref f) = true) (hb : Binds X.K fd ps ds) (hd : Vals dvs ds) (hx : ∀ σ, PassesAt CX X σ (E σ)) (ha : PA X (e :: es) t) (h1 : (x == ("__debug__" : Str)) = false := by decide) (h2 : (x == ("__classdict__" : Str)) = false := by decide)
    (he : starEach (e :: es) X.env = (false, eval e X.env) :: starEach es X.env := by rfl) (hpl : (backTo pos (starEach es X.env)).any (·.1) = false := by rfl) : PE X (.Call (.Name x p) (e :: es) [] pos) (tCallLS i f sp dvs E t) where
  run := fun pins s σ H Q I h => by
    obtain ⟨g1, g2⟩ := h
    have var := (pe_var (pos := p) hN hv h1 h2).run pins s σ H (fun v H1 => v = .ref f ∧ H1 = H) I ⟨.ref f, g1, rfl, rfl⟩
    refine wpAny_Call_Name_kw (thn var fun u s1 ⟨v, H1, I1, r1, q1, q2⟩ => ?_)
    subst q1; subst q2
    cases r1
    have args := ha.run pos pins s1 σ H1 _ I1 g2
    refine PySem.W.callWith_K (h₀ := X.base) I.ok.mod.kin hk (thn args fun us s2 ⟨vs, H2, I2, r, q⟩ => ⟨I2.kIn, ?_⟩) he hpl
    exact run_fnSD F hr hb hd (hx σ) I2 r q
/-- the functions that a slot may hold, each with its contract -/
inductive FxTab (P : Program) (w : World) (K : PySem.W.Frag) (mg : Str → Option Value) (base : Heap) (k : Nat) : List (Str × TSp) → Prop where
  | nil : FxTab P w K mg base k []
  | cons {x : Str} {T : TSp} {l : List (Str × TSp)} (h : Fx P w K mg base x k [] T) (g : mg x = some (.ref (He.ga K x))) (t : FxTab P w K mg base k l) : FxTab P w K mg base k ((x, T) :: l)
theorem FxTab.get {P : Program} {w : World} {K : PySem.W.Frag} {mg : Str → Option Value} {base : Heap} {k : Nat} {l : List (Str × TSp)} (t : FxTab P w K mg base k l) : ∀ {x : Str} {T : TSp}, (x, T) ∈ l → Fx P w K mg base x k [] T ∧ mg x = some (.ref (He.ga K x)) := by
  induction t with
  | nil => intro x T h; cases h
  | @cons y U l h g t ih =>
    intro x T hm
    rcases List.mem_cons.mp hm with q | hm
    · cases q; exact ⟨h, g⟩
    · exact ih hm
def wCallF (n : Nat) (tab : List (Str × TSp)) (wa : TAW) : TW := fun ρ Q E => ∃ x T, ρ[n]? = some (some (.d (.fn x))) ∧ (x, T) ∈ tab ∧ wa ρ (fun ms => T (M.toPs ms) Q E) E
theorem q_callF {k n : Nat} {tab : List (Str × TSp)} {wa : TAW} (h : FxTab X.prog X.w X.K X.mg X.base k tab) (hr : Room k X.A) (ha : QA X (e :: es) wa) (hN : X.N[n]? = some x := by rfl) (hv : Vis X.env.scope x := by first | exact Or.inl rfl | exact Or.inr (Or.inl rfl) | exact Or.inr (Or.inr rfl))
    (h1 : (x == ("__debug__" : Str)) = false := by decide) (h2 : (x == ("__classdict__" : Str)) = false := by decide)
    (he : starEach (e :: es) X.env = (false, eval e X.env) :: starEach es X.env := by rfl) (hpl : (backTo pos (starEach es X.env)).any (·.1) = false := by rfl) : QE X (.Call (.Name x p) (e :: es) [] pos) (wCallF n tab wa) where
  mono := fun hq he ⟨y, T, e0, hm, z⟩ => ⟨y, T, e0, hm, ha.mono (fun ms q => (h.get hm).1.mono hq he q) he z⟩
  run := fun W F0 H0 tk => ⟨fun pins s σ H Qh I ⟨ρ, F, rel, y, T, e0, hm, z⟩ => by
    obtain ⟨hx, hg⟩ := h.get hm
    obtain ⟨f, fd, ps, dv, du, FO, hmg, hkp, hb, hd, hds⟩ := hx.ok
    rw [hg] at hmg
    have ef : He.ga X.K y = f := by cases hmg; rfl
    obtain ⟨v, fp, g1, _, g2, _⟩ := rel.get e0
    have g3 := g2.ofD.2
    unfold RepD at g3
    rw [ef] at g3
    subst g3
    refine (pe_callLS (pos := pos) (p := p) (E := fun σ => WE W σ) FO hr hN hv hkp hb hd (fun σ => passAt tk σ) (ha.run W F0 H0 tk) h1 h2 he hpl).run pins s σ H Qh I ⟨g1, ?_⟩
    refine ⟨ρ, F, rel, ha.mono (fun ms q => ?_) (fun _ q => q) z⟩
    intro vs H1 F1 fp1 x1 r hf hn
    have z1 : Same H0 H1 := rel.e.h.trans x1.h
    refine ⟨F1, M.toPs ms ++ ([] : List D).map .d, x1.s, (r.toP z1).append (reps_d (hds F1)), hx.mono (fun m hm => ?_) (fun y hy => ?_) (by rw [List.map_nil, List.append_nil]; exact q)⟩
    · intro hret v H2 F2 fp2 x2 r2 n2
      refine hm v H2 F2 fp2 (x1.trans x2) (r2.re hret fun b hb => ?_) (fun a ha => ?_) n2
      · exact z1.free (r2.own b hb).2.2
      · exact x1.h.free (r2.own a ha).2.2
    · intro cls d H2 F2 x2 r2
      exact hy cls d H2 F2 (x1.trans x2) r2⟩
end
end RT
namespace RT
open PySem PySem.Spec PyProof.Rows L2
/-! ### is, is not of truths -/
section
variable {X : Cx} {a b : Expr} {wa wb : TW} {pos : Pos}
def wIsB (neg : Bool) : WR2 := fun x y Q => ∃ p q, x = .d (.bl p) ∧ y = .d (.bl q) ∧ Q (.d (.bl (if neg then !decide (p = q) else decide (p = q))))
theorem wIsB_b {neg p q : Bool} {Q : M → Prop} : wIsB neg (.d (.bl p)) (.d (.bl q)) Q = Q (.d (.bl (if neg then !decide (p = q) else decide (p = q)))) := by
  unfold wIsB
  refine propext ⟨fun ⟨p', q', e1, e2, z⟩ => ?_, fun z => ⟨p, q, rfl, rfl, z⟩⟩
  cases e1; cases e2; exact z
theorem s_isB : OpS X (fun x y H Q => ∃ a b, x = .bl a ∧ y = .bl b ∧ Q (.bl (decide (a = b))) H) (wIsB false) where
  mono := fun h ⟨p, q, e1, e2, z⟩ => ⟨p, q, e1, e2, h _ z⟩
  run := fun s z rx ry ⟨p, q, e1, e2, zz⟩ h => by
    subst e1; subst e2
    exact ⟨p, q, rx.ofD.2.ofBl, ry.ofD.2.ofBl, (h _ zz).here s (.d .bl)⟩
theorem s_notB : OpS X (fun x y H Q => ∃ a b, x = .bl a ∧ y = .bl b ∧ Q (.bl (!decide (a = b))) H) (wIsB true) where
  mono := fun h ⟨p, q, e1, e2, z⟩ => ⟨p, q, e1, e2, h _ z⟩
  run := fun s z rx ry ⟨p, q, e1, e2, zz⟩ h => by
    subst e1; subst e2
    exact ⟨p, q, rx.ofD.2.ofBl, ry.ofD.2.ofBl, (h _ zz).here s (.d .bl)⟩
theorem q_isB (ha : QE X a wa) (hb : QE X b wb) : QE X (.Compare a [.Is] [b] pos) (wOp (wIsB false) wa wb) := q_cmp op_is_bl s_isB ha hb (nomark _)
theorem q_notB (ha : QE X a wa) (hb : QE X b wb) : QE X (.Compare a [.IsNot] [b] pos) (wOp (wIsB true) wa wb) := q_cmp op_isnot_bl s_notB ha hb (nomark _)
theorem t_isB (ha : QE X a wa) (hb : QE X b wb) : QT X (.Compare a [.Is] [b] pos) (wTB (wOp (wIsB false) wa wb)) := t_cmp op_is_bl s_isB ha hb (nomark _)
theorem t_notB (ha : QE X a wa) (hb : QE X b wb) : QT X (.Compare a [.IsNot] [b] pos) (wTB (wOp (wIsB true) wa wb)) := t_cmp op_isnot_bl s_notB ha hb (nomark _)
end
end RT
namespace RT
open PySem PySem.Spec PyProof.Rows L2
/-! ### x.append(e), x a list of parts of one's own, e a new part -/
section
variable {K : PySem.W.Frag} {F F' H H' H0 F0 : Hp} {ρ : Sg} {σ : L2.St} {i : Nat}
theorem Rel.appMl {ms : List M} {m : M} {v : V} (r : Rel K F0 H0 ρ σ [m] [v] F H) (hm : m.sto = true) (h : ρ[i]? = some (some (.ml .o ms))) : ∃ a vs, σ[i]? = some (some (.ref a)) ∧ H a = some (.lst vs) ∧ vs.length = ms.length ∧
    Rel K F0 H0 (ρ.set i (some (.ml .o (ms ++ [m])))) σ [] [] F (L2.upd H a (.lst (vs ++ [v]))) := by
  obtain ⟨e, ln, fs, ft, n1, n2, ow, dj, dt, rt, sl⟩ := r
  obtain ⟨v1, h1, h2, h3⟩ := sl i _ h
  unfold RepM at h3
  obtain ⟨a, vs, f, ev, ⟨efp, g1, g2, g3⟩, rv⟩ := h3
  subst ev
  unfold M.sto at h2
  rw [Bool.and_eq_true] at h2
  have rm : RepM K F H0 H m v ft := by
    unfold RepMs at rt
    obtain ⟨v', r', f', g', q1, q2, q3, q4⟩ := rt
    unfold RepMs at q4
    obtain ⟨q5, q6⟩ := q4
    cases q1
    rw [q2, q6, List.append_nil]; exact q3
  have hai : a ∈ fs i := by rw [efp]; exact List.mem_cons_self
  have oth : ∀ j, j ≠ i → ∀ b ∈ fs j, b ≠ a := fun j hj b hb z => hj (dj j i a (by rw [← z]; exact hb) hai)
  have oft : ∀ b ∈ ft, b ≠ a := fun b hb z => dt i a hai (by rw [← z]; exact hb)
  have nfs := n2 i
  rw [efp] at nfs
  have nf := List.nodup_cons.mp nfs
  have off : ∀ b ∈ f, b ≠ a := fun b hb z => nf.1 (by rw [← z]; exact hb)
  have ffi : ∀ b ∈ f, b ∈ fs i := fun b hb => by rw [efp]; exact List.mem_cons_of_mem _ hb
  have new : ∀ b, b ∈ a :: (f ++ ft) ↔ b ∈ fs i ∨ b ∈ ft := fun b => by
    rw [efp, List.mem_cons, List.mem_append, List.mem_cons, or_assoc]
  have own' : ∀ b, OwnA F H0 H b → OwnA F H0 (L2.upd H a (.lst (vs ++ [v]))) b := fun b ⟨x1, ⟨o, x2⟩, x3⟩ => by
    refine ⟨x1, ?_, x3⟩
    by_cases c : b = a
    · subst c; exact ⟨_, upd_same⟩
    · exact ⟨o, by rw [upd_ne c]; exact x2⟩
  refine ⟨a, vs, h1, g1, by have := rv.length; exact this.symm, ⟨⟨fun b o hb => ?_, e.f, fun b o hb => ?_, fun b o hb => e.n _ _ hb⟩, by rw [List.length_set, ln], fun j => if j = i then a :: (f ++ ft) else fs j, [], List.nodup_nil, fun j => ?_, fun j b hb => ?_, fun j k b hb hb' => ?_, fun j b hb => List.not_mem_nil, ?_, fun j m2 h' => ?_⟩⟩
  · rw [upd_ne (fun z => by rw [z, g3] at hb; cases hb)]; exact e.h _ _ hb
  · rw [upd_ne (fun z => by rw [z, g2] at hb; cases hb)]; exact e.s _ _ hb
  · dsimp only; split
    · refine List.nodup_cons.mpr ⟨fun z => ?_, List.nodup_append.mpr ⟨nf.2, n1, fun b hb c hc z => dt i b (ffi b hb) (by rw [z]; exact hc)⟩⟩
      rcases List.mem_append.mp z with z | z
      · exact nf.1 z
      · exact oft a z rfl
    · exact n2 j
  · dsimp only at hb
    refine own' b ?_
    split at hb
    · rcases (new b).mp hb with z | z
      · exact ow i b z
      · exact rm.own b z
    · exact ow j b hb
  · dsimp only at hb hb'
    split at hb <;> split at hb'
    · rename_i c1 c2; rw [c1, c2]
    · rename_i c1 c2
      rcases (new b).mp hb with z | z
      · rw [c1]; exact dj i k b z hb'
      · exact absurd z (dt k b hb')
    · rename_i c1 c2
      rcases (new b).mp hb' with z | z
      · rw [c2]; exact dj j i b hb z
      · exact absurd z (dt j b hb)
    · exact dj j k b hb hb'
  · unfold RepMs; exact ⟨rfl, rfl⟩
  · dsimp only
    by_cases hj : j = i
    · subst hj
      rw [if_pos rfl]
      by_cases hl : j < ρ.length
      · rw [List.getElem?_set_self hl] at h'
        cases h'
        refine ⟨.ref a, h1, ?_, ?_⟩
        · unfold M.sto; rw [Bool.and_eq_true]
          refine ⟨h2.1, stos_app h2.2 ?_⟩
          unfold M.stos; rw [hm]; unfold M.stos; rfl
        · unfold RepM
          refine ⟨a, vs ++ [v], f ++ ft, rfl, ⟨rfl, upd_same, g2, g3⟩, ?_⟩
          refine RepMs.appendF (rv.keep h2.2 fun c hc => upd_ne (off c hc)) ?_
          unfold RepMs
          refine ⟨v, [], ft, [], rfl, by rw [List.append_nil], rm.keep hm fun c hc => upd_ne (oft c hc), ?_⟩
          unfold RepMs; exact ⟨rfl, rfl⟩
      · rw [List.getElem?_eq_none (by simpa using hl)] at h'
        cases h'
    · rw [if_neg hj]
      rw [List.getElem?_set_ne (Ne.symm hj)] at h'
      obtain ⟨v2, y1, y2, y3⟩ := sl j m2 h'
      exact ⟨v2, y1, y2, y3.keep y2 fun b hb => upd_ne (oth j hj b hb)⟩
end
def wAppM (n : Nat) (we : TW) : TSW := fun De ρ => onMl ρ n fun ms => we ρ (fun m => m.sto = true ∧ ms.length < 16777216 ∧ De.nx (ρ.set n (some (.ml .o (ms ++ [m]))))) (De.ex ρ)
section
variable {X : Cx} {we : TW} {e : Expr} {x : Str} {p apos cpos spos : Pos} {F H H0 F0 : Hp} {ρ : Sg} {σ : L2.St}
theorem onMl_isW {n : Nat} {P : List M → Prop} (z : onMl ρ n P) : ∃ ms, ρ[n]? = some (some (.ml .o ms)) ∧ P ms := by
  unfold onMl at z
  split at z
  · rename_i l e; exact ⟨l, e, z⟩
  · exact z.elim
theorem s_appM (i : Nat) (he : QE X e we) (hN : X.N[i]? = some x := by rfl) (hv : Vis X.env.scope x := by first | exact Or.inl rfl | exact Or.inr (Or.inl rfl) | exact Or.inr (Or.inr rfl)) (hd : (x == ("__debug__" : Str)) = false := by decide) (hcd : (x == ("__classdict__" : Str)) = false := by decide)
    (hfew : ((backTo cpos (starEach [e] X.env)).all (fun x => !x.1) && (backToKw cpos (keywordEach [] X.env)).all (fun x => x.1.isSome) && decide (([e] : List Expr).length + ([] : List Keyword).length + (if ([] : List Keyword).isEmpty then 0 else 1) < 30)) = true := by rfl)
    (hline : (apos.endLine == cpos.line) = true := by rfl) (hs : starEach [e] X.env = [(false, eval e X.env)] := by rfl) (hbase : attributeBase (.Name x p) "append" X.env (eval (.Name x p) X.env) = eval (.Name x p) X.env := by rfl) (hsw : swapsWith (.Call (.Attribute (.Name x p) "append" apos) [e] [] cpos) none spos.line X.env = pure false := by rfl) :
    QS X (.Expr (.Call (.Attribute (.Name x p) "append" apos) [e] [] cpos) spos) [] (wAppM i we) where
  mono := fun l h => onMl_mono (fun _ z => he.mono (fun m ⟨h1, h2, q⟩ => ⟨h1, h2, l.nx _ q⟩) (l.ex _) z) h
  run := fun W F0 H0 tk => psImp (ps_expr (pe_bm PySem.F.plainAttrs_list PySem.F.slot_list_append PySem.F.type_list_append mt_append (pe_var hN hv hd hcd) (pa_cons (he.run W F0 H0 tk) pa_nil hs) hbase hfew hline hs rfl) hsw) fun D σ H ⟨ρ, F, rel, z⟩ => by
    obtain ⟨ms, e0, z⟩ := onMl_isW z
    obtain ⟨v0, fp0, e1, _, q0, _⟩ := rel.get e0
    unfold RepM at q0
    obtain ⟨a, vs, f, ev, ⟨_, h2, _, _⟩, _⟩ := q0
    subst ev
    refine ⟨.ref a, e1, .inl ⟨rfl, vs, SqL.of h2⟩, ρ, F, rel, he.mono (fun m hm => ?_) (fun _ z => exq rel z) z⟩
    obtain ⟨hs, hl, q⟩ := hm
    intro v H1 F1 fp x1 r hf hn
    obtain ⟨a', vs', g1, g2, g3, fin⟩ := (rel.push x1 r hf hn).appMl hs e0
    rw [e1] at g1; cases g1
    exact ⟨a, vs', v, rfl, rfl, g2, lt_line (by rw [g3]; exact hl), q _ F1 _ x1.f fin .refl⟩
end
end RT
namespace RT
open PySem PySem.Spec PyProof.Rows L2
/-! ### instances: what is given away to a callee that changes it, and comes back -/
section
variable {K : PySem.W.Frag} {F F' H H' H0 F0 : Hp} {ρ : Sg} {σ : L2.St} {m m0 : M} {v : V} {fp : List Addr} {i : Nat}
/-- without these -/
def mins (H : Hp) (fp : List Addr) : Hp := fun a => if a ∈ fp then none else H a
theorem mins_in {a : Addr} (h : a ∈ fp) : mins H fp a = none := if_pos h
theorem mins_out {a : Addr} (h : a ∉ fp) : mins H fp a = H a := if_neg h
theorem mins_same : Same (mins H fp) H := fun a o q => by
  by_cases h : a ∈ fp
  · rw [mins_in h] at q; cases q
  · rw [mins_out h] at q; exact q
theorem Rel.give (r : Rel K F0 H0 ρ σ [] [] F H) (h : ρ[i]? = some (some m)) (hm : m.ret = true) : ∃ v fp, σ[i]? = some (some v) ∧ fp.Nodup ∧ Same F (mins H fp) ∧ RepM K F (mins H fp) H m v fp ∧
    ∀ m' v' F' H' fp', Ext F (mins H fp) F' H' → RepM K F' (mins H fp) H' m' v' fp' → m'.ret = true → fp'.Nodup → Rel K F0 H0 (ρ.set i none) σ [m'] [v'] F' H' := by
  obtain ⟨e, l, fs, ft, n1, n2, ow, dj, dt, rt, sl⟩ := r
  obtain ⟨v, h1, h2, h3⟩ := sl i m h
  have out : ∀ {a : Addr} {o : HO}, H0 a = some o → mins H (fs i) a = some o := fun {a o} q => by
    rw [mins_out fun z => by rw [(ow i a z).2.2] at q; cases q]; exact e.h _ _ q
  have nin : ∀ {a : Addr}, mins H (fs i) a = none → H0 a = none := fun {a} q => by
    cases z : H0 a with
    | none => rfl
    | some o => rw [out z] at q; cases q
  have oth : ∀ {j : Nat} {a : Addr}, j ≠ i → a ∈ fs j → ∃ o, H a = some o ∧ mins H (fs i) a = some o := fun {j a} hj ha => by
    obtain ⟨_, ⟨o, q⟩, _⟩ := ow j a ha
    exact ⟨o, q, by rw [mins_out fun z => hj (dj j i a ha z)]; exact q⟩
  refine ⟨v, fs i, h1, n2 i, fun a o q => ?_, h3.re hm fun b hb => mins_in hb, fun m' v' F' H' fp' x q hr hn => ?_⟩
  · rw [mins_out fun z => by rw [(ow i a z).1] at q; cases q]; exact e.s _ _ q
  have hf : ∀ {j : Nat} {a : Addr}, j ≠ i → a ∈ fs j → F' a = none := fun {j a} hj ha => by
    obtain ⟨o, q1, q2⟩ := oth hj ha
    cases z : F' a with
    | none => rfl
    | some u =>
      rcases x.n a u z with y | y
      · rw [(ow j a ha).1] at y; cases y
      · rw [q2] at y; cases y
  refine ⟨⟨fun a o q => x.h _ _ (out q), e.f.trans x.f, x.s, fun a o q => ?_⟩, by rw [List.length_set, l], fun j => if j = i then [] else fs j, fp', hn, fun j => ?_, fun j a ha => ?_, fun j k a ha hb => ?_, fun j a ha hb => ?_, ?_, fun j m2 hj => ?_⟩
  · rcases x.n a o q with y | y
    · exact e.n a o y
    · exact .inr (nin y)
  · dsimp only; split
    · exact List.nodup_nil
    · exact n2 j
  · dsimp only at ha; split at ha
    · cases ha
    · rename_i hj
      obtain ⟨o, q1, q2⟩ := oth hj ha
      exact ⟨hf hj ha, ⟨o, x.h _ _ q2⟩, (ow j a ha).2.2⟩
  · dsimp only at ha hb
    split at ha <;> split at hb
    · cases ha
    · cases ha
    · cases hb
    · exact dj j k a ha hb
  · dsimp only at ha; split at ha
    · cases ha
    · rename_i hj
      obtain ⟨o, q1, q2⟩ := oth hj ha
      rw [(q.own a hb).2.2] at q2; cases q2
  · unfold RepMs
    exact ⟨v', [], fp', [], rfl, (List.append_nil _).symm, q.re hr fun b hb => nin (q.own b hb).2.2, by unfold RepMs; exact ⟨rfl, rfl⟩⟩
  · dsimp only
    by_cases hji : j = i
    · subst hji
      by_cases hl : j < ρ.length
      · rw [List.getElem?_set_self hl] at hj; cases hj
      · rw [List.getElem?_eq_none (by simpa using hl)] at hj; cases hj
    · rw [if_neg hji]
      rw [List.getElem?_set_ne (Ne.symm hji)] at hj
      obtain ⟨v2, y1, y2, y3⟩ := sl j m2 hj
      refine ⟨v2, y1, y2, (y3.keep y2 fun b hb => ?_).mono ⟨x.f, .refl _, fun b hb => hf hji hb⟩⟩
      obtain ⟨o, q1, q2⟩ := oth hji hb
      rw [q1]; exact x.h _ _ q2
/-- a value, and a slot's tree beside it -/
theorem Rel.pack (r : Rel K F0 H0 ρ σ [m] [v] F H) (h : ρ[i]? = some (some m0)) : ∃ fp, RepM K F H0 H (.pk m m0) v fp ∧ fp.Nodup := by
  obtain ⟨e, l, fs, ft, n1, n2, ow, dj, dt, rt, sl⟩ := r
  obtain ⟨u, h1, h2, h3⟩ := sl i m0 h
  obtain ⟨v', e1, q⟩ := rt.one
  cases e1
  refine ⟨ft ++ fs i, ?_, List.nodup_append.mpr ⟨n1, n2 i, fun a ha b hb e => ?_⟩⟩
  · unfold RepM; exact ⟨ft, fs i, u, rfl, q, h3⟩
  · subst e; exact dt i a hb ha
theorem set_get {α : Type} {l : List α} {i : Nat} {x : α} (h : l[i]? = some x) : l.set i x = l := by
  apply List.ext_getElem?
  intro j
  by_cases hj : j = i
  · subst hj
    rw [List.getElem?_set_self (List.getElem?_eq_some_iff.mp h).1, h]
  · rw [List.getElem?_set_ne (Ne.symm hj)]
/-- an instance goes back into the slot where it stands -/
theorem Rel.backO {a : Addr} {c : Str} {fs l : _} {ts : List M} {tv : List V} {k : Md} (r : Rel K F0 H0 ρ σ (.ob a k c fs l :: ts) (v :: tv) F H) (hs : (M.ob a k c fs l).sto = true) (h : σ[i]? = some (some (.ref a))) : Rel K F0 H0 (ρ.set i (some (.ob a k c fs l))) σ ts tv F H := by
  have hv : v = .ref a := by
    obtain ⟨_, _, _, _, _, _, _, _, _, rt, _⟩ := r
    unfold RepMs at rt
    obtain ⟨u, w, f, g, e1, e2, q, z⟩ := rt
    cases e1
    unfold RepM at q
    obtain ⟨_, _, _, e, _⟩ := q
    exact e
  subst hv
  have r2 := r.set hs i
  rw [set_get h] at r2
  exact r2
theorem Rel.unpack (r : Rel K F0 H0 ρ σ [.pk m m0] [v] F H) : ∃ u, Rel K F0 H0 ρ σ [m0, m] [u, v] F H := by
  obtain ⟨e, l, fs, ft, n1, n2, ow, dj, dt, rt, sl⟩ := r
  obtain ⟨v', e1, q⟩ := rt.one
  cases e1
  unfold RepM at q
  obtain ⟨f, g, u, e2, q, z⟩ := q
  subst e2
  obtain ⟨n3, n4, n5⟩ := List.nodup_append.mp n1
  refine ⟨u, e, l, fs, g ++ f, List.nodup_append.mpr ⟨n4, n3, fun a ha b hb e => n5 b hb a ha e.symm⟩, n2, ow, dj, fun i a h h' => dt i a h ?_, ?_, sl⟩
  · rcases List.mem_append.mp h' with h' | h'
    · exact List.mem_append_right _ h'
    · exact List.mem_append_left _ h'
  · unfold RepMs
    refine ⟨u, [v], g, f, rfl, rfl, z, ?_⟩
    unfold RepMs
    exact ⟨v, [], f, [], rfl, (List.append_nil _).symm, q, by unfold RepMs; exact ⟨rfl, rfl⟩⟩
def onS (ρ : Sg) (i : Nat) (P : M → Prop) : Prop := match ρ[i]? with
  | some (some m) => P m
  | _ => False
theorem onS_mono {P P' : M → Prop} (h : ∀ m, P m → P' m) (q : onS ρ i P) : onS ρ i P' := by
  unfold onS at q ⊢; split at q <;> first | exact h _ q | exact q
theorem onS_of {P : M → Prop} (q : onS ρ i P) : ∃ m, ρ[i]? = some (some m) ∧ P m := by
  unfold onS at q; split at q <;> first | exact ⟨_, by assumption, q⟩ | exact q.elim
/-! ### contracts -/
abbrev TSpM := List M → (M → Prop) → (M → XP) → Prop
def spOw (mg : Str → Option Value) (K : PySem.W.Frag) (T : TSpM) : Sp := fun vs H Q E => ∃ F H0 ms fp, Same F H0 ∧ Same H0 H ∧ RepMs K F H0 H ms vs fp ∧ fp.Nodup ∧
  T ms (fun m => m.ret = true → ∀ v H' F' fp', Ext F H0 F' H' → RepM K F' H0 H' m v fp' → fp'.Nodup → Q v H')
    (fun m0 x => m0.ret = true → ∀ cls d u H' F' fp', Ext F H0 F' H' → RepX mg K F' H' x cls d → RepM K F' H0 H' m0 u fp' → fp'.Nodup → E cls d H')
/-- a method of class c -/
structure Mx (P : Program) (w : World) (K : PySem.W.Frag) (mg : Str → Option Value) (base : Heap) (c x : Str) (k : Nat) (ds : List D) (T : TSpM) : Prop where
  mono : ∀ {ms : List M} {Q Q' : M → Prop} {E E' : M → XP}, (∀ m, Q m → Q' m) → (∀ m x, E m x → E' m x) → T ms Q E → T ms Q' E'
  ok : ∃ f fd ps dv du, FnOk P w K mg base (L2.CX P w) k f fd ps (spOw mg K T) ∧ L2.Cls K (He.ga K c) ∧ Meth K (He.ga K c) x f ∧ Binds K fd ps du ∧ Vals dv du ∧ ∀ F, RepDs K F ds dv
theorem Mx.up {P : Program} {w : World} {mg : Str → Option Value} {base : Heap} {c x : Str} {j k : Nat} {ds : List D} {T : TSpM} (h : Mx P w K mg base c x j ds T) (l : j ≤ k) : Mx P w K mg base c x k ds T :=
  ⟨h.mono, let ⟨f, fd, ps, dv, du, F, r⟩ := h.ok; ⟨f, fd, ps, dv, du, F.mono l, r⟩⟩
/-- a method that changes nothing -/
structure Mp (P : Program) (w : World) (K : PySem.W.Frag) (mg : Str → Option Value) (base : Heap) (c x : Str) (k : Nat) (ds : List D) (T : TSp) : Prop where
  mono : ∀ {ms : List M} {Q Q' : M → Prop} {E E' : XP}, (∀ m, Q m → Q' m) → (∀ x, E x → E' x) → T ms Q E → T ms Q' E'
  ok : ∃ f fd ps dv du, FnOk P w K mg base (L2.CX P w) k f fd ps (spOf mg K T) ∧ L2.Cls K (He.ga K c) ∧ Meth K (He.ga K c) x f ∧ Binds K fd ps du ∧ Vals dv du ∧ ∀ F, RepDs K F ds dv
theorem Mp.up {P : Program} {w : World} {mg : Str → Option Value} {base : Heap} {c x : Str} {j k : Nat} {ds : List D} {T : TSp} (h : Mp P w K mg base c x j ds T) (l : j ≤ k) : Mp P w K mg base c x k ds T :=
  ⟨h.mono, let ⟨f, fd, ps, dv, du, F, r⟩ := h.ok; ⟨f, fd, ps, dv, du, F.mono l, r⟩⟩
/-- a def of the module whose arguments are given to it -/
structure FxO (P : Program) (w : World) (K : PySem.W.Frag) (mg : Str → Option Value) (base : Heap) (x : Str) (k : Nat) (ds : List D) (T : TSpM) : Prop where
  mono : ∀ {ms : List M} {Q Q' : M → Prop} {E E' : M → XP}, (∀ m, Q m → Q' m) → (∀ m x, E m x → E' m x) → T ms Q E → T ms Q' E'
  ok : ∃ f fd ps dv du, FnOk P w K mg base (L2.CX P w) k f fd ps (spOw mg K T) ∧ mg x = some (.ref f) ∧ PySem.W.keepIn K (.ref f) = true ∧ Binds K fd ps du ∧ Vals dv du ∧ ∀ F, RepDs K F ds dv
theorem FxO.up {P : Program} {w : World} {mg : Str → Option Value} {base : Heap} {x : Str} {j k : Nat} {ds : List D} {T : TSpM} (h : FxO P w K mg base x j ds T) (l : j ≤ k) : FxO P w K mg base x k ds T :=
  ⟨h.mono, let ⟨f, fd, ps, dv, du, F, r⟩ := h.ok; ⟨f, fd, ps, dv, du, F.mono l, r⟩⟩
/-- a class that is made by its name; T: its __init__ -/
structure Mkx (P : Program) (w : World) (K : PySem.W.Frag) (mg : Str → Option Value) (base : Heap) (c : Str) (k : Nat) (ds : List D) (T : TSpM) : Prop where
  mono : ∀ {ms : List M} {Q Q' : M → Prop} {E E' : M → XP}, (∀ m, Q m → Q' m) → (∀ m x, E m x → E' m x) → T ms Q E → T ms Q' E'
  ok : ∃ f fd ps dv du, FnOk P w K mg base (L2.CX P w) k f fd ps (spOw mg K T) ∧ Mk K (He.ga K c) f ∧ mg c = some (.ref (He.ga K c)) ∧ Binds K fd ps du ∧ Vals dv du ∧ ∀ F, RepDs K F ds dv
theorem Mkx.up {P : Program} {w : World} {mg : Str → Option Value} {base : Heap} {c : Str} {j k : Nat} {ds : List D} {T : TSpM} (h : Mkx P w K mg base c j ds T) (l : j ≤ k) : Mkx P w K mg base c k ds T :=
  ⟨h.mono, let ⟨f, fd, ps, dv, du, F, r⟩ := h.ok; ⟨f, fd, ps, dv, du, F.mono l, r⟩⟩
/-- a method's own reading: what becomes of self stands beside what is returned -/
def tOfM (n N : Nat) (wb : TSW) : TSpM := fun ms Q E => ms.length = n ∧ M.stos ms = true ∧ wb { nx := fun ρ => onS ρ 0 fun m0 => m0.ret = true ∧ Q (.pk (.d .non) m0), rt := Q, ex := fun ρ x => onS ρ 0 fun m0 => m0.ret = true ∧ E m0 x } (entry N ms)
/-- a def's own reading, what is given to it is gone -/
def tOfO (n N : Nat) (wb : TSW) : TSpM := fun ms Q E => ms.length = n ∧ M.stos ms = true ∧ wb { nx := fun _ => Q (.d .non), rt := Q, ex := fun _ x => E (.d .non) x } (entry N ms)
theorem reps_split : ∀ {ms : List M} {vs : List V} {fp : List Addr}, RepMs K F H0 H ms vs fp → fp.Nodup → ∃ fs : Nat → List Addr, (∀ i, (fs i).Nodup) ∧ (∀ i a, a ∈ fs i → a ∈ fp) ∧ (∀ i j a, a ∈ fs i → a ∈ fs j → i = j) ∧ ∀ i m, ms[i]? = some m → ∃ v, vs[i]? = some v ∧ RepM K F H0 H m v (fs i)
  | [], _, _, _, _ => ⟨fun _ => [], fun _ => List.nodup_nil, fun _ _ h => (by cases h), fun _ _ _ h => (by cases h), fun _ _ h => (by simp at h)⟩
  | m :: ms, vs, fp, r, n => by
    unfold RepMs at r
    obtain ⟨v, w, f, g, e1, e2, q, z⟩ := r
    subst e1; subst e2
    obtain ⟨n1, n2, n3⟩ := List.nodup_append.mp n
    obtain ⟨fs, a1, a2, a3, a4⟩ := reps_split z n2
    refine ⟨fun i => match i with | 0 => f | i + 1 => fs i, fun i => ?_, fun i a h => ?_, fun i j a h h' => ?_, fun i m' h => ?_⟩
    · cases i with
      | zero => exact n1
      | succ i => exact a1 i
    · cases i with
      | zero => exact List.mem_append_left _ h
      | succ i => exact List.mem_append_right _ (a2 i a h)
    · cases i with
      | zero =>
        cases j with
        | zero => rfl
        | succ j => exact absurd rfl (n3 a h a (a2 j a h'))
      | succ i =>
        cases j with
        | zero => exact absurd rfl (n3 a h' a (a2 i a h))
        | succ j => rw [a3 i j a h h']
    · cases i with
      | zero => simp at h; subst h; exact ⟨v, rfl, q⟩
      | succ i =>
        obtain ⟨u, h1, h2⟩ := a4 i m' (by simpa using h)
        exact ⟨u, by simpa using h1, h2⟩
theorem stos_all : ∀ {ms : List M}, M.stos ms = true → ∀ m ∈ ms, m.sto = true
  | [], _, m, hm => by cases hm
  | x :: xs, h, m, hm => by
    unfold M.stos at h
    rw [Bool.and_eq_true] at h
    rcases List.mem_cons.mp hm with rfl | hm
    · exact h.1
    · exact stos_all h.2 m hm
theorem rel_entryO {N : List Str} {ms : List M} {vs : List V} (s : Same F H0) (s2 : Same H0 H) (r : RepMs K F H0 H ms vs fp) (hn : fp.Nodup) (hs : M.stos ms = true) : Rel K F H0 (entry N.length ms) (L2.start N vs) [] [] F H := by
  have hl := r.length
  obtain ⟨fs, a1, a2, a3, a4⟩ := reps_split r hn
  refine ⟨⟨s2, .refl _, s.trans s2, fun _ _ e => .inl e⟩, ?_, fs, [], List.nodup_nil, a1, fun i a h => r.own a (a2 i a h), a3, fun _ _ _ h => (by cases h), by unfold RepMs; exact ⟨rfl, rfl⟩, fun i m e => ?_⟩
  · unfold entry L2.start
    rw [List.length_append, List.length_append, List.length_map, List.length_map, List.length_replicate, List.length_replicate, hl]
  · have hi : i < ms.length := by
      by_cases hi : i < ms.length
      · exact hi
      · unfold entry at e
        rw [List.getElem?_append_right (by simpa using hi), List.getElem?_replicate] at e
        split at e <;> cases e
    unfold entry at e
    rw [List.getElem?_append_left (by simpa using hi), List.getElem?_map] at e
    cases q : ms[i]? with
    | none => rw [q] at e; cases e
    | some m' =>
      rw [q] at e; cases e
      obtain ⟨v, h1, h2⟩ := a4 i m q
      refine ⟨v, ?_, stos_all hs m (List.mem_of_getElem? q), h2⟩
      unfold L2.start
      rw [List.getElem?_append_left (by rw [List.length_map, ← hl]; exact hi), List.getElem?_map, h1]; rfl
end
section
variable {fa : List He.Fa} {fn : List He.DefD} {h : Heap} {P : Program} {w : World} {K : PySem.W.Frag} {mg : Str → Option Value} {base : Heap}
variable {N ps : List Str} {k : Nat} {wb : TSW} {d : He.DefD} {dvs : List V} {kws : List (Str × V)} {f : Addr} {fd : FuncData} {c x : Str}
theorem pkret {m m0 : M} (h : m.ret = true) (h0 : m0.ret = true) : (M.pk m m0).ret = true := by unfold M.ret; rw [h, h0]; rfl
theorem fnD_okM (F : FunD K d.name d.qual d.params d.body d.scope dvs kws f fd) (S : FnScope N ps d.scope) (B : Body P w K mg base k N d wb) :
    FnOk P w K mg base (L2.CX P w) (k + 1) f fd ps (spOw mg K (tOfM ps.length N.length wb)) := by
  refine F.ok S (fun vs H Q E hs => ?_) (fun cdv A outer s H vs Q E hr hs => ?_)
  · obtain ⟨F, H0, ms, fp, s1, s2, r, n, t⟩ := hs
    rw [← r.length]; exact t.1
  · obtain ⟨F, H0, ms, fp, s1, s2, r, n, t⟩ := hs
    obtain ⟨as, B⟩ := B f cdv A outer s H E hr
    refine ⟨_, B.run (fun cls d _ H' => E cls d H') F H0 (takes_of rfl rfl rfl rfl), entry N.length ms, F, rel_entryO s1 s2 r n t.2.1, B.mono ?_ t.2.2⟩
    refine ⟨fun ρ q => ?_, fun m q => ?_, fun _ z => z.elim, fun _ z => z.elim, fun ρ x q => ?_⟩
    · intro σ' F' H' s1 rel f1
      obtain ⟨m0, e, hm, q⟩ := onS_of q
      obtain ⟨fp, r1, n1⟩ := (rel.push (.refl rel.s) (RepM.d .non) (fun _ z => nomatch z) List.nodup_nil).pack e
      exact q (pkret (by unfold M.ret; rfl) hm) .non H' F' fp rel.e r1 n1
    · intro hr v F' H' fp s1 x1 rm hn
      exact q hr v H' F' fp x1 rm hn
    · intro cls d σ' F' H' rel rx
      obtain ⟨m0, e, hm, q⟩ := onS_of q
      obtain ⟨v, fp, _, _, r1, n1⟩ := rel.get e
      exact q hm cls d v H' F' fp rel.e rx r1 n1
theorem fnD_okO (F : FunD K d.name d.qual d.params d.body d.scope dvs kws f fd) (S : FnScope N ps d.scope) (B : Body P w K mg base k N d wb) :
    FnOk P w K mg base (L2.CX P w) (k + 1) f fd ps (spOw mg K (tOfO ps.length N.length wb)) := by
  refine F.ok S (fun vs H Q E hs => ?_) (fun cdv A outer s H vs Q E hr hs => ?_)
  · obtain ⟨F, H0, ms, fp, s1, s2, r, n, t⟩ := hs
    rw [← r.length]; exact t.1
  · obtain ⟨F, H0, ms, fp, s1, s2, r, n, t⟩ := hs
    obtain ⟨as, B⟩ := B f cdv A outer s H E hr
    refine ⟨_, B.run (fun cls d _ H' => E cls d H') F H0 (takes_of rfl rfl rfl rfl), entry N.length ms, F, rel_entryO s1 s2 r n t.2.1, B.mono ?_ t.2.2⟩
    refine ⟨fun ρ q => ?_, fun m q => ?_, fun _ z => z.elim, fun _ z => z.elim, fun ρ x q => ?_⟩
    · intro σ' F' H' s1 rel f1
      exact q (by unfold M.ret; rfl) .non H' F' [] rel.e (.d .non) List.nodup_nil
    · intro hr v F' H' fp s1 x1 rm hn
      exact q hr v H' F' fp x1 rm hn
    · intro cls d σ' F' H' rel rx
      exact q (by unfold M.ret; rfl) cls d .non H' F' [] rel.e rx (.d .non) List.nodup_nil
theorem tOfM_mono {n m : Nat} (B : Body P w K mg base k N d wb) (hr : Room (k + 1) callerA) {ms : List M} {Q Q' : M → Prop} {E E' : M → XP} (hq : ∀ m, Q m → Q' m) (he : ∀ m x, E m x → E' m x) (t : tOfM n m wb ms Q E) : tOfM n m wb ms Q' E' :=
  ⟨t.1, t.2.1, B.mono hr (D := { nx := fun ρ => onS ρ 0 fun m0 => m0.ret = true ∧ Q (.pk (.d .non) m0), rt := Q, ex := fun ρ x => onS ρ 0 fun m0 => m0.ret = true ∧ E m0 x }) (D' := { nx := fun ρ => onS ρ 0 fun m0 => m0.ret = true ∧ Q' (.pk (.d .non) m0), rt := Q', ex := fun ρ x => onS ρ 0 fun m0 => m0.ret = true ∧ E' m0 x }) ⟨fun _ => onS_mono fun _ z => ⟨z.1, hq _ z.2⟩, hq, fun _ z => z, fun _ z => z, fun _ x => onS_mono fun _ z => ⟨z.1, he _ _ z.2⟩⟩ t.2.2⟩
theorem tOfO_mono {n m : Nat} (B : Body P w K mg base k N d wb) (hr : Room (k + 1) callerA) {ms : List M} {Q Q' : M → Prop} {E E' : M → XP} (hq : ∀ m, Q m → Q' m) (he : ∀ m x, E m x → E' m x) (t : tOfO n m wb ms Q E) : tOfO n m wb ms Q' E' :=
  ⟨t.1, t.2.1, B.mono hr (D := { nx := fun _ => Q (.d .non), rt := Q, ex := fun _ x => E (.d .non) x }) (D' := { nx := fun _ => Q' (.d .non), rt := Q', ex := fun _ x => E' (.d .non) x }) ⟨fun _ => hq _, hq, fun _ z => z, fun _ z => z, fun _ x => he _ x⟩ t.2.2⟩
theorem meth_cls {i1 i2 : Nat} (Z : Top fa fn h K mg) (hc : fa[i1]? = some (.cls c)) (hm : fa[i2]? = some (.meth c x)) : L2.Cls K (He.ga K c) ∧ Meth K (He.ga K c) x (He.ma K (He.ga K c) x) := ⟨He.cls_ok (Z.c.fact i1 hc), He.meth_ok (Z.c.fact i2 hm)⟩
/-- a method without defaults -/
theorem mx_of (Z : Top fa fn h K mg) (i i1 i2 : Nat) (S : FnScope N ps d.scope) (B : Body P w K mg base k N d wb) (hk : Room (k + 1) callerA)
    (hd : fn[i]? = some d := by rfl) (hc : fa[i1]? = some (.cls c) := by rfl) (hm : fa[i2]? = some (.meth c x) := by rfl) (hat : d.at_ = (c, some x) := by rfl) (h0 : d.dfl = [] := by rfl) (hkw : d.kwd = [] := by rfl)
    (hb : ∀ (kV doc pm : Value) (an : Option Addr) (cdv ct : Value) (us : List Value), us.length = ps.length → bindArgs (PySem.W.fnOf d.name d.qual d.params d.body d.scope .none kV doc pm an cdv ct) ⟨us, []⟩ = pure (ps.zip us)) :
    Mx P w K mg base c x (k + 1) [] (tOfM ps.length N.length wb) where
  mono := fun hq he t => tOfM_mono B hk hq he t
  ok := by
    obtain ⟨fd, F⟩ := Z.c.def_ i hd
    have e1 : d.dvs K = [] := by unfold He.DefD.dvs; rw [h0]; rfl
    have e2 : d.kws K = [] := by unfold He.DefD.kws; rw [hkw]; rfl
    rw [e1, e2] at F
    obtain ⟨C, Mt⟩ := meth_cls Z hc hm
    have ea : He.fAd K d.at_ = He.ma K (He.ga K c) x := by rw [hat]; rfl
    rw [ea] at F
    exact ⟨_, fd, ps, [], [], fnD_okM F S B, C, Mt, F.bindsN hb, .nil, fun F => .nil⟩
theorem mp_of (Z : Top fa fn h K mg) (i i1 i2 : Nat) (S : FnScope N ps d.scope) (B : Body P w K mg base k N d wb) (hk : Room (k + 1) callerA)
    (hd : fn[i]? = some d := by rfl) (hc : fa[i1]? = some (.cls c) := by rfl) (hm : fa[i2]? = some (.meth c x) := by rfl) (hat : d.at_ = (c, some x) := by rfl) (h0 : d.dfl = [] := by rfl) (hkw : d.kwd = [] := by rfl)
    (hb : ∀ (kV doc pm : Value) (an : Option Addr) (cdv ct : Value) (us : List Value), us.length = ps.length → bindArgs (PySem.W.fnOf d.name d.qual d.params d.body d.scope .none kV doc pm an cdv ct) ⟨us, []⟩ = pure (ps.zip us)) :
    Mp P w K mg base c x (k + 1) [] (tOf ps.length N.length wb) where
  mono := fun hq he t => tOf_mono B hk hq he t
  ok := by
    obtain ⟨fd, F⟩ := Z.c.def_ i hd
    have e1 : d.dvs K = [] := by unfold He.DefD.dvs; rw [h0]; rfl
    have e2 : d.kws K = [] := by unfold He.DefD.kws; rw [hkw]; rfl
    rw [e1, e2] at F
    obtain ⟨C, Mt⟩ := meth_cls Z hc hm
    have ea : He.fAd K d.at_ = He.ma K (He.ga K c) x := by rw [hat]; rfl
    rw [ea] at F
    exact ⟨_, fd, ps, [], [], fnD_ok F S B, C, Mt, F.bindsN hb, .nil, fun F => .nil⟩
theorem mkx_of (Z : Top fa fn h K mg) (i i1 i2 i3 : Nat) (S : FnScope N ps d.scope) (B : Body P w K mg base k N d wb) (hk : Room (k + 1) callerA)
    (hd : fn[i]? = some d := by rfl) (hg : fa[i1]? = some (.glo c) := by rfl) (hmk : fa[i2]? = some (.mkr c) := by rfl) (hat : d.at_ = (c, some ("__init__" : Str)) := by rfl) (h0 : d.dfl = [] := by rfl) (hkw : d.kwd = [] := by rfl)
    (hb : ∀ (kV doc pm : Value) (an : Option Addr) (cdv ct : Value) (us : List Value), us.length = ps.length → bindArgs (PySem.W.fnOf d.name d.qual d.params d.body d.scope .none kV doc pm an cdv ct) ⟨us, []⟩ = pure (ps.zip us)) :
    Mkx P w K mg base c (k + 1) [] (tOfM ps.length N.length wb) where
  mono := fun hq he t => tOfM_mono B hk hq he t
  ok := by
    obtain ⟨fd, F⟩ := Z.c.def_ i hd
    have e1 : d.dvs K = [] := by unfold He.DefD.dvs; rw [h0]; rfl
    have e2 : d.kws K = [] := by unfold He.DefD.kws; rw [hkw]; rfl
    rw [e1, e2] at F
    have ea : He.fAd K d.at_ = He.ma K (He.ga K c) "__init__" := by rw [hat]; rfl
    rw [ea] at F
    exact ⟨_, fd, ps, [], [], fnD_okM F S B, He.mkr_ok (Z.c.fact i2 hmk), Z.glo i1 hg, F.bindsN hb, .nil, fun F => .nil⟩
/-- .. whose last argument is None by default: not given -/
theorem mkx_ofN {n : Nat} (Z : Top fa fn h K mg) (i i1 i2 i3 : Nat) (S : FnScope N ps d.scope) (B : Body P w K mg base k N d wb) (hk : Room (k + 1) callerA) (hn : n + 1 = ps.length)
    (hb : ∀ (T : Addr) (kV doc pm : Value) (an : Option Addr) (cdv ct : Value) (us its : List Value), us.length = n → its.length = 1 →
      ∃ k, bindArgs (PySem.W.fnOf d.name d.qual d.params d.body d.scope (.ref T) kV doc pm an cdv ct) ⟨us, []⟩ = seqItems? (.ref T) >>= k ∧ k (some its.toArray) = pure (ps.zip (us ++ its)))
    (hd : fn[i]? = some d := by rfl) (hg : fa[i1]? = some (.glo c) := by rfl) (hmk : fa[i2]? = some (.mkr c) := by rfl) (hat : d.at_ = (c, some ("__init__" : Str)) := by rfl) (h0 : d.dfl = [.non] := by rfl) (hkw : d.kwd = [] := by rfl) :
    Mkx P w K mg base c (k + 1) [.non] (tOfM ps.length N.length wb) where
  mono := fun hq he t => tOfM_mono B hk hq he t
  ok := by
    obtain ⟨fd, F⟩ := Z.c.def_ i hd
    have e1 : d.dvs K = [.non] := by unfold He.DefD.dvs; rw [h0]; rfl
    have e2 : d.kws K = [] := by unfold He.DefD.kws; rw [hkw]; rfl
    rw [e1, e2] at F
    have ea : He.fAd K d.at_ = He.ma K (He.ga K c) "__init__" := by rw [hat]; rfl
    rw [ea] at F
    obtain ⟨ds, hv, hB⟩ := F.binds1 n 0 (by simp) (by simpa using hn) hb
    exact ⟨_, fd, ps, [.non], ds, fnD_okM F S B, He.mkr_ok (Z.c.fact i2 hmk), Z.glo i1 hg, hB, hv, fun F => .cons .non .nil⟩
theorem mkx_ofA (Z : Top fa fn h K mg) (i i1 i2 i3 : Nat) (S : FnScope N ps d.scope) (B : Body P w K mg base k N d wb) (hk : Room (k + 1) callerA)
    (hb : ∀ (T : Addr) (kV doc pm : Value) (an : Option Addr) (cdv ct : Value) (us its : List Value), us.length = ps.length → its.length = 1 →
      ∃ k, bindArgs (PySem.W.fnOf d.name d.qual d.params d.body d.scope (.ref T) kV doc pm an cdv ct) ⟨us, []⟩ = seqItems? (.ref T) >>= k ∧ k (some its.toArray) = pure (ps.zip (us ++ its.drop 1)))
    (hd : fn[i]? = some d := by rfl) (hg : fa[i1]? = some (.glo c) := by rfl) (hmk : fa[i2]? = some (.mkr c) := by rfl) (hat : d.at_ = (c, some ("__init__" : Str)) := by rfl) (h0 : d.dfl = [.non] := by rfl) (hkw : d.kwd = [] := by rfl) :
    Mkx P w K mg base c (k + 1) [] (tOfM ps.length N.length wb) where
  mono := fun hq he t => tOfM_mono B hk hq he t
  ok := by
    obtain ⟨fd, F⟩ := Z.c.def_ i hd
    have e1 : d.dvs K = [.non] := by unfold He.DefD.dvs; rw [h0]; rfl
    have e2 : d.kws K = [] := by unfold He.DefD.kws; rw [hkw]; rfl
    rw [e1, e2] at F
    have ea : He.fAd K d.at_ = He.ma K (He.ga K c) "__init__" := by rw [hat]; rfl
    rw [ea] at F
    obtain ⟨ds, hv, hB⟩ := F.binds1 ps.length 1 (by simp) (by simp) hb
    have : ds = [] := by
      have := hv.length
      simpa using this.symm
    subst this
    exact ⟨_, fd, ps, [], [], fnD_okM F S B, He.mkr_ok (Z.c.fact i2 hmk), Z.glo i1 hg, hB, .nil, fun F => .nil⟩
theorem fxo_of (Z : Top fa fn h K mg) (i j : Nat) (S : FnScope N ps d.scope) (B : Body P w K mg base k N d wb) (hk : Room (k + 1) callerA)
    (hd : fn[i]? = some d := by rfl) (hg : fa[j]? = some (.glo x) := by rfl) (hat : d.at_ = (x, none) := by rfl) (h0 : d.dfl = [] := by rfl) (hkw : d.kwd = [] := by rfl)
    (hb : ∀ (kV doc pm : Value) (an : Option Addr) (cdv ct : Value) (us : List Value), us.length = ps.length → bindArgs (PySem.W.fnOf d.name d.qual d.params d.body d.scope .none kV doc pm an cdv ct) ⟨us, []⟩ = pure (ps.zip us)) :
    FxO P w K mg base x (k + 1) [] (tOfO ps.length N.length wb) where
  mono := fun hq he t => tOfO_mono B hk hq he t
  ok := by
    obtain ⟨fd, F⟩ := Z.c.def_ i hd
    have e1 : d.dvs K = [] := by unfold He.DefD.dvs; rw [h0]; rfl
    have e2 : d.kws K = [] := by unfold He.DefD.kws; rw [hkw]; rfl
    rw [e1, e2] at F
    have hgl := Z.glo j hg
    have ea : He.fAd K d.at_ = He.ga K x := by rw [hat]; rfl
    rw [ea] at F
    exact ⟨_, fd, ps, [], [], fnD_okO F S B, hgl, F.kp, F.bindsN hb, .nil, fun F => .nil⟩
end
end RT
namespace RT
open PySem PySem.Spec PyProof.Rows L2
/-! ### fields, methods -/
structure MonoT (T : TSpM) : Prop where
  of : ∀ {ms : List M} {Q Q' : M → Prop} {E E' : M → XP}, (∀ m, Q m → Q' m) → (∀ m x, E m x → E' m x) → T ms Q E → T ms Q' E'
def fix (f : Str) : List Str → Option Nat
  | [] => none
  | k :: ks => if (f == k) = true then some 0 else (fix f ks).map (· + 1)
theorem fix_none {f : Str} : ∀ {kvs : List (Str × V)}, fix f (kvs.map (·.1)) = none → kvs.lookup f = none
  | [], _ => rfl
  | (k, v) :: r, h => by
    unfold fix at h
    rw [List.map_cons] at h
    by_cases c : (f == k) = true
    · simp only [c, if_true] at h; cases h
    · simp only [c, if_false] at h
      rw [List.lookup_cons]
      simp only [c]
      refine fix_none ?_
      cases q : fix f (r.map (·.1)) with
      | none => rfl
      | some j => rw [q] at h; cases h
theorem fix_some {f : Str} : ∀ {kvs : List (Str × V)} {j : Nat}, fix f (kvs.map (·.1)) = some j → kvs.lookup f = (kvs.map (·.2))[j]?
  | [], _, h => by cases h
  | (k, v) :: r, j, h => by
    unfold fix at h
    rw [List.map_cons] at h
    rw [List.lookup_cons]
    by_cases c : (f == k) = true
    · simp only [c, if_true] at h ⊢; cases h; rfl
    · simp only [c, if_false] at h ⊢
      cases q : fix f (r.map (·.1)) with
      | none => rw [q] at h; cases h
      | some i =>
        rw [q] at h; cases h
        rw [fix_some q]; rfl
section
variable {X : Cx} {F F' H H' H0 F0 : Hp} {ρ : Sg} {σ : L2.St} {m m0 : M} {v : V} {fp : List Addr} {i : Nat} {W : WX}
variable {e o : Expr} {es : List Expr} {we wo : TW} {w : TAW} {pos p apos spos : Pos} {x f y c : Str} {k : Nat} {dd : List D}
def onOb (ρ : Sg) (i : Nat) (P : Addr → Str → List Str → List M → Prop) : Prop := match ρ[i]? with
  | some (some (.ob a .o c fs l)) => P a c fs l
  | _ => False
theorem onOb_mono {P P' : Addr → Str → List Str → List M → Prop} (h : ∀ a c fs l, P a c fs l → P' a c fs l) (q : onOb ρ i P) : onOb ρ i P' := by
  unfold onOb at q ⊢; split at q <;> first | exact h _ _ _ _ q | exact q
theorem onOb_of {P : Addr → Str → List Str → List M → Prop} (q : onOb ρ i P) : ∃ a c fs l, ρ[i]? = some (some (.ob a .o c fs l)) ∧ P a c fs l := by
  unfold onOb at q; split at q <;> first | exact ⟨_, _, _, _, by assumption, q⟩ | exact q.elim
def isPk (a : Addr) (r : M) (P : M → M → Prop) : Prop := match r with
  | .pk m (.ob a' .o c fs l) => a' = a ∧ P m (.ob a .o c fs l)
  | _ => False
theorem isPk_mono {a : Addr} {r : M} {P P' : M → M → Prop} (h : ∀ m m0, P m m0 → P' m m0) (q : isPk a r P) : isPk a r P' := by
  unfold isPk at q ⊢; split at q <;> first | exact ⟨q.1, h _ _ q.2⟩ | exact q
theorem isPk_of {a : Addr} {r : M} {P : M → M → Prop} (q : isPk a r P) : ∃ m c fs l, r = .pk m (.ob a .o c fs l) ∧ P m (.ob a .o c fs l) := by
  unfold isPk at q; split at q
  · obtain ⟨e, q⟩ := q; subst e; exact ⟨_, _, _, _, rfl, q⟩
  · exact q.elim
def isOb (a : Addr) (m0 : M) (P : M → Prop) : Prop := match m0 with
  | .ob a' .o c fs l => a' = a ∧ P (.ob a .o c fs l)
  | _ => False
theorem isOb_mono {a : Addr} {P P' : M → Prop} (h : ∀ m, P m → P' m) (q : isOb a m0 P) : isOb a m0 P' := by
  unfold isOb at q ⊢; split at q <;> first | exact ⟨q.1, h _ q.2⟩ | exact q
theorem isOb_of {a : Addr} {P : M → Prop} (q : isOb a m0 P) : ∃ c fs l, m0 = .ob a .o c fs l ∧ P (.ob a .o c fs l) := by
  unfold isOb at q; split at q
  · obtain ⟨e, q⟩ := q; subst e; exact ⟨_, _, _, rfl, q⟩
  · exact q.elim
/-- where an instance stands -/
theorem ob_at {a : Addr} {md : Md} {fs : List Str} {l : List M} (z : Same H0 H) (r : RepM X.K F H0 H (.ob a md c fs l) v fp) : v = .ref a ∧ ∃ dx kvs f, H a = some (.ins (He.ga X.K c) dx kvs) ∧ kvs.map (·.1) = fs ∧ RepMs X.K F H0 H l (kvs.map (·.2)) f := by
  unfold RepM at r
  obtain ⟨dx, kvs, f, e, q, e2, r⟩ := r
  exact ⟨e, dx, kvs, f, q.now z, e2, r⟩
theorem ob_slot {a : Addr} {md : Md} {fs : List Str} {l : List M} (rel : Rel X.K F0 H0 ρ σ [] [] F H) (e : ρ[i]? = some (some (.ob a md c fs l))) : σ[i]? = some (some (.ref a)) ∧ ∃ dx kvs, H a = some (.ins (He.ga X.K c) dx kvs) ∧ kvs.map (·.1) = fs := by
  obtain ⟨v, fp, e1, _, q, _⟩ := rel.get e
  obtain ⟨e2, dx, kvs, f, h1, h2, _⟩ := ob_at rel.e.h q
  exact ⟨by rw [e1, e2], dx, kvs, h1, h2⟩
/-- a call to which a slot's own tree is given -/
theorem give_call {T : TSpM} {Qm : M → Prop} {Em : M → XP} {ds : List D} {us : List V} {Qh : VK} {E : XK} (mono : MonoT T)
    (rel : Rel X.K F0 H0 ρ σ [] [] F H) (e0 : ρ[i]? = some (some m)) (hr : m.ret = true) (rd : RepDs X.K F ds us) (h : T (m :: ds.map .d) Qm Em)
    (hQ : ∀ r v F' H', r.ret = true → Same F F' → Rel X.K F0 H0 (ρ.set i none) σ [r] [v] F' H' → Qm r → Qh v H')
    (hE : ∀ m0 x cls d u F' H', m0.ret = true → Rel X.K F0 H0 (ρ.set i none) σ [m0] [u] F' H' → RepX X.mg X.K F' H' x cls d → Em m0 x → E cls d H') :
    ∃ v, σ[i]? = some (some v) ∧ spOw X.mg X.K T (v :: us) H Qh E := by
  obtain ⟨v, fp, h1, n, sF, q, fin⟩ := rel.give e0 hr
  refine ⟨v, h1, F, mins H fp, m :: ds.map .d, fp, sF, mins_same, ?_, n, mono.of (fun r q => ?_) (fun m0 x q => ?_) h⟩
  · unfold RepMs
    exact ⟨v, us, fp, [], rfl, (List.append_nil _).symm, q, reps_d rd⟩
  · intro hret v' H' F' fp' x rr nn
    exact hQ r v' F' H' hret x.f (fin r v' F' H' fp' x rr hret nn) q
  · intro hret cls d u H' F' fp' xx rx r0 nn
    exact hE m0 x cls d u F' H' hret (fin m0 u F' H' fp' xx r0 hret nn) rx q
/-- o.m(..), what is raised is wished for at the caller's slots -/
def tMethSD (C : Addr) (m : Str) (sp : Sp) (dvs : List V) (E : L2.St → XK) (ta : TE) (t : TA) : TE := fun σ H Q => ta σ H fun x H1 => ∃ a dx fs, x = .ref a ∧ H1 a = some (.ins C dx fs) ∧ fs.lookup m = none ∧
  t σ H1 fun vs H2 => sp (x :: (vs ++ dvs)) H2 Q (E σ)
section
variable {CX : CXT} {C fa : Addr} {fd : FuncData} {ps : List Str} {sp : Sp} {dvs : List V} {ds : List Value} {E : L2.St → XK} {ta : TE} {t : TA}
theorem pe_methSD {pl : Sem Bool} (he : PE X o ta) (c : L2.Cls X.K C) (hm : Meth X.K C x fa) (F : FnOk X.prog X.w X.K X.mg X.base CX k fa fd ps sp) (hr : Room k X.A) (hb : Binds X.K fd ps ds) (hd : Vals dvs ds) (hx : ∀ σ, PassesAt CX X σ (E σ)) (ha : PA X (e :: es) t)
    (hst : starEach (e :: es) X.env = (false, eval e X.env) :: starEach es X.env := by rfl) (hpl : (backTo pos (starEach es X.env)).any (·.1) = false := by rfl)
    (ht : eval (.Call (.Attribute o x apos) (e :: es) [] pos) X.env = (do
      let ov ← eval o X.env
      standAt apos.atName
      let (f, first) ← holding [ov] (getMethod ov x pl)
      callWith pos f first (backTo pos (starEach (e :: es) X.env)) (backToKw pos (keywordEach [] X.env))) := by rfl) :
    PE X (.Call (.Attribute o x apos) (e :: es) [] pos) (tMethSD C x sp dvs E ta t) := by
  refine ⟨fun pins s σ H Q I h => ?_⟩
  refine PySem.W.methodCall_KW (pl := pl) (thn (he.run pins s σ H _ I h) fun u s1 ⟨z, H1, I1, rx, a, dx, fs, ex, ea, l, q⟩ => ?_) ht
  subst ex
  obtain rfl : u = Value.ref a := rx
  refine getmeth_ok I1 ea c hm l ?_
  refine PySem.W.callWith_K (first := [.ref a]) (h₀ := X.base) I.ok.mod.kin hm.kp (thn (ha.run pos pins s1 σ H1 _ I1 q) fun us s2 ⟨vs, H2, I2, r, q2⟩ => ⟨I2.kIn, ?_⟩) hst hpl
  exact run_fnSD (us := .ref a :: us) (vs := .ref a :: vs) F hr hb hd (hx σ) I2 (.cons rfl r) q2
theorem pe_methSD0 {pl : Sem Bool} (he : PE X o ta) (c : L2.Cls X.K C) (hm : Meth X.K C x fa) (F : FnOk X.prog X.w X.K X.mg X.base CX k fa fd ps sp) (hr : Room k X.A) (hb : Binds X.K fd ps ds) (hd : Vals dvs ds) (hx : ∀ σ, PassesAt CX X σ (E σ))
    (ht : eval (.Call (.Attribute o x apos) [] [] pos) X.env = (do
      let ov ← eval o X.env
      standAt apos.atName
      let (f, first) ← holding [ov] (getMethod ov x pl)
      callWith pos f first (backTo pos (starEach [] X.env)) (backToKw pos (keywordEach [] X.env))) := by rfl) :
    PE X (.Call (.Attribute o x apos) [] [] pos) (tMethSD C x sp dvs E ta tNil) := by
  refine ⟨fun pins s σ H Q I h => ?_⟩
  refine PySem.W.methodCall_KW (pl := pl) (thn (he.run pins s σ H _ I h) fun u s1 ⟨z, H1, I1, rx, a, dx, fs, ex, ea, l, q⟩ => ?_) ht
  subst ex
  obtain rfl : u = Value.ref a := rx
  refine getmeth_ok I1 ea c hm l ?_
  exact PySem.W.callWith_K0 (first := [.ref a]) I1.kIn hm.kp (run_fnSD (us := [.ref a]) (vs := [.ref a]) F hr hb hd (hx σ) I1 (.cons rfl .nil) q)
/-- C(..) -/
def tMakeSD (C : Addr) (sp : Sp) (dvs : List V) (E : L2.St → XK) (t : TA) : TE := fun σ H Q => t σ H fun vs H1 => ∀ x dx, H1 x = none → H1 dx = none → dx ≠ x →
  sp (.ref x :: (vs ++ dvs)) (L2.upd (L2.upd H1 dx (.own x)) x (.ins C dx [])) (fun v H2 => v = .non ∧ Q (.ref x) H2) (E σ)
theorem run_makeSD {pins : List (Addr × Obj)} {s : Shared} {Q : VK} {us : List Value} {vs : List V} (M : Mk X.K C fa) (F : FnOk X.prog X.w X.K X.mg X.base CX k fa fd ps sp) (hr : Room (k + 1) X.A) (hb : Binds X.K fd ps ds) (hd : Vals dvs ds)
    (hx : PassesAt CX X σ (E σ)) (I : Inv X pins σ H s) (r : Vals vs us)
    (h : ∀ x dx, H x = none → H dx = none → dx ≠ x → sp (.ref x :: (vs ++ dvs)) (L2.upd (L2.upd H dx (.own x)) x (.ins C dx [])) (fun v H2 => v = .non ∧ Q (.ref x) H2) (E σ)) :
    wpAny (model X.prog X.w) X.A (call (.ref C) us) (EP X pins σ Q) X.xe s := by
  have hq := h (s.heap.objs.size + 1) s.heap.objs.size (I.hok.fresh (Nat.le_succ _)) (I.hok.fresh (Nat.le_refl _)) (Nat.ne_of_lt (Nat.lt_succ_self _))
  have I2 := Inv.made (C := C) I
  have r2 : Vals (V.ref (s.heap.objs.size + 1) :: (vs ++ dvs)) (Value.ref (s.heap.objs.size + 1) :: (us ++ ds)) := .cons rfl (r.append hd)
  have hl : (Value.ref (s.heap.objs.size + 1) :: us ++ ds).length = ps.length := by
    have e := r2.length
    rw [F.len _ _ _ _ hq] at e
    exact e.symm
  refine wpAny_call (make_map (f := fa) I.kIn M.makes M.init (beq_iff_eq.mp M.fn) (codeAny_mono (F.run _ X.stack _ _ ⟨Value.ref (s.heap.objs.size + 1) :: us, []⟩ (Value.ref (s.heap.objs.size + 1) :: (us ++ ds)) _ _ (E σ) (hr.make C us [])
    (I2.env0.make C us []) (hb _ (Value.ref (s.heap.objs.size + 1) :: us) I2.kIn hl) r2 hq) fun r s' hq' => ?_))
  cases r with
  | error e => exact hx pins _ _ e s' I2 hq'
  | ok fl =>
    cases fl with
    | ret u =>
      obtain ⟨v, H', I3, rv, ev, q3⟩ := I2.after hq'
      subst ev
      exact ⟨rv, ⟨V.ref (s.heap.objs.size + 1), H', I3, rfl, q3⟩⟩
    | next => exact False.elim hq'
    | brk => exact False.elim hq'
    | cont => exact False.elim hq'
theorem pe_makeSD (M : Mk X.K C fa) (F : FnOk X.prog X.w X.K X.mg X.base CX k fa fd ps sp) (hr : Room (k + 1) X.A) (hg : Gl X x) (hm : X.mg x = some (.ref C)) (hb : Binds X.K fd ps ds) (hd : Vals dvs ds) (hx : ∀ σ, PassesAt CX X σ (E σ))
    (ha : PA X (e :: es) t) (hdb : (x == ("__debug__" : Str)) = false := by decide) (he : starEach (e :: es) X.env = (false, eval e X.env) :: starEach es X.env := by rfl) (hpl : (backTo pos (starEach es X.env)).any (·.1) = false := by rfl) :
    PE X (.Call (.Name x p) (e :: es) [] pos) (tMakeSD C sp dvs E t) := by
  refine ⟨fun pins s σ H Q I h => ?_⟩
  refine wpAny_Call_Name_kw (ld_glob I hg hm ?_ hdb)
  refine PySem.W.callWith_K (h₀ := X.base) I.ok.mod.kin M.kp (thn (ha.run pos pins s σ H _ I h) fun us s1 ⟨vs, H1, I1, r, q⟩ => ⟨I1.kIn, ?_⟩) he hpl
  exact run_makeSD M F hr hb hd (hx σ) I1 r q
theorem pe_makeSD0 (M : Mk X.K C fa) (F : FnOk X.prog X.w X.K X.mg X.base CX k fa fd ps sp) (hr : Room (k + 1) X.A) (hg : Gl X x) (hm : X.mg x = some (.ref C)) (hb : Binds X.K fd ps ds) (hd : Vals dvs ds) (hx : ∀ σ, PassesAt CX X σ (E σ))
    (hdb : (x == ("__debug__" : Str)) = false := by decide) : PE X (.Call (.Name x p) [] [] pos) (tMakeSD C sp dvs E tNil) := by
  refine ⟨fun pins s σ H Q I h => ?_⟩
  refine wpAny_Call_Name_kw (ld_glob I hg hm ?_ hdb)
  exact PySem.W.callWith_K0 I.kIn M.kp (run_makeSD (us := []) M F hr hb hd (hx σ) I .nil h)
end
/-! e.f -/
def onFld (f : Str) (fs : List Str) (l : List M) (P : M → Prop) : Prop := ∃ j y, fix f fs = some j ∧ l[j]? = some y ∧ P y
def fldM (cs : List Str) (f : Str) (m : M) (Q : M → Prop) : Prop := match m with
  | .ob _ _ c fs l => c ∈ cs ∧ onFld f fs l fun y => Q y.lock
  | .d (.obj c fs l) => c ∈ cs ∧ ∃ j y, fix f fs = some j ∧ l[j]? = some y ∧ Q (.d y)
  | _ => False
theorem fldM_mono {cs : List Str} {Q Q' : M → Prop} (h : ∀ m, Q m → Q' m) (q : fldM cs f m Q) : fldM cs f m Q' := by
  unfold fldM at q ⊢
  split at q
  · obtain ⟨h1, j, y, h2, h3, q⟩ := q; exact ⟨h1, j, y, h2, h3, h _ q⟩
  · obtain ⟨h1, j, y, h2, h3, q⟩ := q; exact ⟨h1, j, y, h2, h3, h _ q⟩
  · exact q
def wFld (cs : List Str) (f : Str) (we : TW) : TW := fun ρ Q E => we ρ (fun m => fldM cs f m Q) E
/-- instances of these classes have the attribute of their own -/
def FldT (K : PySem.W.Frag) (cs : List Str) (f : Str) : Prop := ∀ c ∈ cs, L2.Cls K (He.ga K c) ∧ NoAttr K (He.ga K c) f
theorem q_fld {cs : List Str} (hc : FldT X.K cs f) (he : QE X e we) (hb : attributeBase e f X.env (eval e X.env) = eval e X.env := by rfl) : QE X (.Attribute e f pos) (wFld cs f we) where
  mono := fun hq h z => he.mono (fun m q => fldM_mono hq q) h z
  run := fun W F0 H0 tk => peImp (pe_fld (he.run W F0 H0 tk) hb) fun σ H Qh ⟨ρ, F, rel, z⟩ => by
    refine ⟨ρ, F, rel, he.mono (fun m hm v H1 F1 fp x1 r hf hn => ?_) (fun _ q => q) z⟩
    unfold fldM at hm
    split at hm
    · rename_i a md c' fs l
      obtain ⟨h1, j, y, h2, h3, q⟩ := hm
      obtain ⟨e1, dx, kvs, fg, g1, g2, g3⟩ := ob_at (rel.e.h.trans x1.h) r
      obtain ⟨u, g, u1, u2⟩ := g3.get h3
      obtain ⟨C, NA⟩ := hc _ h1
      refine ⟨a, _, dx, kvs, u, e1, g1, C, NA, ?_, (q.ext x1).here x1.s u2.lock⟩
      rw [← g2] at h2
      rw [fix_some h2]; exact u1
    · rename_i c' fs l
      obtain ⟨h1, j, y, h2, h3, q⟩ := hm
      have rd := r.ofD.2
      unfold RepD at rd
      obtain ⟨a, dx, kvs, e1, g1, g2, g3⟩ := rd
      obtain ⟨u, u1, u2⟩ := g3.get h3
      obtain ⟨C, NA⟩ := hc _ h1
      refine ⟨a, _, dx, kvs, u, e1, x1.s _ _ g1, C, NA, ?_, (q.ext x1).here x1.s (.d u2)⟩
      rw [← g2] at h2
      rw [fix_some h2]; exact u1
    · exact hm.elim
end
end RT
namespace RT
open PySem PySem.Spec PyProof.Rows L2
section
variable {X : Cx} {F F' H H' H0 F0 : Hp} {ρ : Sg} {σ : L2.St} {m m0 : M} {v : V} {fp : List Addr} {i : Nat} {W : WX}
variable {e o : Expr} {es : List Expr} {we wo : TW} {w : TAW} {pos p p' apos spos : Pos} {x f y c : Str} {k : Nat} {dd : List D} {T : TSpM} {as : List Nat}
/-! ### x.m(..), x's own instance is given to it and comes back -/
def wMethG (kk : EndW → Sg → M → M → Prop) (i : Nat) (c x : Str) (T : TSpM) (dd : List D) (w : TAW) : TSW := fun D ρ => onOb ρ i fun a c' fs l => c' = c ∧ fix x fs = none ∧ (M.ob a .o c' fs l).ret = true ∧ w ρ (fun ms => ∃ ds, M.ds ms = some ds ∧
  T (.ob a .o c' fs l :: (ds ++ dd).map .d) (fun r => isPk a r fun m m0 => kk D ρ m m0) (fun m0 y => isOb a m0 fun m0 => D.ex (ρ.set i (some m0)) y)) (D.ex ρ)
theorem wMethG_mono {kk : EndW → Sg → M → M → Prop} (hk : ∀ {D D' : EndW} {ρ : Sg} {m m0 : M}, D.Le D' → kk D ρ m m0 → kk D' ρ m m0) (hT : MonoT T) (ha : QA X es w)
    {D D' : EndW} (l : D.Le D') (h : wMethG kk i c x T dd w D ρ) : wMethG kk i c x T dd w D' ρ :=
  onOb_mono (fun a c' fs ll ⟨h1, h2, h3, q⟩ => ⟨h1, h2, h3, ha.mono (fun ms ⟨ds, e, q⟩ => ⟨ds, e, hT.of (fun r => isPk_mono fun _ _ => hk l) (fun m0 y => isOb_mono fun _ => l.ex _ _) q⟩) (l.ex _) q⟩) h
theorem meth_core {kk : EndW → Sg → M → M → Prop} {D : Ends} {Qh : VK} (hT : MonoT T) (ha : QA X es w)
    {dv : List V} (hds : ∀ F, RepDs X.K F dd dv) {t : TA} (ht : ∀ σ H Q, liftA X W F0 H0 w σ H Q → t σ H Q) (rel : Rel X.K F0 H0 ρ σ [] [] F H) (z : wMethG kk i c x T dd w (endsOf X W F0 H0 as σ F D) ρ)
    (hQ : ∀ m m0 v F' H', m.ret = true → Same F F' → Rel X.K F0 H0 (ρ.set i (some m0)) σ [m] [v] F' H' → kk (endsOf X W F0 H0 as σ F D) ρ m m0 → Qh v H') :
    tMethSD (He.ga X.K c) x (spOw X.mg X.K T) dv (WE W) (tVar i) t σ H Qh := by
  obtain ⟨a, c', fs, l, e0, rfl, hfx, hret, z⟩ := onOb_of z
  obtain ⟨hs, dx, kvs, h1, h2⟩ := ob_slot rel e0
  refine ⟨.ref a, hs, a, dx, kvs, rfl, h1, fix_none (by rw [h2]; exact hfx), ht _ _ _ ⟨ρ, F, rel, ha.mono (fun ms hm => ?_) (fun _ q => exq rel q) z⟩⟩
  obtain ⟨ds, eds, q⟩ := hm
  intro vs H1 F1 fp x1 r hf hn
  obtain ⟨_, rd⟩ := r.ds eds
  have rel1 := rel.ext x1
  obtain ⟨v, e1, g⟩ := give_call (Qh := Qh) (E := WE W σ) hT rel1 e0 hret (rd.append (hds F1)) q (fun r v F' H' hr s' rel2 q => by
    obtain ⟨m, c2, fs2, l2, e, q2⟩ := isPk_of q
    subst e
    obtain ⟨u, rel3⟩ := rel2.unpack
    unfold M.ret at hr; rw [Bool.and_eq_true] at hr
    have rel4 := rel3.backO (M.sto_of_ret hr.2) hs
    rw [List.set_set] at rel4
    exact hQ m _ v F' H' hr.1 (x1.f.trans s') rel4 q2) (fun m0 y cls d u F' H' hr rel2 rx q => by
    obtain ⟨c2, fs2, l2, e, q2⟩ := isOb_of q
    subst e
    have rel4 := rel2.backO (M.sto_of_ret hr) hs
    rw [List.set_set] at rel4
    exact q2 cls d σ F' H' rel4 rx)
  rw [hs] at e1; cases e1; exact g
/-- .. as a statement -/
def wMeth (i : Nat) : Str → Str → TSpM → List D → TAW → TSW := wMethG (fun D ρ _ m0 => D.nx (ρ.set i (some m0))) i
theorem tnil_of : ∀ σ H Q, liftA X W F0 H0 wNil σ H Q → tNil σ H Q := fun σ H Q ⟨ρ, F, r, h⟩ => h [] H F [] (.refl r.s) (by unfold RepMs; exact ⟨rfl, rfl⟩) (fun _ z => nomatch z) List.nodup_nil
section
variable (i : Nat) (h : Mx X.prog X.w X.K X.mg X.base c x k dd T) (hr : Room k X.A) (hN : X.N[i]? = some y) (hv : Vis X.env.scope y) (hd : (y == ("__debug__" : Str)) = false) (hcd : (y == ("__classdict__" : Str)) = false)
include h hr hN hv hd hcd
/-- the callee's node, with arguments -/
theorem pe_ownM {pl : Sem Bool} (ha : QA X (e :: es) w) {W : WX} (F0 H0 : Hp) (tk : Takes X W) (hst : starEach (e :: es) X.env = (false, eval e X.env) :: starEach es X.env) (hpl : (backTo pos (starEach es X.env)).any (·.1) = false)
    (ht : eval (.Call (.Attribute (.Name y p) x apos) (e :: es) [] pos) X.env = (do
      let ov ← eval (.Name y p) X.env
      standAt apos.atName
      let (f, first) ← holding [ov] (getMethod ov x pl)
      callWith pos f first (backTo pos (starEach (e :: es) X.env)) (backToKw pos (keywordEach [] X.env)))) :
    ∃ dv, (∀ F, RepDs X.K F dd dv) ∧ PE X (.Call (.Attribute (.Name y p) x apos) (e :: es) [] pos) (tMethSD (He.ga X.K c) x (spOw X.mg X.K T) dv (WE W) (tVar i) (liftA X W F0 H0 w)) := by
  obtain ⟨fa, fd, ps, dv, du, Fn, C, Mt, hb, hd', hds⟩ := h.ok
  exact ⟨dv, hds, pe_methSD (pl := pl) (E := fun σ => WE W σ) (pe_var hN hv hd hcd) C Mt Fn hr hb hd' (fun σ => passAt tk σ) (ha.run W F0 H0 tk) hst hpl ht⟩
theorem pe_ownM0 {pl : Sem Bool} {W : WX} (tk : Takes X W)
    (ht : eval (.Call (.Attribute (.Name y p) x apos) [] [] pos) X.env = (do
      let ov ← eval (.Name y p) X.env
      standAt apos.atName
      let (f, first) ← holding [ov] (getMethod ov x pl)
      callWith pos f first (backTo pos (starEach [] X.env)) (backToKw pos (keywordEach [] X.env)))) :
    ∃ dv, (∀ F, RepDs X.K F dd dv) ∧ PE X (.Call (.Attribute (.Name y p) x apos) [] [] pos) (tMethSD (He.ga X.K c) x (spOw X.mg X.K T) dv (WE W) (tVar i) tNil) := by
  obtain ⟨fa, fd, ps, dv, du, Fn, C, Mt, hb, hd', hds⟩ := h.ok
  exact ⟨dv, hds, pe_methSD0 (pl := pl) (E := fun σ => WE W σ) (pe_var hN hv hd hcd) C Mt Fn hr hb hd' (fun σ => passAt tk σ) ht⟩
end
/-- the shape of the method's call node -/
abbrev MethNode (X : Cx) (y x : Str) (p apos pos : Pos) (es : List Expr) (pl : Sem Bool) : Prop := eval (.Call (.Attribute (.Name y p) x apos) es [] pos) X.env = (do
      let ov ← eval (.Name y p) X.env
      standAt apos.atName
      let (f, first) ← holding [ov] (getMethod ov x pl)
      callWith pos f first (backTo pos (starEach es X.env)) (backToKw pos (keywordEach [] X.env)))
/-- the node's reading, from the one that its statement wants: for any statement -/
structure NodeM (X : Cx) (call : Expr) (i : Nat) (c x : Str) (T : TSpM) (dd : List D) (w : TAW) : Prop where
  mono : MonoT T
  args : ∃ es, QA X es w
  node : ∀ (W : WX) (F0 H0 : Hp), Takes X W → ∃ dv t, (∀ F, RepDs X.K F dd dv) ∧ (∀ σ H Q, liftA X W F0 H0 w σ H Q → t σ H Q) ∧ PE X call (tMethSD (He.ga X.K c) x (spOw X.mg X.K T) dv (WE W) (tVar i) t)
theorem node_m {pl : Sem Bool} (i : Nat) (h : Mx X.prog X.w X.K X.mg X.base c x k dd T) (hr : Room k X.A) (ha : QA X (e :: es) w) (hN : X.N[i]? = some y := by rfl) (hv : Vis X.env.scope y := by first | exact Or.inl rfl | exact Or.inr (Or.inl rfl) | exact Or.inr (Or.inr rfl)) (hd : (y == ("__debug__" : Str)) = false := by decide) (hcd : (y == ("__classdict__" : Str)) = false := by decide)
    (hst : starEach (e :: es) X.env = (false, eval e X.env) :: starEach es X.env := by rfl) (hpl : (backTo pos (starEach es X.env)).any (·.1) = false := by rfl) (ht : MethNode X y x p apos pos (e :: es) pl := by rfl) : NodeM X (.Call (.Attribute (.Name y p) x apos) (e :: es) [] pos) i c x T dd w :=
  ⟨⟨h.mono⟩, ⟨_, ha⟩, fun W F0 H0 tk => let ⟨dv, h1, h2⟩ := pe_ownM i h hr hN hv hd hcd (pl := pl) ha F0 H0 tk hst hpl ht; ⟨dv, _, h1, fun _ _ _ q => q, h2⟩⟩
theorem node_m0 {pl : Sem Bool} (i : Nat) (h : Mx X.prog X.w X.K X.mg X.base c x k dd T) (hr : Room k X.A) (hN : X.N[i]? = some y := by rfl) (hv : Vis X.env.scope y := by first | exact Or.inl rfl | exact Or.inr (Or.inl rfl) | exact Or.inr (Or.inr rfl)) (hd : (y == ("__debug__" : Str)) = false := by decide) (hcd : (y == ("__classdict__" : Str)) = false := by decide)
    (ht : MethNode X y x p apos pos [] pl := by rfl) : NodeM X (.Call (.Attribute (.Name y p) x apos) [] [] pos) i c x T dd wNil :=
  ⟨⟨h.mono⟩, ⟨[], qa_nil⟩, fun W F0 H0 tk => let ⟨dv, h1, h2⟩ := pe_ownM0 i h hr hN hv hd hcd (pl := pl) tk ht; ⟨dv, _, h1, tnil_of, h2⟩⟩
/-- .. as a statement -/
theorem s_meth {call : Expr} (n : NodeM X call i c x T dd w) (hs : swapsWith call none spos.line X.env = pure false := by rfl) : QS X (.Expr call spos) [] (wMeth i c x T dd w) where
  mono := fun l h => let ⟨_, ha⟩ := n.args; wMethG_mono (kk := fun D ρ _ m0 => D.nx (ρ.set i (some m0))) (fun l q => l.nx _ q) n.mono ha l h
  run := fun W F0 H0 tk => by
    obtain ⟨dv, t, h1, h2, h3⟩ := n.node W F0 H0 tk
    obtain ⟨_, ha⟩ := n.args
    refine psImp (ps_expr h3 hs) fun D σ H ⟨ρ, F, rel, z⟩ => meth_core (kk := fun D ρ _ m0 => D.nx (ρ.set i (some m0))) (Qh := fun _ H1 => D.nx σ H1) n.mono ha h1 h2 rel z fun m m0 v F' H' hm s rel2 q => q σ F' H' s rel2.pop .refl
/-- y = x.m(..) -/
def wMethS (j i : Nat) : Str → Str → TSpM → List D → TAW → TSW := wMethG (fun D ρ m m0 => D.nx ((ρ.set i (some m0)).set j (some m))) i
theorem s_methS {call : Expr} {z : Str} {pz : Pos} (j : Nat) (hNd : X.N.Nodup) (n : NodeM X call i c x T dd w) (hi : X.N[j]? = some z := by rfl) (hx : Loc X.env.scope z := by first | exact Or.inl rfl | exact Or.inr rfl) (hs : swapsWith call (some (.Name z pz)) spos.line X.env = pure false := by rfl)
    (hf : X.fn z = true ∨ X.env.scope.names.lookup z = some .local := by first | exact .inl rfl | exact .inr rfl | assumption) : QS X (.Assign [.Name z pz] call spos) [j] (wMethS j i c x T dd w) where
  mono := fun l h => let ⟨_, ha⟩ := n.args; wMethG_mono (kk := fun D ρ m m0 => D.nx ((ρ.set i (some m0)).set j (some m))) (fun l q => l.nx _ q) n.mono ha l h
  run := fun W F0 H0 tk => by
    obtain ⟨dv, t, h1, h2, h3⟩ := n.node W F0 H0 tk
    obtain ⟨_, ha⟩ := n.args
    refine psImp (ps_set hNd hi hx h3 hs hf) fun D σ H ⟨ρ, F, rel, z⟩ => meth_core (kk := fun D ρ m m0 => D.nx ((ρ.set i (some m0)).set j (some m))) (Qh := fun v H1 => D.nx (σ.set j (some v)) H1) n.mono ha h1 h2 rel z fun m m0 v F' H' hm s rel2 q => q _ F' H' s (rel2.set (M.sto_of_ret hm) j) .set
/-- return x.m(..) -/
def wMethR (i : Nat) : Str → Str → TSpM → List D → TAW → TSW := wMethG (fun D _ m _ => D.rt m) i
theorem s_methR {call : Expr} (n : NodeM X call i c x T dd w) : QS X (.Return (some call) spos) [] (wMethR i c x T dd w) where
  mono := fun l h => let ⟨_, ha⟩ := n.args; wMethG_mono (kk := fun D _ m _ => D.rt m) (fun l q => l.rt _ q) n.mono ha l h
  run := fun W F0 H0 tk => by
    obtain ⟨dv, t, h1, h2, h3⟩ := n.node W F0 H0 tk
    obtain ⟨_, ha⟩ := n.args
    refine psImp (ps_ret h3) fun D σ H ⟨ρ, F, rel, z⟩ => meth_core (kk := fun D _ m _ => D.rt m) (Qh := fun v H1 => D.rt v H1) n.mono ha h1 h2 rel z fun m m0 v F' H' hm s rel2 q => ?_
    obtain ⟨e, l, fs, ft, n1, n2, ow, dj, dt, rt, sl⟩ := rel2
    obtain ⟨v', e1, r1⟩ := rt.one
    cases e1
    exact q hm v F' H' ft s e r1 n1
/-- return self.m(..) in a method -/
def wMethRK : Str → Str → TSpM → List D → TAW → TSW := wMethG (fun D _ m m0 => m0.ret = true ∧ D.rt (.pk m m0)) 0
theorem s_methRK {call : Expr} (n : NodeM X call 0 c x T dd w) : QS X (.Return (some call) spos) [] (wMethRK c x T dd w) where
  mono := fun l h => let ⟨_, ha⟩ := n.args; wMethG_mono (kk := fun D _ m m0 => m0.ret = true ∧ D.rt (.pk m m0)) (fun l q => ⟨q.1, l.rt _ q.2⟩) n.mono ha l h
  run := fun W F0 H0 tk => by
    obtain ⟨dv, t, h1, h2, h3⟩ := n.node W F0 H0 tk
    obtain ⟨_, ha⟩ := n.args
    refine psImp (ps_ret h3) fun D σ H ⟨ρ, F, rel, z⟩ => by
      obtain ⟨_, _, _, _, e0, _⟩ := onOb_of z
      refine meth_core (kk := fun D _ m m0 => m0.ret = true ∧ D.rt (.pk m m0)) (Qh := fun v H1 => D.rt v H1) n.mono ha h1 h2 rel z fun m m0 v F' H' hm s rel2 q => ?_
      have hl : 0 < ρ.length := (List.getElem?_eq_some_iff.mp e0).1
      obtain ⟨fp, r1, n1⟩ := rel2.pack (List.getElem?_set_self hl)
      exact q.2 (pkret hm q.1) v F' H' fp s rel2.e r1 n1
/-! ### f(x, ..), x's own tree is given to it -/
def wMvG (kk : EndW → Sg → M → Prop) (i : Nat) (T : TSpM) (dd : List D) (w : TAW) : TSW := fun D ρ => onS ρ i fun m => m.ret = true ∧ w ρ (fun ms => ∃ ds, M.ds ms = some ds ∧
  T (m :: (ds ++ dd).map .d) (fun r => kk D ρ r) (fun _ y => D.ex (ρ.set i none) y)) (D.ex ρ)
theorem wMvG_mono {kk : EndW → Sg → M → Prop} (hk : ∀ {D D' : EndW} {ρ : Sg} {m : M}, D.Le D' → kk D ρ m → kk D' ρ m) (hT : MonoT T) (ha : QA X es w)
    {D D' : EndW} (l : D.Le D') (h : wMvG kk i T dd w D ρ) : wMvG kk i T dd w D' ρ :=
  onS_mono (fun m ⟨h3, q⟩ => ⟨h3, ha.mono (fun ms ⟨ds, e, q⟩ => ⟨ds, e, hT.of (fun r => hk l) (fun m0 y => l.ex _ _) q⟩) (l.ex _) q⟩) h
theorem mv_core {kk : EndW → Sg → M → Prop} {D : Ends} {Qh : VK} (hT : MonoT T) (ha : QA X es w)
    {dv : List V} (hds : ∀ F, RepDs X.K F dd dv) (rel : Rel X.K F0 H0 ρ σ [] [] F H) (z : wMvG kk i T dd w (endsOf X W F0 H0 as σ F D) ρ)
    (hQ : ∀ m v F' H', m.ret = true → Same F F' → Rel X.K F0 H0 (ρ.set i none) σ [m] [v] F' H' → kk (endsOf X W F0 H0 as σ F D) ρ m → Qh v H') :
    tCallSD (spOw X.mg X.K T) dv (WE W) (tCons (tVar i) (liftA X W F0 H0 w)) σ H Qh := by
  obtain ⟨m, e0, hret, z⟩ := onS_of z
  obtain ⟨v0, fp0, hs, _⟩ := rel.get e0
  refine ⟨v0, hs, ρ, F, rel, ha.mono (fun ms hm => ?_) (fun _ q => exq rel q) z⟩
  obtain ⟨ds, eds, q⟩ := hm
  intro vs H1 F1 fp x1 r hf hn
  obtain ⟨_, rd⟩ := r.ds eds
  have rel1 := rel.ext x1
  obtain ⟨v, e1, g⟩ := give_call (Qh := Qh) (E := WE W σ) hT rel1 e0 hret (rd.append (hds F1)) q (fun r v F' H' hr s' rel2 q => hQ r v F' H' hr (x1.f.trans s') rel2 q) (fun m0 y cls d u F' H' hr rel2 rx q => q cls d σ F' H' rel2.pop rx)
  rw [hs] at e1; cases e1; exact g
structure NodeO (X : Cx) (call : Expr) (i : Nat) (T : TSpM) (dd : List D) (w : TAW) : Prop where
  mono : MonoT T
  args : ∃ es, QA X es w
  node : ∀ (W : WX) (F0 H0 : Hp), Takes X W → ∃ dv, (∀ F, RepDs X.K F dd dv) ∧ PE X call (tCallSD (spOw X.mg X.K T) dv (WE W) (tCons (tVar i) (liftA X W F0 H0 w)))
theorem node_o (i : Nat) (h : FxO X.prog X.w X.K X.mg X.base x k dd T) (hr : Room k X.A) (hg : Gl X x) (ha : QA X es w) (hN : X.N[i]? = some y := by rfl) (hv : Vis X.env.scope y := by first | exact Or.inl rfl | exact Or.inr (Or.inl rfl) | exact Or.inr (Or.inr rfl)) (hd : (y == ("__debug__" : Str)) = false := by decide) (hcd : (y == ("__classdict__" : Str)) = false := by decide)
    (hdb : (x == ("__debug__" : Str)) = false := by decide) (he : starEach (.Name y p :: es) X.env = (false, eval (.Name y p) X.env) :: starEach es X.env := by rfl) (hpl : (backTo pos (starEach es X.env)).any (·.1) = false := by rfl) : NodeO X (.Call (.Name x p') (.Name y p :: es) [] pos) i T dd w :=
  ⟨⟨h.mono⟩, ⟨_, ha⟩, fun W F0 H0 tk => let ⟨f, fd, ps, dv, du, Fn, hm, hk, hb, hd', hds⟩ := h.ok; ⟨dv, hds, pe_callSD (E := fun σ => WE W σ) Fn hr hg hm hk hb hd' (fun σ => passAt tk σ) (pa_cons (pe_var hN hv hd hcd) (ha.run W F0 H0 tk) he) hdb he hpl⟩⟩
/-- z = f(x, ..) -/
def wMvS (j i : Nat) : TSpM → List D → TAW → TSW := wMvG (fun D ρ m => D.nx ((ρ.set i none).set j (some m))) i
theorem s_mvS {call : Expr} {z : Str} {pz : Pos} (j : Nat) (hNd : X.N.Nodup) (n : NodeO X call i T dd w) (hi : X.N[j]? = some z := by rfl) (hx : Loc X.env.scope z := by first | exact Or.inl rfl | exact Or.inr rfl) (hs : swapsWith call (some (.Name z pz)) spos.line X.env = pure false := by rfl)
    (hf : X.fn z = true ∨ X.env.scope.names.lookup z = some .local := by first | exact .inl rfl | exact .inr rfl | assumption) : QS X (.Assign [.Name z pz] call spos) [j] (wMvS j i T dd w) where
  mono := fun l h => let ⟨_, ha⟩ := n.args; wMvG_mono (kk := fun D ρ m => D.nx ((ρ.set i none).set j (some m))) (fun l q => l.nx _ q) n.mono ha l h
  run := fun W F0 H0 tk => by
    obtain ⟨dv, h1, h3⟩ := n.node W F0 H0 tk
    obtain ⟨_, ha⟩ := n.args
    refine psImp (ps_set hNd hi hx h3 hs hf) fun D σ H ⟨ρ, F, rel, z⟩ => mv_core (kk := fun D ρ m => D.nx ((ρ.set i none).set j (some m))) (Qh := fun v H1 => D.nx (σ.set j (some v)) H1) n.mono ha h1 rel z fun m v F' H' hm s rel2 q => q _ F' H' s (rel2.set (M.sto_of_ret hm) j) .set
/-- return f(x, ..) -/
def wMvR (i : Nat) : TSpM → List D → TAW → TSW := wMvG (fun D _ m => D.rt m) i
theorem s_mvR {call : Expr} (n : NodeO X call i T dd w) : QS X (.Return (some call) spos) [] (wMvR i T dd w) where
  mono := fun l h => let ⟨_, ha⟩ := n.args; wMvG_mono (kk := fun D _ m => D.rt m) (fun l q => l.rt _ q) n.mono ha l h
  run := fun W F0 H0 tk => by
    obtain ⟨dv, h1, h3⟩ := n.node W F0 H0 tk
    obtain ⟨_, ha⟩ := n.args
    refine psImp (ps_ret h3) fun D σ H ⟨ρ, F, rel, z⟩ => mv_core (kk := fun D _ m => D.rt m) (Qh := fun v H1 => D.rt v H1) n.mono ha h1 rel z fun m v F' H' hm s rel2 q => ?_
    obtain ⟨e, l, fs, ft, n1, n2, ow, dj, dt, rt, sl⟩ := rel2
    obtain ⟨v', e1, r1⟩ := rt.one
    cases e1
    exact q hm v F' H' ft s e r1 n1
/-! ### o.m(..) of a method that changes nothing -/
def obC (c : Str) (x : Str) (m : M) (P : M → Prop) : Prop := match m with
  | .ob a k c' fs l => c' = c ∧ fix x fs = none ∧ P (.ob a k c' fs l)
  | .d (.obj c' fs l) => c' = c ∧ fix x fs = none ∧ P (.d (.obj c' fs l))
  | _ => False
def wMethP (c x : Str) (T : TSp) (dd : List D) (wo : TW) (w : TAW) : TW := fun ρ Q E => wo ρ (fun mo => obC c x mo fun mo => w ρ (fun ms => T (mo.toP :: (M.toPs ms ++ dd.map .d)) Q E) E) E
theorem obC_mono {P P' : M → Prop} (h : ∀ m, P m → P' m) (q : obC c x m P) : obC c x m P' := by
  unfold obC at q ⊢; split at q <;> first | exact ⟨q.1, q.2.1, h _ q.2.2⟩ | exact q
theorem q_methP {T : TSp} {pl : Sem Bool} (h : Mp X.prog X.w X.K X.mg X.base c x k dd T) (hr : Room k X.A) (ho : QE X o wo) (ha : QA X (e :: es) w)
    (hst : starEach (e :: es) X.env = (false, eval e X.env) :: starEach es X.env := by rfl) (hpl : (backTo pos (starEach es X.env)).any (·.1) = false := by rfl)
    (ht : eval (.Call (.Attribute o x apos) (e :: es) [] pos) X.env = (do
      let ov ← eval o X.env
      standAt apos.atName
      let (f, first) ← holding [ov] (getMethod ov x pl)
      callWith pos f first (backTo pos (starEach (e :: es) X.env)) (backToKw pos (keywordEach [] X.env))) := by rfl) : QE X (.Call (.Attribute o x apos) (e :: es) [] pos) (wMethP c x T dd wo w) where
  mono := fun hq he z => ho.mono (fun mo q => obC_mono (fun mo q => ha.mono (fun ms q => h.mono hq he q) he q) q) he z
  run := fun W F0 H0 tk => by
    obtain ⟨fa, fd, ps, dv, du, Fn, C, Mt, hb, hd', hds⟩ := h.ok
    refine peImp (pe_methSD (pl := pl) (E := fun σ => WE W σ) (ho.run W F0 H0 tk) C Mt Fn hr hb hd' (fun σ => passAt tk σ) (ha.run W F0 H0 tk) hst hpl ht) fun σ H Qh ⟨ρ, F, rel, z⟩ => ?_
    refine ⟨ρ, F, rel, ho.mono (fun mo hm v H1 F1 fo x1 ro hfo hno => ?_) (fun _ q => q) z⟩
    unfold obC at hm
    split at hm
    · rename_i a md c' fs l
      obtain ⟨rfl, hfx, q⟩ := hm
      obtain ⟨e1, dx, kvs, fg, g1, g2, g3⟩ := ob_at (rel.e.h.trans x1.h) ro
      refine ⟨a, dx, kvs, e1, g1, fix_none (by rw [g2]; exact hfx), ρ, F1, rel.ext x1, ha.mono (fun ms q => ?_) (fun _ q => q.ext x1) q⟩
      intro vs H2 F2 fp x2 r hf hn
      have z1 : Same H0 H2 := (rel.e.h.trans x1.h).trans x2.h
      refine ⟨F2, _, x2.s, ?_, h.mono (fun m hm => ?_) (fun y hy => ?_) q⟩
      · unfold RepMs
        exact ⟨v, vs ++ dv, [], [], rfl, rfl, (ro.ext x2).toP z1, (r.toP z1).append (reps_d (hds F2))⟩
      · intro hret v' H3 F3 fp2 x3 r2 n2
        refine hm v' H3 F3 fp2 (x1.trans (x2.trans x3)) (r2.re hret fun b hb => ?_) (fun a ha => ?_) n2
        · exact z1.free (r2.own b hb).2.2
        · exact (x1.trans x2).h.free (r2.own a ha).2.2
      · intro cls d H3 F3 x3 r2
        exact hy cls d H3 F3 (x1.trans (x2.trans x3)) r2
    · rename_i c' fs l
      obtain ⟨rfl, hfx, q⟩ := hm
      have rd := ro.ofD.2
      unfold RepD at rd
      obtain ⟨a, dx, kvs, e1, g1, g2, g3⟩ := rd
      refine ⟨a, dx, kvs, e1, x1.s _ _ g1, fix_none (by rw [g2]; exact hfx), ρ, F1, rel.ext x1, ha.mono (fun ms q => ?_) (fun _ q => q.ext x1) q⟩
      intro vs H2 F2 fp x2 r hf hn
      have z1 : Same H0 H2 := (rel.e.h.trans x1.h).trans x2.h
      refine ⟨F2, _, x2.s, ?_, h.mono (fun m hm => ?_) (fun y hy => ?_) q⟩
      · unfold RepMs
        exact ⟨v, vs ++ dv, [], [], rfl, rfl, (ro.ext x2).toP z1, (r.toP z1).append (reps_d (hds F2))⟩
      · intro hret v' H3 F3 fp2 x3 r2 n2
        refine hm v' H3 F3 fp2 (x1.trans (x2.trans x3)) (r2.re hret fun b hb => ?_) (fun a ha => ?_) n2
        · exact z1.free (r2.own b hb).2.2
        · exact (x1.trans x2).h.free (r2.own a ha).2.2
      · intro cls d H3 F3 x3 r2
        exact hy cls d H3 F3 (x1.trans (x2.trans x3)) r2
    · exact hm.elim
end
end RT
namespace RT
open PySem PySem.Spec PyProof.Rows L2
/-! ### fields of one's own instance, changed -/
def putN (f : Str) : List Str → List Str
  | [] => [f]
  | g :: r => if g = f then g :: r else g :: putN f r
def putM (f : Str) (m : M) : List Str → List M → List M
  | [], _ => [m]
  | _ :: _, [] => [m]
  | g :: r, y :: ys => if g = f then m :: ys else y :: putM f m r ys
theorem putF_keys {f : Str} {v : V} : ∀ {kvs : List (Str × V)}, (putF f v kvs).map (·.1) = putN f (kvs.map (·.1))
  | [] => rfl
  | (g, x) :: r => by
    unfold putF
    rw [List.map_cons]
    unfold putN
    by_cases h : g = f
    · rw [if_pos h, if_pos h]; rfl
    · rw [if_neg h, if_neg h, List.map_cons, putF_keys]
section
variable {K : PySem.W.Frag} {F F' H H' H0 F0 : Hp} {ρ : Sg} {σ : L2.St} {ts : List M} {tv : List V} {i : Nat} {m : M} {v : V} {c : Str}
theorem RepMs.put {f : Str} {g : List Addr} (rm : RepM K F H0 H m v g) : ∀ {kvs : List (Str × V)} {ms : List M} {fp : List Addr}, RepMs K F H0 H ms (kvs.map (·.2)) fp → (fp ++ g).Nodup → ∃ f', RepMs K F H0 H (putM f m (kvs.map (·.1)) ms) ((putF f v kvs).map (·.2)) f' ∧ f'.Nodup ∧ ∀ b ∈ f', b ∈ fp ∨ b ∈ g
  | [], ms, fp, r, n => by
    refine ⟨g, ?_, (List.nodup_append.mp n).2.1, fun b hb => .inr hb⟩
    show RepMs K F H0 H (putM f m [] ms) [v] g
    unfold putM RepMs
    exact ⟨v, [], g, [], rfl, (List.append_nil _).symm, rm, by unfold RepMs; exact ⟨rfl, rfl⟩⟩
  | (k, x) :: kvs, [], fp, r, n => by
    unfold RepMs at r
    have := r.1
    cases this
  | (k, x) :: kvs, y :: ys, fp, r, n => by
    unfold RepMs at r
    obtain ⟨u, w, f1, f2, e1, e2, q, z⟩ := r
    rw [List.map_cons] at e1
    cases e1
    subst e2
    rw [List.map_cons]
    unfold putM putF
    obtain ⟨n1, n2, n3⟩ := List.nodup_append.mp n
    obtain ⟨n4, n5, n6⟩ := List.nodup_append.mp n1
    by_cases h : k = f
    · rw [if_pos h, if_pos h]
      refine ⟨g ++ f2, ?_, List.nodup_append.mpr ⟨n2, n5, fun a ha b hb e => n3 b (List.mem_append_right _ hb) a ha e.symm⟩, fun b hb => ?_⟩
      · unfold RepMs
        exact ⟨v, _, g, f2, rfl, rfl, rm, z⟩
      · rcases List.mem_append.mp hb with hb | hb
        · exact .inr hb
        · exact .inl (List.mem_append_right _ hb)
    · rw [if_neg h, if_neg h]
      obtain ⟨f', r', n', s'⟩ := RepMs.put (f := f) rm z (List.nodup_append.mpr ⟨n5, n2, fun a ha b hb e => n3 a (List.mem_append_right _ ha) b hb e⟩)
      refine ⟨f1 ++ f', ?_, List.nodup_append.mpr ⟨n4, n', fun a ha b hb e => ?_⟩, fun b hb => ?_⟩
      · unfold RepMs
        exact ⟨_, _, f1, f', rfl, rfl, q, r'⟩
      · rcases s' b hb with s | s
        · exact n6 a ha b s e
        · exact n3 a (List.mem_append_left _ ha) b s e
      · rcases List.mem_append.mp hb with hb | hb
        · exact .inl (List.mem_append_left _ hb)
        · rcases s' b hb with s | s
          · exact .inl (List.mem_append_right _ s)
          · exact .inr s
theorem stos_put {f : Str} (hm : m.sto = true) : ∀ {fs : List Str} {ms : List M}, M.stos ms = true → M.stos (putM f m fs ms) = true
  | [], _, _ => by unfold putM M.stos; rw [hm]; rfl
  | _ :: _, [], _ => by unfold putM M.stos; rw [hm]; rfl
  | g :: r, y :: ys, h => by
    unfold M.stos at h
    rw [Bool.and_eq_true] at h
    unfold putM
    by_cases c : g = f
    · rw [if_pos c]; unfold M.stos; rw [hm, h.2]; rfl
    · rw [if_neg c]; unfold M.stos; rw [h.1, stos_put hm h.2]; rfl
/-- what is held goes into a field -/
theorem Rel.putOb {a : Addr} {f : Str} {fs : List Str} {ms : List M} (r : Rel K F0 H0 ρ σ [m] [v] F H) (hm : m.sto = true) (h : ρ[i]? = some (some (.ob a .o c fs ms))) : σ[i]? = some (some (.ref a)) ∧ ∃ dx kvs, H a = some (.ins (He.ga K c) dx kvs) ∧ kvs.map (·.1) = fs ∧
    Rel K F0 H0 (ρ.set i (some (.ob a .o c (putN f fs) (putM f m fs ms)))) σ [] [] F (L2.upd H a (.ins (He.ga K c) dx (putF f v kvs))) := by
  obtain ⟨e, ln, fps, ft, n1, n2, ow, dj, dt, rt, sl⟩ := r
  obtain ⟨v1, h1, h2, h3⟩ := sl i _ h
  unfold RepM at h3
  obtain ⟨dx, kvs, f0, ev, ⟨efp, g1, g2, g3⟩, ek, rv⟩ := h3
  subst ev
  unfold M.sto at h2
  rw [Bool.and_eq_true] at h2
  obtain ⟨v', e1, rm⟩ := rt.one
  cases e1
  have hai : a ∈ fps i := by rw [efp]; exact List.mem_cons_self
  have oth : ∀ j, j ≠ i → ∀ b ∈ fps j, b ≠ a := fun j hj b hb z => hj (dj j i a (by rw [← z]; exact hb) hai)
  have oft : ∀ b ∈ ft, b ≠ a := fun b hb z => dt i a hai (by rw [← z]; exact hb)
  have nfs := n2 i
  rw [efp] at nfs
  have nf := List.nodup_cons.mp nfs
  have ffi : ∀ b ∈ f0, b ∈ fps i := fun b hb => by rw [efp]; exact List.mem_cons_of_mem _ hb
  obtain ⟨f', r', n', s'⟩ := RepMs.put (f := f) rm rv (List.nodup_append.mpr ⟨nf.2, n1, fun b hb c hc z => dt i b (ffi b hb) (by rw [z]; exact hc)⟩)
  have off : ∀ b ∈ f', b ≠ a := fun b hb z => by
    rcases s' b hb with q | q
    · exact nf.1 (by rw [← z]; exact q)
    · exact oft b q z
  have new : ∀ b, b ∈ a :: f' → b ∈ fps i ∨ b ∈ ft := fun b hb => by
    rcases List.mem_cons.mp hb with z | z
    · rw [z]; exact .inl hai
    · rcases s' b z with q | q
      · exact .inl (ffi b q)
      · exact .inr q
  have own' : ∀ b, OwnA F H0 H b → OwnA F H0 (L2.upd H a (.ins (He.ga K c) dx (putF f v kvs))) b := fun b ⟨x1, ⟨o, x2⟩, x3⟩ => by
    refine ⟨x1, ?_, x3⟩
    by_cases c : b = a
    · subst c; exact ⟨_, upd_same⟩
    · exact ⟨o, by rw [upd_ne c]; exact x2⟩
  refine ⟨h1, dx, kvs, g1, ek, ⟨⟨fun b o hb => ?_, e.f, fun b o hb => ?_, fun b o hb => e.n _ _ hb⟩, by rw [List.length_set, ln], fun j => if j = i then a :: f' else fps j, [], List.nodup_nil, fun j => ?_, fun j b hb => ?_, fun j k b hb hb' => ?_, fun j b hb => List.not_mem_nil, ?_, fun j m2 h' => ?_⟩⟩
  · rw [upd_ne (fun z => by rw [z, g3] at hb; cases hb)]; exact e.h _ _ hb
  · rw [upd_ne (fun z => by rw [z, g2] at hb; cases hb)]; exact e.s _ _ hb
  · dsimp only; split
    · exact List.nodup_cons.mpr ⟨fun z => off a z rfl, n'⟩
    · exact n2 j
  · dsimp only at hb
    refine own' b ?_
    split at hb
    · rcases new b hb with z | z
      · exact ow i b z
      · exact rm.own b z
    · exact ow j b hb
  · dsimp only at hb hb'
    split at hb <;> split at hb'
    · rename_i c1 c2; rw [c1, c2]
    · rename_i c1 c2
      rcases new b hb with z | z
      · rw [c1]; exact dj i k b z hb'
      · exact absurd z (dt k b hb')
    · rename_i c1 c2
      rcases new b hb' with z | z
      · rw [c2]; exact dj j i b hb z
      · exact absurd z (dt j b hb)
    · exact dj j k b hb hb'
  · unfold RepMs; exact ⟨rfl, rfl⟩
  · dsimp only
    by_cases hj : j = i
    · subst hj
      rw [if_pos rfl]
      by_cases hl : j < ρ.length
      · rw [List.getElem?_set_self hl] at h'
        cases h'
        refine ⟨.ref a, h1, ?_, ?_⟩
        · unfold M.sto; rw [Bool.and_eq_true]
          exact ⟨h2.1, stos_put hm h2.2⟩
        · unfold RepM
          refine ⟨dx, putF f v kvs, f', rfl, ⟨rfl, upd_same, g2, g3⟩, by rw [putF_keys, ek], ?_⟩
          rw [ek] at r'
          exact r'.keep (stos_put hm h2.2) fun b hb => upd_ne (off b hb)
      · rw [List.getElem?_eq_none (by simpa using hl)] at h'
        cases h'
    · rw [if_neg hj]
      rw [List.getElem?_set_ne (Ne.symm hj)] at h'
      obtain ⟨v2, y1, y2, y3⟩ := sl j m2 h'
      exact ⟨v2, y1, y2, y3.keep y2 fun b hb => upd_ne (oth j hj b hb)⟩
theorem Rel.updOb {a : Addr} {j : Nat} {fs : List Str} {ms : List M} {l : List D} (r : Rel K F0 H0 ρ σ ts tv F H) (ht : M.stos ts = true) (h : ρ[i]? = some (some (.ob a .o c fs ms))) (hj : ms[j]? = some (.fl .o l)) :
    ∃ dx kvs b us, σ[i]? = some (some (.ref a)) ∧ H a = some (.ins (He.ga K c) dx kvs) ∧ kvs.map (·.1) = fs ∧ (kvs.map (·.2))[j]? = some (.ref b) ∧ H b = some (.lst us) ∧ RepDs K F l us ∧
      ∀ l' us', RepDs K F l' us' → Rel K F0 H0 (ρ.set i (some (.ob a .o c fs (ms.set j (.fl .o l'))))) σ ts tv F (L2.upd H b (.lst us')) := by
  obtain ⟨v, fp, e1, hs, q, n, fin⟩ := r.upd ht h
  unfold M.sto at hs
  rw [Bool.and_eq_true] at hs
  unfold RepM at q
  obtain ⟨dx, kvs, f, e, ⟨e2, h1, h2, h3⟩, ek, r2⟩ := q
  subst e; subst e2
  have n2 := List.nodup_cons.mp n
  obtain ⟨b, us, y1, y2, y3, y4, y5⟩ := r2.updAt hs.2 n2.2 hj
  have hab : a ≠ b := fun z => n2.1 (by rw [z]; exact y4)
  refine ⟨dx, kvs, b, us, e1, h1, ek, y1, y2, y3, fun l' us' r' => fin (.ob a .o c fs (ms.set j (.fl .o l'))) (a :: f) _ ?_ ?_ n (fun d o hd hn => ?_) (fun d hd => .inl hd)⟩
  · unfold RepM
    exact ⟨dx, kvs, f, rfl, ⟨rfl, by rw [upd_ne hab]; exact h1, h2, h3⟩, ek, y5 l' us' r'⟩
  · unfold M.sto; rw [Bool.and_eq_true]; exact ⟨hs.1, stos_set hs.2 rfl⟩
  · rw [upd_ne fun z => hn (by rw [z]; exact List.mem_cons_of_mem _ y4)]; exact hd
end
section
variable {X : Cx} {F F' H H' H0 F0 : Hp} {ρ : Sg} {σ : L2.St} {m : M} {v : V} {n : Nat} {W : WX}
variable {e : Expr} {es : List Expr} {we : TW} {w : TAW} {pos pos2 p apos cpos spos : Pos} {x f y c : Str} {k : Nat} {dd : List D} {T : TSpM}
/-- the list at a field of x's own instance -/
def onFl2 (cs : List Str) (f : Str) (ρ : Sg) (n : Nat) (P : Addr → Str → List Str → List M → Nat → List D → Prop) : Prop := onOb ρ n fun a c fs ms => c ∈ cs ∧ ∃ j l, fix f fs = some j ∧ ms[j]? = some (.fl .o l) ∧ P a c fs ms j l
theorem onFl2_mono {cs : List Str} {P P' : Addr → Str → List Str → List M → Nat → List D → Prop} (h : ∀ a c fs ms j l, P a c fs ms j l → P' a c fs ms j l) (q : onFl2 cs f ρ n P) : onFl2 cs f ρ n P' := onOb_mono (fun a c fs ms ⟨h1, j, l, h2, h3, q⟩ => ⟨h1, j, l, h2, h3, h _ _ _ _ _ _ q⟩) q
theorem fl2_later {a : Addr} {fs : List Str} {ms : List M} {j : Nat} {l : List D} (rel : Rel X.K F0 H0 ρ σ [] [] F H) (x : Ext F H F' H') (e0 : ρ[n]? = some (some (.ob a .o c fs ms))) (hj : ms[j]? = some (.fl .o l)) {b : Addr} {us : List V} (hb : H b = some (.lst us)) {dx : Addr} {kvs : List (Str × V)} (ha : H a = some (.ins (He.ga X.K c) dx kvs)) (hkb : (kvs.map (·.2))[j]? = some (.ref b)) :
    ∃ us', H' b = some (.lst us') ∧ RepDs X.K F' l us' ∧ ∀ l' us2, RepDs X.K F' l' us2 → Rel X.K F0 H0 (ρ.set n (some (.ob a .o c fs (ms.set j (.fl .o l'))))) σ [] [] F' (L2.upd H' b (.lst us2)) := by
  obtain ⟨dx', kvs', b', us', g1, g2, g3, g4, g5, g6, g7⟩ := (rel.ext x).updOb rfl e0 hj
  have := x.h _ _ ha
  rw [g2] at this
  cases this
  rw [hkb] at g4
  cases g4
  exact ⟨us', g5, g6, g7⟩
/-- x.f.append(e) -/
def wFldApp (cs : List Str) (f : Str) (n : Nat) (we : TW) : TSW := fun D ρ => onFl2 cs f ρ n fun a c fs ms j l => we ρ (fun m => ∃ y, m.frz = some y ∧ l.length < 16777216 ∧ D.nx (ρ.set n (some (.ob a .o c fs (ms.set j (.fl .o (l ++ [y]))))))) (D.ex ρ)
theorem s_fldApp {cs : List Str} (n : Nat) (hc : FldT X.K cs f) (he : QE X e we) (hN : X.N[n]? = some x := by rfl) (hv : Vis X.env.scope x := by first | exact Or.inl rfl | exact Or.inr (Or.inl rfl) | exact Or.inr (Or.inr rfl)) (hd : (x == ("__debug__" : Str)) = false := by decide) (hcd : (x == ("__classdict__" : Str)) = false := by decide)
    (hb : attributeBase (.Name x p) f X.env (eval (.Name x p) X.env) = eval (.Name x p) X.env := by rfl)
    (hfew : ((backTo cpos (starEach [e] X.env)).all (fun x => !x.1) && (backToKw cpos (keywordEach [] X.env)).all (fun x => x.1.isSome) && decide (([e] : List Expr).length + ([] : List Keyword).length + (if ([] : List Keyword).isEmpty then 0 else 1) < 30)) = true := by rfl)
    (hline : (apos.endLine == cpos.line) = true := by rfl) (hs : starEach [e] X.env = [(false, eval e X.env)] := by rfl) (hbase : attributeBase (.Attribute (.Name x p) f pos2) "append" X.env (eval (.Attribute (.Name x p) f pos2) X.env) = eval (.Attribute (.Name x p) f pos2) X.env := by rfl) (hsw : swapsWith (.Call (.Attribute (.Attribute (.Name x p) f pos2) "append" apos) [e] [] cpos) none spos.line X.env = pure false := by rfl) :
    QS X (.Expr (.Call (.Attribute (.Attribute (.Name x p) f pos2) "append" apos) [e] [] cpos) spos) [] (wFldApp cs f n we) where
  mono := fun l h => onFl2_mono (fun _ _ _ _ _ _ z => he.mono (fun m ⟨y, e, h1, q⟩ => ⟨y, e, h1, l.nx _ q⟩) (l.ex _) z) h
  run := fun W F0 H0 tk => psImp (ps_expr (pe_bm PySem.F.plainAttrs_list PySem.F.slot_list_append PySem.F.type_list_append mt_append (pe_fld (pe_var hN hv hd hcd) hb) (pa_cons (he.run W F0 H0 tk) pa_nil hs) hbase hfew hline hs rfl) hsw) fun D σ H ⟨ρ, F, rel, z⟩ => by
    obtain ⟨a, c, fs, ms, e0, hcs, j, l, hj1, hj2, q⟩ := onOb_of z
    obtain ⟨dx, kvs, b, us, g1, g2, g3, g4, g5, g6, _⟩ := rel.updOb rfl e0 hj2
    obtain ⟨C, NA⟩ := hc _ hcs
    refine ⟨.ref a, g1, a, _, dx, kvs, .ref b, rfl, g2, C, NA, ?_, .inl ⟨rfl, us, SqL.of g5⟩, ρ, F, rel, he.mono (fun m hm => ?_) (fun _ q => exq rel q) q⟩
    · rw [fix_some (by rw [g3]; exact hj1)]; exact g4
    obtain ⟨y, hy, hl, q⟩ := hm
    intro v H1 F1 fp x1 r hf hn
    have x2 := ext_frz x1 r hf
    have ry := r.frz (frzH_frz fun b hb => (r.own b hb).1) hy
    generalize frzH F1 H1 fp = F2 at x2 ry
    obtain ⟨us', k1, k2, k3⟩ := fl2_later rel x2 e0 hj2 g5 g2 g4
    exact ⟨b, us', v, rfl, rfl, k1, lt_line (by rw [← k2.length]; exact hl), q σ F2 _ x2.f (k3 _ _ (k2.append (.cons ry .nil))) .refl⟩
/-- x.f.remove(e): ints -/
def wFldRem (cs : List Str) (f : Str) (n : Nat) (we : TW) : TSW := fun D ρ => onFl2 cs f ρ n fun a c fs ms j l => we ρ (onI fun k => ∃ ns, RT.D.ints l = some ns ∧ k ∈ ns ∧ D.nx (ρ.set n (some (.ob a .o c fs (ms.set j (.fl .o ((ns.erase k).map .int))))))) (D.ex ρ)
theorem s_fldRem {cs : List Str} (n : Nat) (hc : FldT X.K cs f) (he : QE X e we) (hN : X.N[n]? = some x := by rfl) (hv : Vis X.env.scope x := by first | exact Or.inl rfl | exact Or.inr (Or.inl rfl) | exact Or.inr (Or.inr rfl)) (hd : (x == ("__debug__" : Str)) = false := by decide) (hcd : (x == ("__classdict__" : Str)) = false := by decide)
    (hb : attributeBase (.Name x p) f X.env (eval (.Name x p) X.env) = eval (.Name x p) X.env := by rfl)
    (hfew : ((backTo cpos (starEach [e] X.env)).all (fun x => !x.1) && (backToKw cpos (keywordEach [] X.env)).all (fun x => x.1.isSome) && decide (([e] : List Expr).length + ([] : List Keyword).length + (if ([] : List Keyword).isEmpty then 0 else 1) < 30)) = true := by rfl)
    (hline : (apos.endLine == cpos.line) = true := by rfl) (hs : starEach [e] X.env = [(false, eval e X.env)] := by rfl) (hbase : attributeBase (.Attribute (.Name x p) f pos2) "remove" X.env (eval (.Attribute (.Name x p) f pos2) X.env) = eval (.Attribute (.Name x p) f pos2) X.env := by rfl) (hsw : swapsWith (.Call (.Attribute (.Attribute (.Name x p) f pos2) "remove" apos) [e] [] cpos) none spos.line X.env = pure false := by rfl) :
    QS X (.Expr (.Call (.Attribute (.Attribute (.Name x p) f pos2) "remove" apos) [e] [] cpos) spos) [] (wFldRem cs f n we) where
  mono := fun l h => onFl2_mono (fun _ _ _ _ _ _ z => he.mono (fun m q => onI_mono (fun k ⟨ns, e, h1, q⟩ => ⟨ns, e, h1, l.nx _ q⟩) q) (l.ex _) z) h
  run := fun W F0 H0 tk => psImp (ps_expr (pe_bm PySem.F.plainAttrs_list PySem.F.slot_list_remove PySem.F.type_list_remove mt_remove (pe_fld (pe_var hN hv hd hcd) hb) (pa_cons (he.run W F0 H0 tk) pa_nil hs) hbase hfew hline hs rfl) hsw) fun D σ H ⟨ρ, F, rel, z⟩ => by
    obtain ⟨a, c, fs, ms, e0, hcs, j, l, hj1, hj2, q⟩ := onOb_of z
    obtain ⟨dx, kvs, b, us, g1, g2, g3, g4, g5, g6, _⟩ := rel.updOb rfl e0 hj2
    obtain ⟨C, NA⟩ := hc _ hcs
    refine ⟨.ref a, g1, a, _, dx, kvs, .ref b, rfl, g2, C, NA, ?_, .inl ⟨rfl, us, SqL.of g5⟩, ρ, F, rel, he.mono (fun m hm => ?_) (fun _ q => exq rel q) q⟩
    · rw [fix_some (by rw [g3]; exact hj1)]; exact g4
    intro v H1 F1 fp x1 r hf hn
    obtain ⟨kk, ek, ns, e1, hk, q⟩ := onI_of hm r
    obtain ⟨us', k1, k2, k3⟩ := fl2_later rel x1 e0 hj2 g5 g2 g4
    obtain ⟨jj, j1, j2, j3⟩ := erase_ix hk
    have e2 := k2.ints e1
    subst e2
    refine ⟨b, ns, kk, jj, rfl, by rw [ek], k1, j1, j2, q σ F1 _ x1.f (k3 _ _ ?_) .refl⟩
    rw [j3]
    exact reps_map (fun i => .int) _
/-- x.f = e -/
def wFldSet (cs : List Str) (f : Str) (n : Nat) (we : TW) : TSW := fun D ρ => onOb ρ n fun a c fs ms => c ∈ cs ∧ fs.length < 900 ∧ we ρ (fun m => m.sto = true ∧ D.nx (ρ.set n (some (.ob a .o c (putN f fs) (putM f m fs ms))))) (D.ex ρ)
theorem s_fldSet {cs : List Str} (n : Nat) (hc : FldT X.K cs f) (he : QE X e we) (hN : X.N[n]? = some x := by rfl) (hv : Vis X.env.scope x := by first | exact Or.inl rfl | exact Or.inr (Or.inl rfl) | exact Or.inr (Or.inr rfl)) (hd : (x == ("__debug__" : Str)) = false := by decide) (hcd : (x == ("__classdict__" : Str)) = false := by decide)
    (hs : swapsWith e (some (.Attribute (.Name x p) f pos2)) spos.line X.env = pure false := by rfl) : QS X (.Assign [.Attribute (.Name x p) f pos2] e spos) [] (wFldSet cs f n we) where
  mono := fun l h => onOb_mono (fun _ _ _ _ ⟨h1, h2, q⟩ => ⟨h1, h2, he.mono (fun m ⟨q1, q2⟩ => ⟨q1, l.nx _ q2⟩) (l.ex _) q⟩) h
  run := fun W F0 H0 tk => psImp (ps_fld (pe_var hN hv hd hcd) (he.run W F0 H0 tk) hs) fun D σ H ⟨ρ, F, rel, z⟩ => by
    obtain ⟨a, c, fs, ms, e0, hcs, hlen, q⟩ := onOb_of z
    refine ⟨ρ, F, rel, he.mono (fun m hm => ?_) (fun _ q => exq rel q) q⟩
    intro v H1 F1 fp x1 r hf hn
    obtain ⟨h1, dx, kvs, g2, g3, g4⟩ := (rel.push x1 r hf hn).putOb (f := f) hm.1 e0
    obtain ⟨C, NA⟩ := hc _ hcs
    exact ⟨.ref a, h1, a, _, dx, kvs, rfl, g2, C, NA, by rw [← List.length_map (f := (·.1)), g3]; omega, hm.2 σ F1 _ x1.f g4 .refl⟩
/-- x.f = y, y's own tree goes over -/
def wFldMv (cs : List Str) (f : Str) (n j : Nat) : TSW := fun D ρ => onOb ρ n fun a c fs ms => c ∈ cs ∧ fs.length < 900 ∧ n ≠ j ∧ onS ρ j fun m => m.ret = true ∧ D.nx ((ρ.set j none).set n (some (.ob a .o c (putN f fs) (putM f m fs ms))))
/-- a slot's tree is taken out -/
theorem Rel.take {i : Nat} (r : Rel X.K F0 H0 ρ σ [] [] F H) (h : ρ[i]? = some (some m)) : ∃ v, σ[i]? = some (some v) ∧ m.sto = true ∧ Rel X.K F0 H0 (ρ.set i none) σ [m] [v] F H := by
  obtain ⟨e, l, fs, ft, n1, n2, ow, dj, dt, rt, sl⟩ := r
  obtain ⟨v, h1, h2, h3⟩ := sl i m h
  refine ⟨v, h1, h2, e, by rw [List.length_set, l], fun j => if j = i then [] else fs j, fs i, n2 i, fun j => ?_, fun j a ha => ?_, fun j k a ha hb => ?_, fun j a ha hb => ?_, ?_, fun j m2 hj => ?_⟩
  · dsimp only; split
    · exact List.nodup_nil
    · exact n2 j
  · dsimp only at ha; split at ha
    · cases ha
    · exact ow j a ha
  · dsimp only at ha hb
    split at ha <;> split at hb
    · cases ha
    · cases ha
    · cases hb
    · exact dj j k a ha hb
  · dsimp only at ha; split at ha
    · cases ha
    · rename_i hj; exact hj (dj j i a ha hb)
  · unfold RepMs
    exact ⟨v, [], fs i, [], rfl, (List.append_nil _).symm, h3, by unfold RepMs; exact ⟨rfl, rfl⟩⟩
  · dsimp only
    by_cases hji : j = i
    · subst hji
      by_cases hl : j < ρ.length
      · rw [List.getElem?_set_self hl] at hj; cases hj
      · rw [List.getElem?_eq_none (by simpa using hl)] at hj; cases hj
    · rw [if_neg hji]
      rw [List.getElem?_set_ne (Ne.symm hji)] at hj
      exact sl j m2 hj
theorem s_fldMv {cs : List Str} {py : Pos} (n j : Nat) (hc : FldT X.K cs f) (hN : X.N[n]? = some x := by rfl) (hv : Vis X.env.scope x := by first | exact Or.inl rfl | exact Or.inr (Or.inl rfl) | exact Or.inr (Or.inr rfl)) (hd : (x == ("__debug__" : Str)) = false := by decide) (hcd : (x == ("__classdict__" : Str)) = false := by decide)
    (hN2 : X.N[j]? = some y := by rfl) (hv2 : Vis X.env.scope y := by first | exact Or.inl rfl | exact Or.inr (Or.inl rfl) | exact Or.inr (Or.inr rfl)) (hd2 : (y == ("__debug__" : Str)) = false := by decide) (hcd2 : (y == ("__classdict__" : Str)) = false := by decide)
    (hs : swapsWith (.Name y py) (some (.Attribute (.Name x p) f pos2)) spos.line X.env = pure false := by rfl) : QS X (.Assign [.Attribute (.Name x p) f pos2] (.Name y py) spos) [] (wFldMv cs f n j) where
  mono := fun l h => onOb_mono (fun _ _ _ _ ⟨h1, h2, h3, q⟩ => ⟨h1, h2, h3, onS_mono (fun m q => ⟨q.1, l.nx _ q.2⟩) q⟩) h
  run := fun W F0 H0 tk => psImp (ps_fld (pe_var hN hv hd hcd) (pe_var hN2 hv2 hd2 hcd2) hs) fun D σ H ⟨ρ, F, rel, z⟩ => by
    obtain ⟨a, c, fs, ms, e0, hcs, hlen, hnj, q⟩ := onOb_of z
    obtain ⟨m, e1, hr, q⟩ := onS_of q
    obtain ⟨v, h1, _, rel1⟩ := rel.take e1
    obtain ⟨g1, dx, kvs, g2, g3, g4⟩ := rel1.putOb (f := f) (M.sto_of_ret hr) (by rw [List.getElem?_set_ne (Ne.symm hnj)]; exact e0)
    obtain ⟨C, NA⟩ := hc _ hcs
    exact ⟨v, h1, .ref a, g1, a, _, dx, kvs, rfl, g2, C, NA, by rw [← List.length_map (f := (·.1)), g3]; omega, q σ F _ (.refl _) g4 .refl⟩
/-- return x.f, the field's own tree goes out -/
def wRetF (cs : List Str) (f : Str) (n : Nat) : TSW := fun D ρ => onOb ρ n fun a c fs ms => c ∈ cs ∧ ∃ j m, fix f fs = some j ∧ ms[j]? = some m ∧ m.ret = true ∧ D.rt m
theorem s_retF {cs : List Str} (n : Nat) (hc : FldT X.K cs f) (hN : X.N[n]? = some x := by rfl) (hv : Vis X.env.scope x := by first | exact Or.inl rfl | exact Or.inr (Or.inl rfl) | exact Or.inr (Or.inr rfl)) (hd : (x == ("__debug__" : Str)) = false := by decide) (hcd : (x == ("__classdict__" : Str)) = false := by decide)
    (hb : attributeBase (.Name x p) f X.env (eval (.Name x p) X.env) = eval (.Name x p) X.env := by rfl) : QS X (.Return (some (.Attribute (.Name x p) f pos2)) spos) [] (wRetF cs f n) where
  mono := fun l h => onOb_mono (fun _ _ _ _ ⟨h1, j, m, h2, h3, h4, q⟩ => ⟨h1, j, m, h2, h3, h4, l.rt _ q⟩) h
  run := fun W F0 H0 tk => psImp (ps_ret (pe_fld (pe_var hN hv hd hcd) hb)) fun D σ H ⟨ρ, F, rel, z⟩ => by
    obtain ⟨a, c, fs, ms, e0, hcs, j, m, hj1, hj2, hr, q⟩ := onOb_of z
    obtain ⟨v, fp, h1, _, r, nd⟩ := rel.get e0
    unfold RepM at r
    obtain ⟨dx, kvs, f', e, ⟨e2, g1, g2, g3⟩, ek, r2⟩ := r
    subst e; subst e2
    obtain ⟨C, NA⟩ := hc _ hcs
    obtain ⟨fs', a1, a2, a3, a4⟩ := reps_split r2 (List.nodup_cons.mp nd).2
    obtain ⟨u, u1, u2⟩ := a4 j m hj2
    exact ⟨.ref a, h1, a, _, dx, kvs, u, rfl, g1, C, NA, by rw [fix_some (by rw [ek]; exact hj1)]; exact u1, q hr u F H (fs' j) (.refl _) rel.e u2 (a1 j)⟩
/-- return e in a method: self stands beside it -/
def wRetK (we : TW) : TSW := fun D ρ => we ρ (fun m => onS ρ 0 fun m0 => (M.pk m m0).ret = true ∧ D.rt (.pk m m0)) (D.ex ρ)
theorem s_retK (he : QE X e we) : QS X (.Return (some e) pos) [] (wRetK we) where
  mono := fun l h => he.mono (fun m q => onS_mono (fun m0 q => ⟨q.1, l.rt _ q.2⟩) q) (l.ex _) h
  run := fun W F0 H0 tk => psImp (ps_ret (he.run W F0 H0 tk)) fun D σ H ⟨ρ, F, rel, h⟩ =>
    ⟨ρ, F, rel, he.mono (fun m hm v H1 F1 fp x r hf hn => by
      obtain ⟨m0, e0, hr, q⟩ := onS_of hm
      have rel1 := rel.push x r hf hn
      obtain ⟨fp2, r2, n2⟩ := rel1.pack e0
      exact q hr v F1 H1 fp2 x.f rel1.e r2 n2) (fun _ z => exq rel z) h⟩
/-- C(..): the arguments are pure or just made -/
def isNew (a : Addr) (c : Str) (r : M) (P : M → Prop) : Prop := match r with
  | .pk (.d .non) (.ob a' .o c' fs l) => a' = a ∧ c' = c ∧ P (.ob a .o c fs l)
  | _ => False
theorem isNew_mono {a : Addr} {r : M} {P P' : M → Prop} (h : ∀ m, P m → P' m) (q : isNew a c r P) : isNew a c r P' := by
  unfold isNew at q ⊢; split at q <;> first | exact ⟨q.1, q.2.1, h _ q.2.2⟩ | exact q
theorem isNew_of {a : Addr} {r : M} {P : M → Prop} (q : isNew a c r P) : ∃ fs l, r = .pk (.d .non) (.ob a .o c fs l) ∧ P (.ob a .o c fs l) := by
  unfold isNew at q; split at q
  · obtain ⟨e1, e2, q⟩ := q; subst e1 e2; exact ⟨_, _, rfl, q⟩
  · exact q.elim
def wNew (c : Str) (T : TSpM) (dd : List D) (w : TAW) : TW := fun ρ Q E => w ρ (fun ms => M.rets ms = true ∧ ∀ a : Addr, T (.ob a .o c [] [] :: (ms ++ dd.map .d)) (fun r => isNew a c r Q) (fun _ y => E y)) E
theorem reps_appF : ∀ {ms ns : List M} {vs us : List V} {fp : List Addr} {K : PySem.W.Frag}, RepMs K F H0 H ms vs fp → RepMs K F H0 H ns us [] → RepMs K F H0 H (ms ++ ns) (vs ++ us) fp
  | [], ns, vs, us, fp, K, h, h' => by unfold RepMs at h; rw [h.1, h.2]; exact h'
  | m :: ms, ns, vs, us, fp, K, h, h' => by
    unfold RepMs at h
    obtain ⟨v, r, f, g, e, e2, q, z⟩ := h
    rw [e, e2]
    show RepMs K F H0 H (m :: (ms ++ ns)) (v :: (r ++ us)) _
    unfold RepMs
    exact ⟨v, r ++ us, f, g, rfl, rfl, q, reps_appF z h'⟩
theorem new_core {es : List Expr} (h : Mkx X.prog X.w X.K X.mg X.base c k dd T) (ha : QA X es w) {dv : List V} (hds : ∀ F, RepDs X.K F dd dv) {t : TA} (ht : ∀ σ H Q, liftA X W F0 H0 w σ H Q → t σ H Q) {Qh : VK} (q : liftE X W F0 H0 (wNew c T dd w) σ H Qh) : tMakeSD (He.ga X.K c) (spOw X.mg X.K T) dv (WE W) t σ H Qh := by
  obtain ⟨ρ, F, rel, z⟩ := q
  refine ht _ _ _ ⟨ρ, F, rel, ha.mono (fun ms hm vs H1 F1 fp x1 r hf hn => ?_) (fun _ q => q) z⟩
  obtain ⟨hret, hT⟩ := hm
  intro x dx hx hdx hne
  have s1 : Ext F1 H1 F1 (L2.upd H1 dx (.own x)) := Ext.mine x1.s hdx
  have hx2 : (L2.upd H1 dx (.own x)) x = none := by rw [upd_ne (Ne.symm hne)]; exact hx
  have s2 : Ext F1 (L2.upd H1 dx (.own x)) F1 (L2.upd (L2.upd H1 dx (.own x)) x (.ins (He.ga X.K c) dx [])) := Ext.mine s1.s hx2
  have x2 := s1.trans s2
  generalize hH2 : L2.upd (L2.upd H1 dx (.own x)) x (.ins (He.ga X.K c) dx []) = H2 at x2
  have hx3 : H2 x = some (.ins (He.ga X.K c) dx []) := by rw [← hH2]; exact upd_same
  have xfp : x ∉ fp := fun hb => by
    obtain ⟨_, ⟨o, q⟩, _⟩ := r.own x hb
    rw [hx] at q; cases q
  have low : ∀ {b : Addr}, mins H2 (x :: fp) b = none → H b = none := fun {b} q => by
    by_cases hb : b ∈ x :: fp
    · rcases List.mem_cons.mp hb with z | z
      · rw [z]; exact x1.h.free hx
      · exact hf b z
    · rw [mins_out hb] at q
      exact x1.h.free (x2.h.free q)
  have sM : Same F1 (mins H2 (x :: fp)) := fun b o q => by
    rw [mins_out fun hb => by
      rcases List.mem_cons.mp hb with z | z
      · rw [z, x1.s.free hx] at q; cases q
      · rw [(r.own b z).1] at q; cases q]
    exact (x1.s.trans x2.h) _ _ q
  have cmp : ∀ {F' H' : Hp}, Ext F1 (mins H2 (x :: fp)) F' H' → Ext F H F' H' := fun {F' H'} y => by
    refine ⟨fun b o q => y.h _ _ ?_, x1.f.trans y.f, y.s, fun b o q => ?_⟩
    · cases e : mins H2 (x :: fp) b with
      | none => rw [low e] at q; cases q
      | some u =>
        have e2 : H2 b = some u := mins_same _ _ e
        rw [(x1.trans x2).h _ _ q] at e2
        exact e2.symm ▸ rfl
    · rcases y.n b o q with e | e
      · exact x1.n b o e
      · exact .inr (low e)
  refine ⟨F1, mins H2 (x :: fp), .ob x .o c [] [] :: (ms ++ dd.map .d), x :: fp, sM, mins_same, ?_, List.nodup_cons.mpr ⟨xfp, hn⟩, h.mono (fun m hm => ?_) (fun m0 y hy => ?_) (hT x)⟩
  · unfold RepMs
    refine ⟨.ref x, vs ++ dv, [x], fp, rfl, rfl, ?_, reps_appF ((r.ext x2).re hret fun b hb => mins_in (List.mem_cons_of_mem _ hb)) (reps_d (hds F1))⟩
    unfold RepM
    refine ⟨dx, [], [], rfl, ⟨rfl, hx3, x1.s.free hx, mins_in List.mem_cons_self⟩, rfl, ?_⟩
    unfold RepMs; exact ⟨rfl, rfl⟩
  · intro hr v H' F' fp' y rm nn
    obtain ⟨fs, l, e, q⟩ := isNew_of hm
    subst e
    unfold M.ret at hr
    rw [Bool.and_eq_true] at hr
    have own := rm.own
    unfold RepM at rm
    obtain ⟨f, g, u, e2, q1, q2⟩ := rm
    obtain ⟨q3, q4⟩ := q1.ofD
    subst e2; subst q3
    refine ⟨q4.ofNon, ?_⟩
    have hu : u = .ref x := by unfold RepM at q2; obtain ⟨_, _, _, e, _⟩ := q2; exact e
    subst hu
    exact q (.ref x) H' F' g (cmp y) (q2.re hr.2 fun b hb => rel.e.h.free (low (q2.own b hb).2.2)) (fun b hb => low (q2.own b hb).2.2) (by simpa using nn)
  · intro _ cls d u H' F' fp' y rx _ _
    exact hy cls d H' F' (cmp y) rx
theorem q_new (h : Mkx X.prog X.w X.K X.mg X.base c k dd T) (hr : Room (k + 1) X.A) (hg : Gl X c) (ha : QA X (e :: es) w) (hdb : (c == ("__debug__" : Str)) = false := by decide)
    (he : starEach (e :: es) X.env = (false, eval e X.env) :: starEach es X.env := by rfl) (hpl : (backTo pos (starEach es X.env)).any (·.1) = false := by rfl) : QE X (.Call (.Name c p) (e :: es) [] pos) (wNew c T dd w) where
  mono := fun hq hE z => ha.mono (fun ms ⟨h1, q⟩ => ⟨h1, fun a => h.mono (fun r => isNew_mono hq) (fun _ _ => hE _) (q a)⟩) hE z
  run := fun W F0 H0 tk => by
    obtain ⟨f, fd, ps, dv, du, Fn, Mk, hm, hb, hd, hds⟩ := h.ok
    exact peImp (pe_makeSD (E := fun σ => WE W σ) Mk Fn hr hg hm hb hd (fun σ => passAt tk σ) (ha.run W F0 H0 tk) hdb he hpl) fun σ H Qh q => new_core h ha hds (fun _ _ _ q => q) q
theorem q_new0 (h : Mkx X.prog X.w X.K X.mg X.base c k dd T) (hr : Room (k + 1) X.A) (hg : Gl X c) (hdb : (c == ("__debug__" : Str)) = false := by decide) : QE X (.Call (.Name c p) [] [] pos) (wNew c T dd wNil) where
  mono := fun hq hE z => qa_nil.mono (X := X) (fun ms ⟨h1, q⟩ => ⟨h1, fun a => h.mono (fun r => isNew_mono hq) (fun _ _ => hE _) (q a)⟩) hE z
  run := fun W F0 H0 tk => by
    obtain ⟨f, fd, ps, dv, du, Fn, Mk, hm, hb, hd, hds⟩ := h.ok
    exact peImp (pe_makeSD0 (E := fun σ => WE W σ) Mk Fn hr hg hm hb hd (fun σ => passAt tk σ) hdb) fun σ H Qh q => new_core h qa_nil hds tnil_of q
end
end RT
namespace RT
open PySem PySem.Spec PyProof.Rows L2
/-! ### xs.index(x) of a list of data of any depth; the equations of instances -/
section
variable {X : Cx} {K : PySem.W.Frag} {F F' H H' H0 F0 : Hp} {o e : Expr} {wo wa : TW} {apos cpos : Pos}
def idxB (d : D) (l : List D) : Option Nat := l.findIdx? fun z => z.eqb d
def wIdxB (wo wa : TW) : TW := fun ρ Q E => wo ρ (fun x => ∃ l, x.snap = some (.lst l) ∧ wa ρ (fun y => ∃ d j, y.snap = some d ∧ (D.lst l).ok ∧ d.ok ∧ idxB d l = some j ∧ Q (.d (.int (j : Nat)))) E) E
theorem q_idxB (hu : X.A.units + 65 < cLine) (ho : QE X o wo) (ha : QE X e wa) (hbase : attributeBase o "index" X.env (eval o X.env) = eval o X.env := by rfl)
    (hfew : ((backTo cpos (starEach [e] X.env)).all (fun x => !x.1) && (backToKw cpos (keywordEach [] X.env)).all (fun x => x.1.isSome) && decide (([e] : List Expr).length + ([] : List Keyword).length + (if ([] : List Keyword).isEmpty then 0 else 1) < 30)) = true := by rfl)
    (hline : (apos.endLine == cpos.line) = true := by rfl) (hs : starEach [e] X.env = [(false, eval e X.env)] := by rfl) : QE X (.Call (.Attribute o "index" apos) [e] [] cpos) (wIdxB wo wa) where
  mono := fun hq h z => ho.mono (fun x ⟨l, e1, q⟩ => ⟨l, e1, ha.mono (fun y ⟨d, j, e2, h1, h2, h3, q⟩ => ⟨d, j, e2, h1, h2, h3, hq _ q⟩) h q⟩) h z
  run := fun W F0 H0 tk => peImp (pe_bm PySem.F.plainAttrs_list PySem.F.slot_list_index PySem.F.type_list_index (mt_indexD hu) (ho.run W F0 H0 tk) (pa_cons (ha.run W F0 H0 tk) pa_nil hs) hbase hfew hline hs rfl) fun σ H Qh ⟨ρ, F, rel, z⟩ => by
    refine ⟨ρ, F, rel, ho.mono (fun x hx v H1 F1 fp x1 r hf hn => ?_) (fun _ q => q) z⟩
    obtain ⟨l, e1, q⟩ := hx
    have ty : ∃ a vs, v = .ref a ∧ SqL X.K H1 a vs := by
      cases x with
      | d y =>
        unfold M.snap at e1; cases e1
        obtain ⟨a, vs, e, p, _⟩ := (by have := r.ofD.2; unfold RepD at this; exact this)
        exact ⟨a, vs, e, SqL.of (x1.s _ _ p)⟩
      | fl k l' =>
        unfold RepM at r
        obtain ⟨a, vs, e, p, _⟩ := r
        exact ⟨a, vs, e, SqL.of (p.now (rel.e.h.trans x1.h))⟩
      | ml k l' =>
        unfold RepM at r
        obtain ⟨a, vs, f, e, p, _⟩ := r
        exact ⟨a, vs, e, SqL.of (p.now (rel.e.h.trans x1.h))⟩
      | mt l' =>
        unfold M.snap at e1
        cases q : M.snaps l' with
        | none => rw [q] at e1; cases e1
        | some xs => rw [q] at e1; cases e1
      | fd _ _ => unfold M.snap at e1; cases e1
      | md _ _ _ => unfold M.snap at e1; cases e1
      | ob _ _ _ _ _ => unfold M.snap at e1; cases e1
      | pk _ _ => unfold M.snap at e1; cases e1
    obtain ⟨a, vs, ev, hsq⟩ := ty
    subst ev
    refine ⟨.inl ⟨rfl, vs, hsq⟩, ρ, F1, rel.ext x1, ha.mono (fun y hy u H2 F2 fp2 x2 r2 _ _ => ?_) (fun _ q => q.ext x1) q⟩
    obtain ⟨d, j, e2, ok1, ok2, hj, q⟩ := hy
    have z2 := (rel.e.h.trans x1.h).trans x2.h
    have dl := (r.ext x2).dp x2.s z2 e1 ok1.lay
    unfold D.py at dl
    have ok1' := ok1
    unfold D.ok D.py at ok1'
    obtain ⟨hjl, h1, h2⟩ := List.findIdx?_eq_some_iff_getElem.mp hj
    refine ⟨a, u, d.py, D.pys l, j, (l[j]).py, rfl, rfl, dl, r2.dp x2.s z2 e2 ok2.lay, ok1', ok2, by rw [pys_map, List.getElem?_map, List.getElem?_eq_getElem hjl]; rfl, h1, fun m z' hm hz => ?_, ((q.ext x1).ext x2).here x2.s (.d .int)⟩
    rw [pys_map, List.getElem?_map, List.getElem?_eq_getElem (by omega)] at hz
    have hz := Option.some.inj hz
    rw [← hz]
    have q3 : (l[m]).eqb d = false := Bool.eq_false_iff.mpr (h2 m hm)
    exact q3
end
theorem fldT1 {K : PySem.W.Frag} {c f : Str} (h1 : L2.Cls K (He.ga K c)) (h2 : NoAttr K (He.ga K c) f) : FldT K [c] f := fun x hx => by
  rw [List.mem_singleton.mp hx]; exact ⟨h1, h2⟩
theorem fldTC {K : PySem.W.Frag} {c f : Str} {cs : List Str} (h1 : L2.Cls K (He.ga K c)) (h2 : NoAttr K (He.ga K c) f) (h : FldT K cs f) : FldT K (c :: cs) f := fun x hx => by
  rcases List.mem_cons.mp hx with e | e
  · rw [e]; exact ⟨h1, h2⟩
  · exact h x e
/-! the equations -/
section
variable {Q : M → Prop} {E : XP} {ρ r : Sg} {De : EndW} {m m' m0 : M} {i j n : Nat} {o : Option M} {a a' : Addr} {c c' x f : Str} {fs : List Str} {l : List M} {T : TSpM} {dd : List D} {w : TAW} {k : Md} {cs : List Str}
theorem onOb_0 {P : Addr → Str → List Str → List M → Prop} : onOb (some (.ob a .o c fs l) :: r) 0 P = P a c fs l := propext Iff.rfl
theorem onOb_s {P : Addr → Str → List Str → List M → Prop} : onOb (o :: r) (n + 1) P = onOb r n P := propext Iff.rfl
theorem onS_0 {P : M → Prop} : onS (some m :: r) 0 P = P m := propext Iff.rfl
theorem onS_s {P : M → Prop} : onS (o :: r) (n + 1) P = onS r n P := propext Iff.rfl
theorem isPk_e {P : M → M → Prop} : isPk a (.pk m (.ob a' .o c fs l)) P = (a' = a ∧ P m (.ob a .o c fs l)) := propext Iff.rfl
theorem isOb_e {P : M → Prop} : isOb a (.ob a' .o c fs l) P = (a' = a ∧ P (.ob a .o c fs l)) := propext Iff.rfl
theorem isNew_e {P : M → Prop} : isNew a c (.pk (.d .non) (.ob a' .o c' fs l)) P = (a' = a ∧ c' = c ∧ P (.ob a .o c fs l)) := propext Iff.rfl
theorem fldM_e : fldM cs f (.ob a k c fs l) Q = (c ∈ cs ∧ onFld f fs l fun y => Q y.lock) := propext Iff.rfl
theorem fldM_d {l : List D} : fldM cs f (.d (.obj c fs l)) Q = (c ∈ cs ∧ ∃ j y, fix f fs = some j ∧ l[j]? = some y ∧ Q (.d y)) := propext Iff.rfl
theorem obC_d {P : M → Prop} {l : List D} : obC c x (.d (.obj c' fs l)) P = (c' = c ∧ fix x fs = none ∧ P (.d (.obj c' fs l))) := propext Iff.rfl
theorem obC_e {P : M → Prop} : obC c x (.ob a k c' fs l) P = (c' = c ∧ fix x fs = none ∧ P (.ob a k c' fs l)) := propext Iff.rfl
theorem wMeth_e : wMeth i c x T dd w De ρ = onOb ρ i fun a c' fs l => c' = c ∧ fix x fs = none ∧ (M.ob a .o c' fs l).ret = true ∧ w ρ (fun ms => ∃ ds, M.ds ms = some ds ∧
  T (.ob a .o c' fs l :: (ds ++ dd).map .d) (fun r => isPk a r fun _ m0 => De.nx (ρ.set i (some m0))) (fun m0 y => isOb a m0 fun m0 => De.ex (ρ.set i (some m0)) y)) (De.ex ρ) := propext Iff.rfl
theorem wMethS_e : wMethS j i c x T dd w De ρ = onOb ρ i fun a c' fs l => c' = c ∧ fix x fs = none ∧ (M.ob a .o c' fs l).ret = true ∧ w ρ (fun ms => ∃ ds, M.ds ms = some ds ∧
  T (.ob a .o c' fs l :: (ds ++ dd).map .d) (fun r => isPk a r fun m m0 => De.nx ((ρ.set i (some m0)).set j (some m))) (fun m0 y => isOb a m0 fun m0 => De.ex (ρ.set i (some m0)) y)) (De.ex ρ) := propext Iff.rfl
theorem wMethR_e : wMethR i c x T dd w De ρ = onOb ρ i fun a c' fs l => c' = c ∧ fix x fs = none ∧ (M.ob a .o c' fs l).ret = true ∧ w ρ (fun ms => ∃ ds, M.ds ms = some ds ∧
  T (.ob a .o c' fs l :: (ds ++ dd).map .d) (fun r => isPk a r fun m _ => De.rt m) (fun m0 y => isOb a m0 fun m0 => De.ex (ρ.set i (some m0)) y)) (De.ex ρ) := propext Iff.rfl
theorem wMethRK_e : wMethRK c x T dd w De ρ = onOb ρ 0 fun a c' fs l => c' = c ∧ fix x fs = none ∧ (M.ob a .o c' fs l).ret = true ∧ w ρ (fun ms => ∃ ds, M.ds ms = some ds ∧
  T (.ob a .o c' fs l :: (ds ++ dd).map .d) (fun r => isPk a r fun m m0 => m0.ret = true ∧ De.rt (.pk m m0)) (fun m0 y => isOb a m0 fun m0 => De.ex (ρ.set 0 (some m0)) y)) (De.ex ρ) := propext Iff.rfl
theorem wMvS_e : wMvS j i T dd w De ρ = onS ρ i fun m => m.ret = true ∧ w ρ (fun ms => ∃ ds, M.ds ms = some ds ∧
  T (m :: (ds ++ dd).map .d) (fun r => De.nx ((ρ.set i none).set j (some r))) (fun _ y => De.ex (ρ.set i none) y)) (De.ex ρ) := propext Iff.rfl
theorem wMvR_e : wMvR i T dd w De ρ = onS ρ i fun m => m.ret = true ∧ w ρ (fun ms => ∃ ds, M.ds ms = some ds ∧
  T (m :: (ds ++ dd).map .d) (fun r => De.rt r) (fun _ y => De.ex (ρ.set i none) y)) (De.ex ρ) := propext Iff.rfl
end
end RT
namespace RT
open PySem PySem.Spec PyProof.Rows L2
/-! ### f(..) of a def that changes what it is handed: pure things and things just made -/
section
variable {X : Cx} {F F' H H' H0 F0 : Hp} {ρ : Sg} {σ : L2.St} {W : WX} {e : Expr} {es : List Expr} {w : TAW} {pos p : Pos} {x : Str} {k : Nat} {dd : List D} {T : TSpM}
def wGv (T : TSpM) (dd : List D) (w : TAW) : TW := fun ρ Q E => w ρ (fun ms => M.rets ms = true ∧ T (ms ++ dd.map .d) Q (fun _ y => E y)) E
theorem q_gv (h : FxO X.prog X.w X.K X.mg X.base x k dd T) (hr : Room k X.A) (hg : Gl X x) (ha : QA X (e :: es) w) (hdb : (x == ("__debug__" : Str)) = false := by decide)
    (he : starEach (e :: es) X.env = (false, eval e X.env) :: starEach es X.env := by rfl) (hpl : (backTo pos (starEach es X.env)).any (·.1) = false := by rfl) : QE X (.Call (.Name x p) (e :: es) [] pos) (wGv T dd w) where
  mono := fun hq hE z => ha.mono (fun ms ⟨h1, q⟩ => ⟨h1, h.mono (fun r => hq r) (fun _ _ => hE _) q⟩) hE z
  run := fun W F0 H0 tk => by
    obtain ⟨f, fd, ps, dv, du, Fn, hm, hk, hb, hd, hds⟩ := h.ok
    refine peImp (pe_callSD (E := fun σ => WE W σ) Fn hr hg hm hk hb hd (fun σ => passAt tk σ) (ha.run W F0 H0 tk) hdb he hpl) fun σ H Qh ⟨ρ, F, rel, z⟩ => ?_
    refine ⟨ρ, F, rel, ha.mono (fun ms hm vs H1 F1 fp x1 r hf hn => ?_) (fun _ q => q) z⟩
    obtain ⟨hret, hT⟩ := hm
    have low : ∀ {b : Addr}, mins H1 fp b = none → H b = none := fun {b} q => by
      by_cases hb : b ∈ fp
      · exact hf b hb
      · rw [mins_out hb] at q
        exact x1.h.free q
    have sM : Same F1 (mins H1 fp) := fun b o q => by
      rw [mins_out fun hb => by rw [(r.own b hb).1] at q; cases q]
      exact x1.s _ _ q
    have cmp : ∀ {F' H' : Hp}, Ext F1 (mins H1 fp) F' H' → Ext F H F' H' := fun {F' H'} y => by
      refine ⟨fun b o q => y.h _ _ ?_, x1.f.trans y.f, y.s, fun b o q => ?_⟩
      · cases e : mins H1 fp b with
        | none => rw [low e] at q; cases q
        | some u =>
          have e2 : H1 b = some u := mins_same _ _ e
          rw [x1.h _ _ q] at e2
          exact e2.symm ▸ rfl
      · rcases y.n b o q with e | e
        · exact x1.n b o e
        · exact .inr (low e)
    refine ⟨F1, mins H1 fp, ms ++ dd.map .d, fp, sM, mins_same, reps_appF (r.re hret fun b hb => mins_in hb) (reps_d (hds F1)), hn, h.mono (fun m hm => ?_) (fun m0 y hy => ?_) hT⟩
    · intro hr v H' F' fp' y rm nn
      exact hm v H' F' fp' (cmp y) (rm.re hr fun b hb => rel.e.h.free (low (rm.own b hb).2.2)) (fun b hb => low (rm.own b hb).2.2) nn
    · intro _ cls d u H' F' fp' y rx _ _
      exact hy cls d H' F' (cmp y) rx
end
end RT
namespace RT
open PySem PySem.Spec PyProof.Rows L2
/-! ### a def called in a suite of except (an exception is handled there) -/
/-- what the def promises, whatever is handled -/
structure FnU (P : Program) (w : World) (K : PySem.W.Frag) (mg : Str → Option Value) (base : Heap) (CX : CXT) (k : Nat) (f : Addr) (fd : FuncData) (ps : List Str) (sp : Sp) : Prop where
  len : ∀ vs H Q E, sp vs H Q E → vs.length = ps.length
  run : ∀ (A : Around) (outer : List Env) (s : Shared) (H : Hp) (args : Args) (us : List Value) (vs : List V) (Q : VK) (E : XK), L2H.RoomH k A → Env0 P w K mg base A outer s H → BindsTo s fd args (ps.zip us) → Vals vs us → sp vs H Q E →
    codeAny (model P w) A (.call (.ref f) args) (CR CX outer P w H s Q E) s
def cxU (CX : CXT) (P : Program) (w : World) (K : PySem.W.Frag) (mg : Str → Option Value) (base : Heap) (N : List Str) (qual : Str) (scope : Scope) (f : Addr) (cd : Value) (A : Around) (outer : List Env) (s : Shared) (H : Hp) (E : XK) : Cx :=
  { cxOf CX P w K mg base N qual scope f cd A outer s H E with calm := false }
theorem inv_startU {CX : CXT} {P : Program} {w : World} {K : PySem.W.Frag} {mg : Str → Option Value} {base : Heap} {N ps : List Str} {qual : Str} {scope : Scope} {f : Addr} {cd : Value} {A : Around} {outer : List Env} {s s1 : Shared} {H : Hp} {E : XK} {us : List Value} {vs : List V}
    (S : FnScope N ps scope) (e0 : Env0 P w K mg base A outer s H) (hl : vs.length = ps.length) (r : Vals vs us)
    (x : InCallC s s.heap.objs.size (bindL (envOfC qual scope s.heap.objs.size f cd).kindOf (ps.zip us) fun _ => none) (cellsFrom (s.heap.objs.size + 1) scope.names []) (bindC (envOfC qual scope s.heap.objs.size f cd).kindOf (ps.zip us) fun _ => none) s1) :
    Inv (cxU CX P w K mg base N qual scope f cd A outer s H E) [] (L2.start N vs) H s1 := by
  have hpl : ps.length ≤ N.length := by have := congrArg List.length S.pre; rw [List.length_take] at this; omega
  obtain ⟨h1, tk, rfl, hk⟩ := x.done
  have noA : ∀ b : Addr, b ∉ (cxU CX P w K mg base N qual scope f cd A outer s H E).ex := fun b z => absurd (show b ∈ ([] : List Addr) from z) (by simp)
  refine ⟨⟨e0.mod, S.kind, rfl, rfl, Nat.le_refl _, fun y z c h1 h2 => ?_, fun y hy => ?_, fun y c _ h => ?_, (fun z => Bool.noConfusion (show false = true from z)), Around.frames_deeper e0.frames, .inr ⟨rfl, rfl⟩, fun b z => absurd z (noA b), e0.bs, e0.bsz, fun b _ _ => noA b, fun b z => absurd z (noA b), e0.funs, e0.frf⟩,
    rfl, e0.bare, Un.kept hk, ⟨_, x.toInCall.ns, fun i y v h1 h2 h3 => ?_⟩, fun y c h => ⟨_, x.cell y c h⟩, e0.hok.fresh (Nat.le_refl _), fun y c h => ?_, fun q hq => absurd (show q ∈ ([] : List (Addr × Obj)) from hq) (by simp), e0.hok.kept hk, ?_⟩
  · exact name_of_addr x.apart (PySem.mem_of_lookup h1) (PySem.mem_of_lookup h2)
  · have hy : scope.names.lookup y = some .cell ∨ scope.names.lookup y = some .free := hy
    rcases hy with hy | hy
    · exact cell_has hy
    · exact absurd rfl (S.nofree _ (PySem.mem_of_lookup hy))
  · exact Nat.le_of_lt (x.above y c (PySem.mem_of_lookup h))
  · have hi : i < vs.length := by
      unfold L2.start at h2
      by_cases hi : i < vs.length
      · exact hi
      · rw [List.getElem?_append_right (by simpa using hi)] at h2
        rw [List.getElem?_replicate] at h2
        split at h2 <;> cases h2
    have ha : vs[i]? = some v := by
      unfold L2.start at h2
      rw [List.getElem?_append_left (by simpa using hi), List.getElem?_map] at h2
      cases e : vs[i]? with
      | none => rw [e] at h2; cases h2
      | some a => rw [e] at h2; cases h2; rfl
    obtain ⟨u, hu, rv⟩ := r.get ha
    have hp : ps[i]? = some y := by
      rw [← S.pre, List.getElem?_take_of_lt (by omega)]; exact h1
    have ndP : ps.Nodup := by rw [← S.pre]; exact S.nd.sublist (List.take_sublist _ _)
    refine ⟨u, rv, ?_⟩
    rcases S.par y (List.mem_of_getElem? hp) with k | k
    · exact .inl ⟨k, bindL_get ndP hp hu k⟩
    · obtain ⟨c, e⟩ := cell_has (n := s.heap.objs.size + 1) k
      refine .inr ⟨.inl k, c, e, ?_⟩
      have q := x.cell y c e
      rw [bindC_get ndP hp hu (by show scope.names.lookup y ≠ _; rw [k]; decide)] at q
      exact q
  · exact e0.hok.fresh (Nat.le_of_lt (x.above y c (PySem.mem_of_lookup h)))
  · unfold L2.start
    show _ = N.length
    rw [List.length_append, List.length_map, List.length_replicate]
    omega
theorem fn_ofU {CX : CXT} {P : Program} {w : World} {K : PySem.W.Frag} {mg : Str → Option Value} {base : Heap} {k : Nat} {f : Addr} {name qual : Str} {params : Arguments} {body : List Stmt} {scope : Scope} {dV kV doc pm cdv ct oc : Value} {an od : Option Addr}
    {osl : Array (Option Value)} {N ps : List Str} {sp : Sp} (lk : K.lookup f = some ⟨oc, od, .func (PySem.W.fnOf name qual params body scope dV kV doc pm an cdv ct), osl⟩) (hcd : PySem.W.codeIn K cdv qual = true) (S : FnScope N ps scope)
    (len : ∀ vs H Q E, sp vs H Q E → vs.length = ps.length)
    (hbody : ∀ (A : Around) (outer : List Env) (s : Shared) (H : Hp) (vs : List V) (Q : VK) (E : XK), L2H.RoomH k (A.deeper (envOfC qual scope s.heap.objs.size f cdv)) → sp vs H Q E →
      ∃ t, PSs (cxU CX P w K mg base N qual scope f cdv A outer s H E) body t ∧ t { nx := fun _ H' => Q .non H', rt := Q } (L2.start N vs) H) :
    FnU P w K mg base CX (k + 1) f (PySem.W.fnOf name qual params body scope dV kV doc pm an cdv ct) ps sp := by
  refine ⟨len, fun A outer s H args us vs Q E hr e0 hb r hsp => ?_⟩
  have hl := len _ _ _ _ hsp
  have KX : K.In s.heap := e0.mod.kin.keeps fun b o e => (e0.bs b o e).1
  have lim : s.heap.NoLimit := e0.mod.nolimit.keeps fun b o e => (e0.bs b o e).1
  have hkind : ∀ y ∈ ps.zip us, scope.names.lookup y.1 = some .local ∨ (scope.names.lookup y.1 = some .cell ∧ ((cellsFrom (s.heap.objs.size + 1) scope.names []).lookup y.1).isSome = true) := fun ⟨n, v⟩ hy => by
    rcases S.par n (List.of_mem_zip hy).1 with q | q
    · exact .inl q
    · exact .inr ⟨q, PySem.W.cellsFrom_some _ _ _ (.inl q)⟩
  refine codeAny_call_function hr.depth (KX _ _ lk) rfl S.co S.gen rfl (PySem.W.codeRec_of KX hcd) (hb _ _ _ _ ?_)
  refine wpAny_newFunctionEnv_cells S.kind hkind fun env he s1 x => ?_
  subst he
  refine ⟨lim.keeps x.toInCall.keep, codeAny_func ?_⟩
  obtain ⟨t, ht, hq⟩ := hbody A outer s H vs Q E (hr.deeper _) hsp
  have I : Inv (cxU CX P w K mg base N qual scope f cdv A outer s H E) [] (L2.start N vs) H s1 := inv_startU S e0 hl r x
  refine wpAny_mono (ht.run [] s1 (L2.start N vs) H _ I hq) (fun fl s' hs => ?_) fun e s' hs => hs
  have fin : ∀ {σ' : L2.St} {H' : Hp} {v : V} {u : Value}, Inv (cxU CX P w K mg base N qual scope f cdv A outer s H E) [] σ' H' s' → RelV v u → Q v H' → CE outer P w H s Q u s' :=
    fun {σ' H' v u} J rv q => ⟨v, H', J.os, J.bare, J.base, J.hok, rv, q⟩
  cases fl with
  | ret u =>
    obtain ⟨v, σ', H', J, rv, q⟩ := hs
    exact fin J rv q
  | next =>
    obtain ⟨σ', H', J, q⟩ := hs
    exact fin (v := V.non) (u := Value.none) J rfl q
  | brk =>
    obtain ⟨_, _, _, q⟩ := hs
    exact False.elim q
  | cont =>
    obtain ⟨_, _, _, q⟩ := hs
    exact False.elim q
section
variable {X : Cx} {CX : CXT} {k : Nat} {f : Addr} {fd : FuncData} {ps : List Str} {sp : Sp} {E : L2.St → XK} {x : Str} {q pos : Pos} {e : Expr} {es : List Expr} {t : TA}
theorem pe_callU (Fn : FnU X.prog X.w X.K X.mg X.base CX k f fd ps sp) (hr : L2H.RoomH k X.A) (hg : Gl X x) (hm : X.mg x = some (.ref f)) (hk : PySem.W.keepIn X.K (.ref f) = true) (hb : Binds X.K fd ps []) (hx : ∀ σ, PassesAt CX X σ (E σ))
    (ha : PA X (e :: es) t) (hdb : (x == ("__debug__" : Str)) = false := by decide) (he : starEach (e :: es) X.env = (false, eval e X.env) :: starEach es X.env := by rfl) (hpl : (backTo pos (starEach es X.env)).any (·.1) = false := by rfl) :
    PE X (.Call (.Name x q) (e :: es) [] pos) (tCallSD sp [] E t) := by
  refine ⟨fun pins s σ H Q I h => ?_⟩
  refine wpAny_Call_Name_kw (ld_glob I hg hm ?_ hdb)
  refine PySem.W.callWith_K (h₀ := X.base) I.ok.mod.kin hk (thn (ha.run pos pins s σ H _ I h) fun us s1 ⟨vs, H1, I1, r, q⟩ => ⟨I1.kIn, ?_⟩) he hpl
  have q : sp (vs ++ []) H1 Q (E σ) := q
  rw [List.append_nil] at q
  have hl : us.length = ps.length := by rw [← r.length]; exact Fn.len _ _ _ _ q
  have b := hb s1 us I1.kIn (by rw [List.append_nil]; exact hl)
  rw [List.append_nil] at b
  show wpAny (model X.prog X.w) X.A (call (.ref f) us) (EP X pins σ Q) X.xe s1
  refine wpAny_call (codeAny_mono (Fn.run X.A X.stack s1 H1 ⟨us, []⟩ us vs Q (E σ) hr I1.env0 b r q) fun r s' hq => ?_)
  cases r with
  | error e => exact (hx σ) pins H1 s1 e s' I1 hq
  | ok fl =>
    cases fl with
    | ret u => exact I1.after hq
    | next => exact False.elim hq
    | brk => exact False.elim hq
    | cont => exact False.elim hq
end
abbrev BodyU (P : Program) (w : World) (K : PySem.W.Frag) (mg : Str → Option Value) (base : Heap) (k : Nat) (N : List Str) (d : He.DefD) (wb : TSW) : Prop :=
  ∀ (f : Addr) (cdv : Value) (A : Around) (outer : List Env) (s : Shared) (H : Hp) (E : XK), L2H.RoomH k (A.deeper (envOfC d.qual d.scope s.heap.objs.size f cdv)) →
      ∃ as, QSs (cxU (L2.CX P w) P w K mg base N d.qual d.scope f cdv A outer s H E) d.body as wb
/-- the def that the module's name x holds keeps T, whatever is handled -/
structure FxU (P : Program) (w : World) (K : PySem.W.Frag) (mg : Str → Option Value) (base : Heap) (x : Str) (k : Nat) (T : TSp) : Prop where
  mono : ∀ {ms : List M} {Q Q' : M → Prop} {E E' : XP}, (∀ m, Q m → Q' m) → (∀ x, E x → E' x) → T ms Q E → T ms Q' E'
  ok : ∃ f fd ps, FnU P w K mg base (L2.CX P w) k f fd ps (spOf mg K T) ∧ mg x = some (.ref f) ∧ PySem.W.keepIn K (.ref f) = true ∧ Binds K fd ps []
theorem FxU.up {P : Program} {w : World} {K : PySem.W.Frag} {mg : Str → Option Value} {base : Heap} {x : Str} {j k : Nat} {T : TSp} (h : FxU P w K mg base x j T) (l : j ≤ k) : FxU P w K mg base x k T :=
  ⟨h.mono, let ⟨f, fd, ps, F, r⟩ := h.ok; ⟨f, fd, ps, ⟨F.len, fun A outer s H args us vs Q E hr => F.run A outer s H args us vs Q E (hr.mono l)⟩, r⟩⟩
section
variable {fa : List He.Fa} {fn : List He.DefD} {h : Heap} {P : Program} {w : World} {K : PySem.W.Frag} {mg : Str → Option Value} {base : Heap}
theorem fxu_of {x : Str} {N ps : List Str} {k : Nat} {wb : TSW} {d : He.DefD} (Z : Top fa fn h K mg) (i j : Nat) (S : FnScope N ps d.scope) (B : BodyU P w K mg base k N d wb) (B0 : Body P w K mg base k N d wb) (hk : Room (k + 1) callerA)
    (hb : ∀ (kV doc pm : Value) (an : Option Addr) (cdv ct : Value) (us : List Value), us.length = ps.length → bindArgs (PySem.W.fnOf d.name d.qual d.params d.body d.scope .none kV doc pm an cdv ct) ⟨us, []⟩ = pure (ps.zip us))
    (hd : fn[i]? = some d := by rfl) (hg : fa[j]? = some (.glo x) := by rfl) (hat : d.at_ = (x, none) := by rfl) (h0 : d.dfl = [] := by rfl) (hkw : d.kwd = [] := by rfl) :
    FxU P w K mg base x (k + 1) (tOf ps.length N.length wb) where
  mono := fun hq he t => tOf_mono B0 hk hq he t
  ok := by
    obtain ⟨fd, F⟩ := Z.c.def_ i hd
    have e1 : d.dvs K = [] := by unfold He.DefD.dvs; rw [h0]; rfl
    have e2 : d.kws K = [] := by unfold He.DefD.kws; rw [hkw]; rfl
    rw [e1, e2] at F
    have hgl := Z.glo j hg
    have ea : He.fAd K d.at_ = He.ga K x := by rw [hat]; rfl
    rw [ea] at F
    refine ⟨_, fd, ps, ?_, hgl, F.kp, F.bindsN hb⟩
    obtain ⟨oc, od, dV, kV, doc, pm, an, cdv, ct, osl, rfl, lk, hcd, _, _⟩ := F.ex
    refine fn_ofU lk hcd S (fun vs H Q E hs => ?_) (fun A outer s H vs Q E hr hs => ?_)
    · obtain ⟨F, ms, sF, r, t⟩ := hs
      rw [← r.length]; exact t.1
    · obtain ⟨F, ms, sF, r, t⟩ := hs
      obtain ⟨as, B⟩ := B _ cdv A outer s H E hr
      refine ⟨_, B.run (fun cls d _ H' => E cls d H') F H (takes_of rfl rfl rfl rfl), entry N.length ms, F, rel_entry sF r t.2.1, B.mono ?_ t.2.2⟩
      refine ⟨fun ρ q => ?_, fun m q => ?_, fun _ z => z.elim, fun _ z => z.elim, fun ρ x q => ?_⟩
      · intro σ' F' H' s1 rel f1
        exact q (by unfold M.ret; rfl) .non H' F' [] rel.e (.d .non) List.nodup_nil
      · intro hr v F' H' fp s1 x1 rm hn
        exact q hr v H' F' fp x1 rm hn
      · intro cls d σ' F' H' rel rx
        exact q cls d H' F' rel.e rx
end
section
variable {X : Cx} {e : Expr} {es : List Expr} {w : TAW} {pos p : Pos} {x : Str} {k : Nat} {T : TSp}
theorem q_ownU (h : FxU X.prog X.w X.K X.mg X.base x k T) (hr : L2H.RoomH k X.A) (hg : Gl X x) (ha : QA X (e :: es) w) (hdb : (x == ("__debug__" : Str)) = false := by decide)
    (he : starEach (e :: es) X.env = (false, eval e X.env) :: starEach es X.env := by rfl) (hpl : (backTo pos (starEach es X.env)).any (·.1) = false := by rfl) : QE X (.Call (.Name x p) (e :: es) [] pos) (wOwn T [] w) where
  mono := fun hq he z => ha.mono (fun ms q => h.mono hq he q) he z
  run := fun W F0 H0 tk => by
    obtain ⟨f, fd, ps, Fn, hm, hk, hb⟩ := h.ok
    refine peImp (pe_callU (E := fun σ => WE W σ) Fn hr hg hm hk hb (fun σ => passAt tk σ) (ha.run W F0 H0 tk) hdb he hpl) fun σ H Qh ⟨ρ, F, rel, z⟩ => ?_
    refine ⟨ρ, F, rel, ha.mono (fun ms q => ?_) (fun _ q => q) z⟩
    intro vs H1 F1 fp x r hf hn
    have z1 : Same H0 H1 := rel.e.h.trans x.h
    refine ⟨F1, M.toPs ms ++ ([] : List D).map .d, x.s, (r.toP z1).append (reps_d (by unfold RepDs; rfl)), h.mono (fun m hm => ?_) (fun y hy => ?_) q⟩
    · intro hret v H2 F2 fp2 x2 r2 n2
      refine hm v H2 F2 fp2 (x.trans x2) (r2.re hret fun b hb => ?_) (fun a ha => ?_) n2
      · exact z1.free (r2.own b hb).2.2
      · exact x.h.free (r2.own a ha).2.2
    · intro cls d H2 F2 x2 r2
      exact hy cls d H2 F2 (x.trans x2) r2
end
/-! ### a list times a whole number -/
section
variable {X : Cx} {a b : Expr} {wa wb : TW} {pos : Pos}
def wRep : WR2 := fun x y Q => match y with
  | .d (.int k) => ∃ l, x.lstD = some l ∧ 0 ≤ k ∧ k ≤ 1000 ∧ l.length ≤ 1000 ∧ Q (.fl .o (List.replicate k.toNat l).flatten)
  | _ => False
theorem repds_append {K : PySem.W.Frag} {F : Hp} : ∀ {l l' : List D} {vs vs' : List V}, RepDs K F l vs → RepDs K F l' vs' → RepDs K F (l ++ l') (vs ++ vs') := fun h h' => h.append h'
theorem repds_rep {K : PySem.W.Frag} {F : Hp} {l : List D} {vs : List V} (h : RepDs K F l vs) : ∀ n : Nat, RepDs K F (List.replicate n l).flatten (List.replicate n vs).flatten
  | 0 => by unfold RepDs; rfl
  | n + 1 => by
    rw [List.replicate_succ, List.replicate_succ, List.flatten_cons, List.flatten_cons]
    exact h.append (repds_rep h n)
theorem s_rep : OpS X rRep wRep where
  mono := fun h q => by
    unfold wRep at q ⊢
    split at q
    · obtain ⟨l, e, a, b, c, q⟩ := q
      exact ⟨l, e, a, b, c, h _ q⟩
    · exact q
  run := fun s z rx ry q h => by
    unfold wRep at q
    split at q
    · obtain ⟨l, e, k0, k1, hl, q⟩ := q
      obtain ⟨a, vs, ea, p, r⟩ := rx.lst s z e
      refine ⟨a, _, vs, ea, ry.ofD.2.ofInt, p, by omega, by omega, ?_, (h _ q).mine s z (repds_rep r _)⟩
      rw [← r.length, sizeLine_eq]
      exact Nat.le_trans (Nat.mul_le_mul hl (by omega : _ ≤ 1000)) (by decide)
    · exact q.elim
theorem q_rep (ha : QE X a wa) (hb : QE X b wb) : QE X (.BinOp a .Mult b pos) (wOp wRep wa wb) := q_bin op_rep s_rep ha hb
abbrev oRep (a b : TW) : TW := wOp wRep a b
theorem wRep_fl {k : Md} {l : List D} {n : Int} {Q : M → Prop} (h0 : 0 ≤ n) (h1 : n ≤ 1000) (h2 : l.length ≤ 1000) (q : Q (.fl .o (List.replicate n.toNat l).flatten)) : wRep (.fl k l) (.d (.int n)) Q := ⟨l, rfl, h0, h1, h2, q⟩
end
theorem roomMark {k : Nat} {A : Around} {v : Option Value} (hr : Room k A) : L2H.RoomH k (A.mark v) := ⟨hr.dp, hr.un⟩
end RT
namespace RT
open PySem PySem.Spec PyProof.Rows L2
/-! ### return (e, x), x's own list goes out in the tuple -/
section
variable {X : Cx} {F F' H H' H0 F0 : Hp} {ρ : Sg} {σ : L2.St} {W : WX} {e i : Expr} {we wi : TW} {pos p pos1 pos2 apos cpos spos : Pos} {x : Str}
def wRetT (n : Nat) (we : TW) : TSW := fun D ρ => we ρ (fun m => ∃ d, m = .d d ∧ onFl ρ n fun l => D.rt (.mt [.d d, .fl .o l])) (D.ex ρ)
theorem s_retT (n : Nat) {x1} (he : QE X e we) (hN : X.N[n]? = some x := by rfl) (hv : Vis X.env.scope x := by first | exact Or.inl rfl | exact Or.inr (Or.inl rfl) | exact Or.inr (Or.inr rfl)) (hd : (x == ("__debug__" : Str)) = false := by decide) (hcd : (x == ("__classdict__" : Str)) = false := by decide)
    (hs : starEach [e, .Name x p] X.env = (false, eval e X.env) :: starEach [.Name x p] X.env := by rfl) :
    QS X (.Return (some (.Tuple [e, .Name x p] x1 pos1)) pos) [] (wRetT n we) where
  mono := fun l h => he.mono (fun m ⟨d, e1, q⟩ => ⟨d, e1, onFl_mono (fun _ z => l.rt _ z) q⟩) (l.ex _) h
  run := fun W F0 H0 tk => psImp (ps_ret (pe_tupB (pa_cons (he.run W F0 H0 tk) (pa_cons (pe_var hN hv hd hcd) pa_nil) hs))) fun D σ H ⟨ρ, F, rel, h⟩ => by
    refine ⟨ρ, F, rel, he.mono (fun m hm v H1 F1 fp x1 r hf hn => ?_) (fun _ q => exq (as := []) (D := D) rel q) h⟩
    obtain ⟨d, rfl, h2⟩ := hm
    obtain ⟨l, e0, q⟩ := onFl_of h2
    obtain ⟨vl, fl, g1, _, ql, nl⟩ := (rel.ext x1).get e0
    refine ⟨vl, g1, by show 2 ≤ _; rw [sizeLine_eq]; decide, .inl fun p o hp ho => ?_⟩
    have x2 := Ext.pure (o := .frz o (.tup [v, vl])) x1.s hp
    obtain ⟨rfl, rd⟩ := r.ofD
    refine q (by unfold M.ret; rfl) (.ref p) _ _ fl (x1.trans x2).f (rel.ext (x1.trans x2)).e ?_ nl
    unfold RepM
    refine ⟨p, [v, vl], rfl, .inl ⟨o, upd_same, ho⟩, ?_⟩
    unfold RepMs
    refine ⟨v, [vl], [], fl, rfl, rfl, .d (rd.mono x2.f), ?_⟩
    unfold RepMs
    refine ⟨vl, [], fl, [], rfl, by rw [List.append_nil], ql.ext x2, ?_⟩
    unfold RepMs
    exact ⟨rfl, rfl⟩
/-! ### f[i].clear(), f a tuple with a list of one's own -/
theorem Rel.updMt {i j : Nat} {ms : List M} {l : List D} {ts : List M} {tv : List V} {K : PySem.W.Frag} (r : Rel K F0 H0 ρ σ ts tv F H) (ht : M.stos ts = true) (h : ρ[i]? = some (some (.mt ms))) (hj : ms[j]? = some (.fl .o l)) :
    ∃ a vs b us, σ[i]? = some (some (.ref a)) ∧ TupAt K F a vs ∧ vs.length = ms.length ∧ vs[j]? = some (.ref b) ∧ H b = some (.lst us) ∧ RepDs K F l us ∧
      ∀ l' us', RepDs K F l' us' → Rel K F0 H0 (ρ.set i (some (.mt (ms.set j (.fl .o l'))))) σ ts tv F (L2.upd H b (.lst us')) := by
  obtain ⟨v, fp, e1, hs, q, n, fin⟩ := r.upd ht h
  unfold M.sto at hs
  unfold RepM at q
  obtain ⟨a, vs, e, h1, r2⟩ := q
  subst e
  obtain ⟨b, us, y1, y2, y3, y4, y5⟩ := r2.updAt hs n hj
  refine ⟨a, vs, b, us, e1, h1, r2.length.symm, y1, y2, y3, fun l' us' r' => fin (.mt (ms.set j (.fl .o l'))) fp _ ?_ ?_ n (fun d o hd hn => ?_) (fun d hd => .inl hd)⟩
  · unfold RepM
    exact ⟨a, vs, rfl, h1, y5 l' us' r'⟩
  · unfold M.sto; exact stos_set hs rfl
  · rw [upd_ne fun z => hn (by rw [z]; exact y4)]; exact hd
def onMt (ρ : Sg) (i : Nat) (P : List M → Prop) : Prop := match ρ[i]? with
  | some (some (.mt l)) => P l
  | _ => False
theorem onMt_mono {i : Nat} {P P' : List M → Prop} (h : ∀ l, P l → P' l) (q : onMt ρ i P) : onMt ρ i P' := by
  unfold onMt at q ⊢; split at q <;> first | exact h _ q | exact q
theorem onMt_of {i : Nat} {P : List M → Prop} (q : onMt ρ i P) : ∃ l, ρ[i]? = some (some (.mt l)) ∧ P l := by
  unfold onMt at q; split at q <;> first | exact ⟨_, by assumption, q⟩ | exact q.elim
def wClrT (n : Nat) (wi : TW) : TSW := fun D ρ => onMt ρ n fun ms => wi ρ (onI fun k => onRow ms k fun j l => D.nx (ρ.set n (some (.mt (ms.set j (.fl .o [])))))) (D.ex ρ)
theorem s_clrT (n : Nat) (hi : QE X i wi) (hN : X.N[n]? = some x := by rfl) (hv : Vis X.env.scope x := by first | exact Or.inl rfl | exact Or.inr (Or.inl rfl) | exact Or.inr (Or.inr rfl)) (hd : (x == ("__debug__" : Str)) = false := by decide) (hcd : (x == ("__classdict__" : Str)) = false := by decide) (hpi : PlainIx i := by intro _ _; rfl)
    (hline : (apos.endLine == cpos.line) = true := by rfl) (hbase : attributeBase (.Subscript (.Name x p) i pos2) "clear" X.env (eval (.Subscript (.Name x p) i pos2) X.env) = eval (.Subscript (.Name x p) i pos2) X.env := by rfl)
    (hsw : swapsWith (.Call (.Attribute (.Subscript (.Name x p) i pos2) "clear" apos) [] [] cpos) none spos.line X.env = pure false := by rfl) :
    QS X (.Expr (.Call (.Attribute (.Subscript (.Name x p) i pos2) "clear" apos) [] [] cpos) spos) [] (wClrT n wi) where
  mono := fun l h => onMt_mono (fun _ z => hi.mono (fun kd q => onI_mono (fun k q => onRow_mono (fun j l' q => l.nx _ q) q) q) (l.ex _) z) h
  run := fun W F0 H0 tk => psImp (ps_expr (pe_bm0 PySem.F.plainAttrs_list PySem.F.slot_list_clear PySem.F.type_list_clear mt_clear (pe_ix ix_seq (pe_var hN hv hd hcd) (hi.run W F0 H0 tk) hpi) hbase hline) hsw) fun D σ H ⟨ρ, F, rel, z⟩ => by
    obtain ⟨ms, e0, z⟩ := onMt_of z
    have g0 : ∃ a, σ[n]? = some (some (.ref a)) := by
      obtain ⟨v, fp, e1, _, q, _⟩ := rel.get e0
      unfold RepM at q
      obtain ⟨a, vs, e, _⟩ := q
      exact ⟨a, by rw [e1, e]⟩
    obtain ⟨a, g1⟩ := g0
    refine ⟨.ref a, g1, ρ, F, rel, hi.mono (fun kd hk v2 H3 F3 fk x3 rk _ _ => ?_) (fun _ q => exq (as := []) (D := D) rel q) z⟩
    obtain ⟨k, ek, jj, l, e1, e2, q⟩ := onI_of hk rk
    obtain ⟨a', vs, b, us, g2, f1, f2, f3, f4, f5, f6⟩ := (rel.ext x3).updMt rfl e0 e2
    rw [g1] at g2; cases g2
    refine .inr (.inl ⟨a, vs, k, .ref b, rfl, ek, (f1.same x3.s).sq, atI_ix (by rw [f2]; exact e1) f3, .inl ⟨rfl, us, SqL.of f4⟩, b, us, rfl, rfl, f4, ?_⟩)
    exact q σ F3 _ x3.f (f6 _ _ (by unfold RepDs; rfl)) .refl
end
end RT
namespace PyProof.Rows
open PySem
section
variable {prog : Program} {w : World} {A : Around} {E : Value → Shared → Prop} {s : Shared}
/-- sorted(..)'s first list, of a tuple's items -/
theorem collect_tupleR {l : Addr} {vs : List Value} {n : Nat} {o : Obj} {Q : List Value → Shared → Prop} (ho : s.heap.get? l = some o) (hc : o.cls = .type "tuple") (hd : o.data = .seq vs.toArray n)
    (h : Q vs { s with heap := (s.heap.push (seqObj "list" #[] 0)).update s.heap.objs.size (Obj.mapSeq (· ++ vs.toArray)) }) (hsz : vs.length ≤ sizeLine) :
    wpAny (model prog w) A (collect (.ref l)) Q E s := by
  unfold collect
  refine wpAny_bind (wpAny_runValue (codeAny_builtin entry_proto_collect' ?_))
  show wpAny _ _ (do again (.builtin "list.__iadd__" ⟨[← newList [], .ref l], []⟩)) _ _ s
  refine wpAny_bind (wpAny_newList (wpAny_pure ⟨Code.quiet_builtin _ (by decide +kernel), codeAny_builtin entry_list_iadd' ?_⟩))
  show wpAny _ _ (Builtin.List.listExtendWith (.ref s.heap.objs.size) (.ref l) (.ref s.heap.objs.size)) _ _ { s with heap := s.heap.push (seqObj "list" #[] 0) }
  unfold Builtin.List.listExtendWith
  have ho' : (s.heap.push (seqObj "list" #[] 0)).get? l = some o := Heap.get?_push_of_some _ ho
  refine wpAny_bind (wpAny_typeOf (T := "tuple") ⟨o, ho', hc⟩ ?_)
  have ht : (Value.type "tuple" == Value.type "tuple") = true := by rfl
  rw [if_pos (by rw [ht]; simp)]
  refine wpAny_bind (listItems_at ho' hd ?_)
  refine wpAny_bind (listItems_at (xs := #[]) (n := 0) (Heap.get?_push_size _ rfl) rfl ?_)
  rw [if_neg (by simp)]
  refine wpAny_bind (listUpdate_at (xs := #[]) (n := 0) (Heap.get?_push_size _ rfl) rfl ?_ (Nat.zero_le _) (by show (#[] ++ vs.toArray).size ≤ sizeLine + 1; simp only [Array.size_append, List.size_toArray, List.length_nil]; omega))
  refine wpAny_pure ?_
  show wpAny (model prog w) A (do
      let o ← load s.heap.objs.size
      match o.data with
      | .seq xs _ => pure xs.toList
      | _ => unsupported "internal:collect") Q E { s with heap := (s.heap.push (seqObj "list" #[] 0)).update s.heap.objs.size (Obj.mapSeq (· ++ vs.toArray)) }
  refine wpAny_bind (wpAny_load (get?_update_seq (Heap.get?_push_size _ rfl) _) ?_)
  show wpAny _ _ (pure ((#[] : Array Value) ++ vs.toArray).toList) Q E _
  rw [show ((#[] : Array Value) ++ vs.toArray).toList = vs by simp]
  exact wpAny_pure h
theorem sorted_intsT {l : Addr} {vs : List Value} {ns : List Int} {n : Nat} {o : Obj} {Q : Value → Shared → Prop} (ho : s.heap.get? l = some o) (hc : o.cls = .type "tuple") (hd : o.data = .seq vs.toArray n) (hI : IntsAre vs ns) (h64 : vs.length < 64)
    (h : ∀ (out : Array Value) (ns' : List Int), IntsAre out.toList ns' → ns'.Perm ns → ns'.Pairwise (· ≤ ·) → Q (.ref (s.heap.objs.size + 1)) { s with heap := sortedAll s.heap vs out }) :
    wpAny (model prog w) A (call (.builtin "sorted") [.ref l]) Q E s := by
  refine Calls.call_function_entry kind_sorted plain_sorted entry_sorted (args_sorted1 _) ?_
  unfold Builtin.«sorted»
  refine wpAny_bind (m := checkCount "sorted" 1 1 _) (wpAny_pure ?_)
  refine wpAny_bind (collect_tupleR ho hc hd ?_ (by rw [sizeLine_eq]; omega))
  refine wpAny_bind (wpAny_newList ?_)
  have hsz : ((s.heap.push (seqObj "list" #[] 0)).update s.heap.objs.size (Obj.mapSeq (· ++ vs.toArray))).objs.size = s.heap.objs.size + 1 := by
    rw [Heap.size_update, size_push']
  have hoL : (((s.heap.push (seqObj "list" #[] 0)).update s.heap.objs.size (Obj.mapSeq (· ++ vs.toArray))).push (seqObj "list" vs.toArray 0)).get? (s.heap.objs.size + 1) = some (seqObj "list" vs.toArray 0) := by
    rw [← hsz]; exact Heap.get?_push_size _ rfl
  show wpAny _ _ _ _ _ { s with heap := ((s.heap.push (seqObj "list" #[] 0)).update s.heap.objs.size (Obj.mapSeq (· ++ vs.toArray))).push (seqObj "list" vs.toArray 0) }
  rw [hsz]
  refine wpAny_bind (wpAny_holding (wpAny_call_entry slot_list_sort ⟨_, hoL, rfl⟩ entry_list_sort (list_sort_tree hoL hI h64 fun out ns' a1 a2 a3 => ⟨_, rfl, ?_⟩) (args_list_sort _)))
  exact wpAny_pure ⟨_, rfl, h out ns' a1 a2 a3⟩
end
end PyProof.Rows
namespace RT
open PySem PySem.Spec PyProof.Rows L2
/-! ### sorted(a tuple of whole numbers) -/
section
variable {X : Cx} {K : PySem.W.Frag} {F F' H H' H0 F0 : Hp}
def rSortedT (K : PySem.W.Frag) : List V → Hp → VK → Prop := fun vs H Q => ∃ (a : Addr) (ns : List Int), vs = [.ref a] ∧ SqT K H a (ns.map V.int) ∧ ns.length < 64 ∧
  ∀ ns' : List Int, ns'.Perm ns → ns'.Pairwise (· ≤ ·) → ∀ p, H p = none → Q (.ref p) (upd H p (.lst (ns'.map V.int)))
theorem cr_sortedT : CallR X (.builtin "sorted") (rSortedT X.K) := by
  intro pins s σ H vs us Q I r h
  obtain ⟨a, ns, rfl, hs, h64, q⟩ := h
  obtain ⟨its, rv, ht, _⟩ := I.tuple hs
  rw [Vals.ref1 r]
  have hi := rv.ints
  obtain ⟨o, ho, hc, n, hd⟩ := ht
  refine PyProof.Rows.sorted_intsT ho hc hd hi (by rw [hi.length]; exact h64) fun out ns' h1 h2 h3 => ?_
  obtain ⟨ep, he'⟩ := PyProof.Rows.sortedAll_at s.heap its out
  have hlen : (ns'.map V.int).length ≤ sizeLine := by rw [List.length_map, h2.length_eq]; exact small64 h64
  exact ⟨.ref _, upd H (s.heap.objs.size + 1) (.lst (ns'.map V.int)), I.laid (t' := s.toks) (fun _ _ => PyProof.Rows.sortedAll_old) (Nat.le_succ _) ⟨hlen, out.toList, ep, vals_of_ints h1, he'⟩, rfl, q ns' h2 h3 _ (I.hok.fresh (Nat.le_succ _))⟩
def M.tupI : M → Option (List Int)
  | .d (.tup l) => D.ints l
  | _ => none
def wSortedT : WCl := fun xs Q => on1 (fun m => ∃ ns, m.tupI = some ns ∧ ns.length < 64 ∧ Q (.fl .o ((srt ns).map .int))) xs
theorem s_sortedT : CalS X (rSortedT X.K) wSortedT where
  mono := fun h q => on1_mono (fun m ⟨ns, e, h1, q⟩ => ⟨ns, e, h1, h _ q⟩) q
  run := fun {H0 F H xs vs fp Q Qh} s z rs q h => by
    obtain ⟨m, e, ns, hl, h64, qq⟩ := on1_of q
    clear q
    subst e
    obtain ⟨v, e, r⟩ := rs.one
    subst e
    unfold M.tupI at hl
    split at hl
    · obtain ⟨a, vs, e1, p, r2⟩ := (by have := r.ofD.2; unfold RepD at this; exact this)
      refine ⟨a, ns, by rw [e1], by rw [← r2.ints hl]; exact Same.sqT s p.sq, h64, fun ns' pm pw p' hp => ?_⟩
      have : ns' = srt ns := PySem.W.os_sorted_mergeSort pm pw
      rw [this]
      exact (h _ qq).mine s z (reps_map (fun i => .int) _) p' hp
    · cases hl
theorem q_sortedT {a : Expr} {wa : TW} {p pos : Pos} (hg : Gl X "sorted") (hm : X.mg "sorted" = none) (ha : QE X a wa) (hs : starEach [a] X.env = [(false, eval a X.env)] := by rfl) : QE X (.Call (.Name "sorted" p) [a] [] pos) (wCl wSortedT (wCons wa wNil)) :=
  q_cb s_sortedT cr_sortedT hg hm (by decide +kernel) (qa_cons ha qa_nil hs) (by decide) (by decide) hs rfl
theorem wSortedT_d {l : List D} {ns : List Int} {Q : M → Prop} (e : D.ints l = some ns) (h : ns.length < 64) (q : Q (.fl .o ((srt ns).map .int))) : wSortedT [.d (.tup l)] Q := ⟨ns, e, h, q⟩
end
end RT
namespace RT
open PySem PySem.Spec PyProof.Rows L2
/-! ### for y in x, x a list of lists that the caller owns: each y is the caller's -/
section
variable {X : Cx} {K : PySem.W.Frag} {F F' H H' H0 F0 : Hp}
theorem rowsP_at : ∀ {rows : List (List D)} {vs : List V} {fp : List Addr}, RepMs K F H0 H (rows.map (M.fl .p)) vs fp → ∀ (j : Nat) (r : List D), rows[j]? = some r → ∃ (b : Addr) (us : List V), vs[j]? = some (V.ref b) ∧ H0 b = some (.lst us) ∧ RepDs K F r us
  | [], _, _, _, j, r, e => by simp at e
  | x :: rows, vs, fp, h, j, r, e => by
    rw [List.map_cons] at h
    unfold RepMs at h
    obtain ⟨v, w, f, g, e1, e2, q, z⟩ := h
    cases j with
    | zero =>
      rw [List.getElem?_cons_zero] at e
      cases e
      unfold RepM at q
      obtain ⟨a, us, e3, q1, q2⟩ := q
      exact ⟨a, us, by rw [e1, e3]; rfl, q1.2, q2⟩
    | succ j =>
      rw [List.getElem?_cons_succ] at e
      obtain ⟨b, us, y1, y2, y3⟩ := rowsP_at z j r e
      exact ⟨b, us, by rw [e1]; exact y1, y2, y3⟩
def wLoopP (i : Nat) (wb : TSW) (D : EndW) : List (List RT.D) → Sg → Prop
  | [], ρ => D.nx ρ
  | r :: rs, ρ => wb { nx := wLoopP i wb D rs, rt := D.rt, bk := D.nx, ct := wLoopP i wb D rs, ex := D.ex } (ρ.set i (some (.fl .p r)))
def wForP (n i : Nat) (wb : TSW) : TSW := fun D ρ => ∃ rows : List (List RT.D), ρ[n]? = some (some (.ml .p (rows.map (M.fl .p)))) ∧ wLoopP i wb D rows ρ
theorem wLoopP_mono {b : List Stmt} {bs : List Nat} {i : Nat} {wb : TSW} (hb : QSs X b bs wb) {D D' : EndW} (l : D.Le D') : ∀ (rs : List (List RT.D)) (ρ : Sg), wLoopP i wb D rs ρ → wLoopP i wb D' rs ρ
  | [], ρ, h => l.nx _ h
  | r :: rs, ρ, h => by
    unfold wLoopP at h ⊢
    exact hb.mono (D := { nx := wLoopP i wb D rs, rt := D.rt, bk := D.nx, ct := wLoopP i wb D rs, ex := D.ex }) ⟨fun ρ z => wLoopP_mono hb l rs ρ z, l.rt, l.nx, fun ρ z => wLoopP_mono hb l rs ρ z, l.ex⟩ h
theorem s_forP {b : List Stmt} {bs : List Nat} {n i : Nat} {x y : Str} {p p2 : Pos} {wb : TSW} {pos : Pos} (hc : X.calm = true) (hp : ∀ W, Takes X W → PassesOwn (model X.prog X.w) X.A X.env X.xe) (hnd : X.N.Nodup) (hb : QSs X b bs wb)
    (hi : X.N[i]? = some y := by rfl) (hx : Loc X.env.scope y := by first | exact Or.inl rfl | exact Or.inr rfl) (hf : X.fn y = true ∨ X.env.scope.names.lookup y = some .local := by first | exact .inl rfl | exact .inr rfl | assumption)
    (hN : X.N[n]? = some x := by rfl) (hv : Vis X.env.scope x := by first | exact Or.inl rfl | exact Or.inr (Or.inl rfl) | exact Or.inr (Or.inr rfl)) (hd : (x == ("__debug__" : Str)) = false := by decide) (hcd : (x == ("__classdict__" : Str)) = false := by decide)
    (hs : ∀ y, foldedSetIterable (.Name x p) X.env y = pure y := by intro _; rfl) : QS X (.For (.Name y p2) (.Name x p) b [] pos) (i :: bs) (wForP n i wb) where
  mono := fun l ⟨rows, h1, h3⟩ => ⟨rows, h1, wLoopP_mono hb l rows _ h3⟩
  run := fun W F0 H0 tk => psImp (ps_for (hp W tk) hc (pi_seq (pe_var hN hv hd hcd)) (pg_name hnd hi hx hf) (hb.run W F0 H0 tk) hs) fun D σ H ⟨ρ, F, rel, rows, e0, hl⟩ => by
    obtain ⟨v, fp, g1, _, q, _⟩ := rel.get e0
    unfold RepM at q
    obtain ⟨a, vs, f, e, q0, r2⟩ := q
    subst e
    have q1 : H0 a = some (.lst vs) := q0.2
    have items := rowsP_at r2
    have lv : rows.length = vs.length := by have := r2.length; rwa [List.length_map] at this
    refine ⟨.ref a, g1, a, rfl, .inl ⟨vs, SqL.of (rel.e.h _ _ q1), fun _ => ?_⟩⟩
    generalize hD : endsOf X W F0 H0 (i :: bs) σ F D = DD at hl
    refine ⟨fun k m σ' H' => m = rows.length - k ∧ k ≤ rows.length ∧ ∃ ρ' F', Same F F' ∧ Rel X.K F0 H0 ρ' σ' [] [] F' H' ∧ Frm (i :: bs) σ σ' ∧ wLoopP i wb DD (rows.drop k) ρ', ⟨rows.length, by simp, Nat.zero_le _, ρ, F, .refl _, rel, .refl, by simpa using hl⟩, ?_⟩
    rintro k m σ' H' ⟨rfl, hk, ρ', F', s1, rel', f', q⟩
    have k4 : SqL X.K H' a vs := SqL.of (rel'.e.h _ _ q1)
    by_cases hlt : k < rows.length
    · have hx : rows[k]? = some rows[k] := List.getElem?_eq_getElem hlt
      rw [List.drop_eq_getElem_cons hlt] at q
      generalize rows[k] = y at hx q
      unfold wLoopP at q
      obtain ⟨b, us, k1, k2, k3⟩ := items k y hx
      refine .inr ⟨⟨vs, .ref b, k4, k1⟩, fun σ2 H2 => ∃ ρ2 F2, Same F F2 ∧ Rel X.K F0 H0 ρ2 σ2 [] [] F2 H2 ∧ Frm (i :: bs) σ σ2 ∧ wLoopP i wb DD (rows.drop (k + 1)) ρ2, fun σ2 H2 h2 => ⟨rows.length - (k + 1), by omega, rfl, hlt, h2⟩, fun v H2 ⟨e1, yy⟩ => ?_⟩
      subst e1
      have := yy vs k4
      rw [k1] at this
      cases this
      have rm : RepM X.K F' H0 H2 (.fl .p y) (.ref b) [] := by unfold RepM; exact ⟨b, us, rfl, ⟨rfl, k2⟩, k3.mono s1⟩
      have rel3 := (rel'.push (.refl rel'.s) rm (fun _ z => nomatch z) List.nodup_nil).set (by unfold M.sto; rfl) i
      have f4 : Frm (i :: bs) σ (σ'.set i (some (.ref b))) := f'.trans (Frm.set (i := i)) (fun _ z => z) fun j hj => by rw [List.mem_singleton.mp hj]; exact List.mem_cons_self
      refine ⟨_, F', rel3, hb.mono ?_ q⟩
      refine ⟨fun ρ4 h4 => ?_, fun y z => ?_, fun ρ4 z => ?_, fun ρ4 h4 => ?_, fun ρ4 y z => ?_⟩
      · exact fun σ4 F4 H4 s4 r4 f5 => ⟨ρ4, F4, s1.trans s4, r4, f4.trans f5 (fun _ z => z) fun i hi => List.mem_cons_of_mem _ hi, h4⟩
      · subst hD
        exact fun hr v F4 H4 fp s4 => z hr v F4 H4 fp (s1.trans s4)
      · subst hD
        exact fun σ4 F4 H4 s4 r4 f5 => z σ4 F4 H4 (s1.trans s4) r4 (f4.trans f5 (fun _ z => z) fun i hi => List.mem_cons_of_mem _ hi)
      · exact fun σ4 F4 H4 s4 r4 f5 => ⟨ρ4, F4, s1.trans s4, r4, f4.trans f5 (fun _ z => z) fun i hi => List.mem_cons_of_mem _ hi, h4⟩
      · subst hD
        exact z
    · have e : k = rows.length := by omega
      subst e
      rw [List.drop_length] at q
      unfold wLoopP at q
      refine .inl ⟨⟨vs, k4, by rw [lv]; exact Nat.le_refl _⟩, ?_⟩
      subst hD
      exact q σ' F' H' s1 rel' f'
end
end RT
namespace RT
open PySem PySem.Spec PyProof.Rows L2
/-! ### a test that is read in either of two ways -/
section
variable {X : Cx} {e : Expr} {t1 t2 : TTW}
def wEither (t1 t2 : TTW) : TTW := fun ρ Q E => t1 ρ Q E ∨ t2 ρ Q E
theorem t_either (h1 : QT X e t1) (h2 : QT X e t2) : QT X e (wEither t1 t2) where
  mono := fun hq he z => z.imp (h1.mono hq he) (h2.mono hq he)
  run := fun W F0 H0 tk => ⟨fun pins s σ H Q I ⟨ρ, F, rel, z⟩ => z.elim (fun z => (h1.run W F0 H0 tk).run pins s σ H Q I ⟨ρ, F, rel, z⟩) (fun z => (h2.run W F0 H0 tk).run pins s σ H Q I ⟨ρ, F, rel, z⟩)⟩
end
end RT
namespace RT
open PySem PySem.Spec PyProof.Rows L2
/-! ### texts: sep.join(xs), s.split(sep), s.index(t), t in s, s * n -/
def strsD : List D → Option (List Str)
  | [] => some []
  | .str x :: l => (strsD l).map (x :: ·)
  | _ :: _ => none
theorem strsD_map : ∀ ys : List Str, strsD (ys.map D.str) = some ys
  | [] => rfl
  | y :: ys => by rw [List.map_cons]; unfold strsD; rw [strsD_map ys]; rfl
theorem RepDs.strs {K : PySem.W.Frag} {F : Hp} : ∀ {l : List D} {ys : List Str} {vs : List V}, strsD l = some ys → RepDs K F l vs → vs = ys.map V.str
  | [], ys, vs, e, r => by
    cases e
    unfold RepDs at r
    subst r; rfl
  | x :: l, ys, vs, e, r => by
    unfold RepDs at r
    obtain ⟨v, rest, rfl, rx, rr⟩ := r
    cases x with
    | str z =>
      unfold strsD at e
      cases q : strsD l with
      | none => rw [q] at e; cases e
      | some zs =>
        rw [q] at e; cases e
        rw [rx.ofStr, RepDs.strs q rr]; rfl
    | _ => cases e
def onStr (P : Str → Prop) : M → Prop := fun m => match m with
  | .d (.str a) => P a
  | _ => False
theorem onStr_d {P : Str → Prop} {a : Str} : onStr P (.d (.str a)) = P a := rfl
theorem onStr_mono {P P' : Str → Prop} {m : M} (h : ∀ c, P c → P' c) (q : onStr P m) : onStr P' m := by
  unfold onStr at q ⊢
  split at q <;> first | exact h _ q | exact q
theorem onStr_of {P : Str → Prop} {m : M} (q : onStr P m) : ∃ a, m = .d (.str a) ∧ P a := by
  unfold onStr at q
  split at q
  · exact ⟨_, rfl, q⟩
  · exact q.elim
section
variable {X : Cx} {o e ex a b : Expr} {wo wa wb : TW}
structure MthS (X : Cx) (r : V → List V → Hp → VK → Prop) (wr : Str → M → (M → Prop) → Prop) : Prop where
  mono : ∀ {x : Str} {y : M} {Q Q' : M → Prop}, (∀ m, Q m → Q' m) → wr x y Q → wr x y Q'
  run : ∀ {H0 F H : Hp} {x : Str} {y : M} {v : V} {fy : List Addr} {Q : M → Prop} {Qh : VK}, Same F H → Same H0 H → RepM X.K F H0 H y v fy → wr x y Q → (∀ m, Q m → KQ X.K H0 F H Qh m) → r (.str x) [v] H Qh
def wM1 (wr : Str → M → (M → Prop) → Prop) (wo wa : TW) : TW := fun ρ Q E => wo ρ (onStr fun x => wa ρ (fun y => wr x y Q) E) E
theorem q_m1 {r : V → List V → Hp → VK → Prop} {wr : Str → M → (M → Prop) → Prop} (ms : MthS X r wr) (ho : QE X o wo) (he : QE X e wa) (h : ∀ {to te : TE}, PE X o to → PE X e te → PE X ex (tM1 r to te)) : QE X ex (wM1 wr wo wa) where
  mono := fun hq hxx z => ho.mono (fun x z => onStr_mono (fun c z => he.mono (fun y z => ms.mono hq z) hxx z) z) hxx z
  run := fun W F0 H0 tk => peImp (h (ho.run W F0 H0 tk) (he.run W F0 H0 tk)) fun σ H Qh ⟨ρ, F, rel, z⟩ => by
    refine ⟨ρ, F, rel, ho.mono (fun x hx v1 H1 F1 fx x1 rx _ _ => ?_) (fun _ q => q) z⟩
    obtain ⟨t, e1, q⟩ := onStr_of hx
    subst e1
    have rel1 := rel.ext x1
    have ev := rx.ofD.2.ofStr
    subst ev
    refine ⟨⟨t, rfl⟩, ρ, F1, rel1, he.mono (fun y hy v2 H2 F2 fy x2 ry _ _ => ?_) (fun _ q => q.ext x1) q⟩
    exact ms.run (rel1.ext x2).s (rel1.e.h.trans x2.h) ry hy fun m hm => (hm.ext x1).ext x2
def wJoin (x : Str) (y : M) (Q : M → Prop) : Prop := ∃ l, y.seqD = some l ∧ ∃ ys, strsD l = some ys ∧ (ys.map (·.length)).sum + ys.length * x.length ≤ 16777216 ∧ Q (.d (.str (Txt.join x ys)))
theorem s_join : MthS X (fun x xs H Q => ∃ a p, ∃ ys : List Str, x = .str a ∧ xs = [.ref p] ∧ (SqL X.K H p (ys.map V.str) ∨ SqT X.K H p (ys.map V.str)) ∧
    (ys.map (·.length)).sum + ys.length * a.length ≤ 16777216 ∧ Q (.str (Txt.join a ys)) H) wJoin where
  mono := fun h ⟨l, e, ys, e2, hz, q⟩ => ⟨l, e, ys, e2, hz, h _ q⟩
  run := fun s z ry ⟨l, e, ys, e2, hz, q⟩ h => by
    obtain ⟨a, vs, e1, hq, r⟩ := ry.seq s z e
    have ev := r.strs e2
    subst ev
    exact ⟨_, a, ys, rfl, by rw [e1], hq, hz, (h _ q).here s (.d .str)⟩
theorem q_join {apos pos : Pos} (ho : QE X o wo) (he : QE X e wa) (hs : starEach [e] X.env = [(false, eval e X.env)] := by rfl) (hbase : attributeBase o "join" X.env (eval o X.env) = eval o X.env := by rfl) (hline : (apos.endLine == pos.line) = true := by rfl) :
    QE X (.Call (.Attribute o "join" apos) [e] [] pos) (wM1 wJoin wo wa) := q_m1 s_join ho he fun h h' => pe_join h h' hs hbase hline
def wSplit (x : Str) (y : M) (Q : M → Prop) : Prop := ∃ b, y = .d (.str b) ∧ (b.length == 0) = false ∧ x.length + 2 ≤ sizeLine ∧ Q (.fl .o ((Txt.split x b).map D.str))
theorem s_split : MthS X (fun x xs H Q => ∃ a b, x = .str a ∧ xs = [.str b] ∧ (b.length == 0) = false ∧ a.length + 2 ≤ sizeLine ∧ rNewStrs (Txt.split a b) H Q) wSplit where
  mono := fun h ⟨b, e, h1, h2, q⟩ => ⟨b, e, h1, h2, h _ q⟩
  run := fun s z ry ⟨b, e, h1, h2, q⟩ h => by
    subst e
    refine ⟨_, b, rfl, by rw [ry.ofD.2.ofStr], h1, h2, fun p hp => ?_⟩
    exact (h _ q).mine s z (reps_map (fun x => .str) _) p hp
theorem q_split {apos pos : Pos} (ho : QE X o wo) (he : QE X e wa) (hs : starEach [e] X.env = [(false, eval e X.env)] := by rfl) (hbase : attributeBase o "split" X.env (eval o X.env) = eval o X.env := by rfl) (hline : (apos.endLine == pos.line) = true := by rfl) :
    QE X (.Call (.Attribute o "split" apos) [e] [] pos) (wM1 wSplit wo wa) := q_m1 s_split ho he fun h h' => pe_split h h' hs hbase hline
def wIdxT (x : Str) (y : M) (Q : M → Prop) : Prop := ∃ b i rest, y = .d (.str b) ∧ Builtin.Str.occurrences x b 0 x.length 1 = i :: rest ∧ Q (.d (.int (i : Nat)))
theorem s_idxT : MthS X (fun x xs H Q => ∃ a b i rest, x = .str a ∧ xs = [.str b] ∧ Builtin.Str.occurrences a b 0 a.length 1 = i :: rest ∧ Q (.int (i : Nat)) H) wIdxT where
  mono := fun h ⟨b, i, rest, e, h1, q⟩ => ⟨b, i, rest, e, h1, h _ q⟩
  run := fun s z ry ⟨b, i, rest, e, h1, q⟩ h => by
    subst e
    exact ⟨_, b, i, rest, rfl, by rw [ry.ofD.2.ofStr], h1, (h _ q).here s (.d .int)⟩
theorem q_idxT {apos pos : Pos} (ho : QE X o wo) (he : QE X e wa) (hs : starEach [e] X.env = [(false, eval e X.env)] := by rfl) (hbase : attributeBase o "index" X.env (eval o X.env) = eval o X.env := by rfl) (hline : (apos.endLine == pos.line) = true := by rfl) :
    QE X (.Call (.Attribute o "index" apos) [e] [] pos) (wM1 wIdxT wo wa) := q_m1 s_idxT ho he fun h h' => pe_m1 F.slot_str_index F.type_str_index mt_sindex h h' hs hbase hline
/-- t in s -/
def inT (i j : Str) : Bool := !(Builtin.Str.occurrences j i 0 j.length 1).isEmpty
theorem inT_sign (z : Str) (c : Nat) : inT ⟨#[c]⟩ z = decide (c ∈ z.cps.toList) := PySem.StrLaws.found_one z c
def wInT (neg : Bool) : WR2 := fun x y Q => match x, y with
  | .d (.str i), .d (.str j) => Q (.d (.bl (if neg then !inT i j else inT i j)))
  | _, _ => False
theorem wInT_d {neg : Bool} {i j : Str} {Q : M → Prop} : wInT neg (.d (.str i)) (.d (.str j)) Q = Q (.d (.bl (if neg then !inT i j else inT i j))) := rfl
theorem s_inT : OpS X (fun x y H Q => ∃ i j, x = .str i ∧ y = .str j ∧ Q (.bl (!(Builtin.Str.occurrences j i 0 j.length 1).isEmpty)) H) (wInT false) where
  mono := fun h q => by unfold wInT at q ⊢; split at q <;> first | exact h _ q | exact q
  run := fun s z rx ry q h => by
    unfold wInT at q
    split at q
    · exact ⟨_, _, rx.ofD.2.ofStr, ry.ofD.2.ofStr, (h _ q).here s (.d .bl)⟩
    · exact q.elim
theorem s_ninT : OpS X (fun x y H Q => ∃ i j, x = .str i ∧ y = .str j ∧ Q (.bl (!(!(Builtin.Str.occurrences j i 0 j.length 1).isEmpty))) H) (wInT true) where
  mono := fun h q => by unfold wInT at q ⊢; split at q <;> first | exact h _ q | exact q
  run := fun s z rx ry q h => by
    unfold wInT at q
    split at q
    · exact ⟨_, _, rx.ofD.2.ofStr, ry.ofD.2.ofStr, (h _ q).here s (.d .bl)⟩
    · exact q.elim
variable {pos : Pos}
theorem q_inT (ha : QE X a wa) (hb : QE X b wb) (hm : behindInMarks .In b = false := by rfl) : QE X (.Compare a [.In] [b] pos) (wOp (wInT false) wa wb) := q_cmp op_in_str s_inT ha hb hm
theorem q_ninT (ha : QE X a wa) (hb : QE X b wb) (hm : behindInMarks .NotIn b = false := by rfl) : QE X (.Compare a [.NotIn] [b] pos) (wOp (wInT true) wa wb) := q_cmp op_notIn_str s_ninT ha hb hm
theorem t_inT (ha : QE X a wa) (hb : QE X b wb) (hm : behindInMarks .In b = false := by rfl) : QT X (.Compare a [.In] [b] pos) (wTB (wOp (wInT false) wa wb)) := t_cmp op_in_str s_inT ha hb hm
theorem t_ninT (ha : QE X a wa) (hb : QE X b wb) (hm : behindInMarks .NotIn b = false := by rfl) : QT X (.Compare a [.NotIn] [b] pos) (wTB (wOp (wInT true) wa wb)) := t_cmp op_notIn_str s_ninT ha hb hm
/-- s * n -/
def repT (x : Str) (n : Nat) : Str := if n < 1 then Str.empty else if (n == 1 || x.length == 0) = true then x else ⟨(List.replicate n x.cps).foldl (· ++ ·) #[]⟩
theorem op_mulStrX : OpR X (binaryOp .Mult) (fun x y H Q => ∃ s n, x = .str s ∧ y = .int n ∧ 0 ≤ n ∧ n ≤ 1000 ∧ s.length ≤ 1000 ∧ Q (.str (repT s n.toNat)) H) := by
  intro pins s σ H x y v u Q I rx ry h
  obtain ⟨i, n, rfl, rfl, h0, h1, h2, q⟩ := h
  obtain ⟨t, rfl⟩ := rx
  obtain ⟨t', rfl⟩ := ry
  have hl : i.length * n.toNat ≤ sizeLine := by
    have : i.length * n.toNat ≤ 1000 * 1000 := Nat.mul_le_mul h2 (by omega)
    rw [sizeLine_eq]; omega
  have tl : Builtin.Str.tooLong (i.length * n.toNat) = false := by
    unfold Builtin.Str.tooLong
    rw [decide_eq_false_iff_not]; omega
  have e1 : (n == 1) = (n.toNat == 1) := by
    rw [Bool.eq_iff_iff, beq_iff_eq, beq_iff_eq]; omega
  refine P.mul_str (by
    have h3 : ¬ n < -(2 ^ 63 : Int) := by omega
    have h4 : ¬ n ≥ 2 ^ 63 := by omega
    rw [decide_eq_false h3, decide_eq_false h4]; rfl) (fun c1 _ c3 => ?_) (fun _ _ => tl) ?_
  · have : (1000 : Int) ≤ (2 ^ 63 - 1) / n := Int.le_ediv_of_mul_le (by omega) (by omega)
    omega
  · unfold repT at q
    by_cases c1 : n < 1
    · rw [if_pos c1]
      rw [if_pos (by omega)] at q
      exact ⟨by decide, .str Str.empty, H, I.tok _, ⟨_, rfl⟩, q⟩
    · rw [if_neg c1]
      rw [if_neg (by omega)] at q
      rw [e1]
      by_cases c2 : (n.toNat == 1 || i.length == 0) = true
      · rw [if_pos c2] at q ⊢
        exact ⟨.str i, H, I, ⟨_, rfl⟩, q⟩
      · rw [if_neg c2] at q ⊢
        exact ⟨fits_reps tl, .str _, H, I.tok _, ⟨_, rfl⟩, q⟩
def wSMulX : WR2 := fun x y Q => match x, y with
  | .d (.str i), .d (.int n) => 0 ≤ n ∧ n ≤ 1000 ∧ i.length ≤ 1000 ∧ Q (.d (.str (repT i n.toNat)))
  | _, _ => False
theorem wSMulX_si {i : Str} {n : Int} {Q : M → Prop} : wSMulX (.d (.str i)) (.d (.int n)) Q = (0 ≤ n ∧ n ≤ 1000 ∧ i.length ≤ 1000 ∧ Q (.d (.str (repT i n.toNat)))) := rfl
theorem s_SMulX : OpS X (fun x y H Q => ∃ s n, x = .str s ∧ y = .int n ∧ 0 ≤ n ∧ n ≤ 1000 ∧ s.length ≤ 1000 ∧ Q (.str (repT s n.toNat)) H) wSMulX where
  mono := fun h q => by
    unfold wSMulX at q ⊢
    split at q
    · exact ⟨q.1, q.2.1, q.2.2.1, h _ q.2.2.2⟩
    · exact q
  run := fun s z rx ry q h => by
    unfold wSMulX at q
    split at q
    · exact ⟨_, _, rx.ofD.2.ofStr, ry.ofD.2.ofInt, q.1, q.2.1, q.2.2.1, (h _ q.2.2.2).here s (.d .str)⟩
    · exact q.elim
theorem q_smulX (ha : QE X a wa) (hb : QE X b wb) : QE X (.BinOp a .Mult b pos) (wOp wSMulX wa wb) := q_bin op_mulStrX s_SMulX ha hb
/-- x is True, x a truth, a whole number or None -/
theorem op_is_blA : OpR X (compareOp .Is) (fun x y H Q => ∃ b, y = .bl b ∧ ((∃ a, x = .bl a ∧ Q (.bl (decide (a = b))) H) ∨ (x = .non ∧ Q (.bl false) H) ∨ ((∃ i, x = .int i) ∧ Q (.bl false) H))) := by
  intro pins s σ H x y v u Q I rx ry h
  obtain ⟨b, rfl, h⟩ := h
  cases (show u = Value.bool b from ry)
  rcases h with ⟨a, rfl, q⟩ | ⟨rfl, q⟩ | ⟨⟨i, rfl⟩, q⟩
  · cases (show v = Value.bool a from rx)
    by_cases e : a = b
    · subst e
      exact wpAny_is_self rfl ⟨.bl true, H, I, rfl, by simpa using q⟩
    · exact wpAny_is_other rfl (fun z => e (Value.bool.inj z)) ⟨.bl false, H, I, rfl, by simpa [e] using q⟩
  · cases (show v = Value.none from rx)
    exact wpAny_is_other rfl (fun z => nomatch z) ⟨.bl false, H, I, rfl, q⟩
  · obtain ⟨t, rfl⟩ := rx
    exact wpAny_is_other rfl (fun z => nomatch z) ⟨.bl false, H, I, rfl, q⟩
def wIsBA : WR2 := fun x y Q => match x, y with
  | .d (.bl p), .d (.bl q) => Q (.d (.bl (decide (p = q))))
  | .d .non, .d (.bl _) => Q (.d (.bl false))
  | .d (.int _), .d (.bl _) => Q (.d (.bl false))
  | _, _ => False
theorem wIsBA_b {p q : Bool} {Q : M → Prop} : wIsBA (.d (.bl p)) (.d (.bl q)) Q = Q (.d (.bl (decide (p = q)))) := rfl
theorem wIsBA_n {q : Bool} {Q : M → Prop} : wIsBA (.d .non) (.d (.bl q)) Q = Q (.d (.bl false)) := rfl
theorem wIsBA_i {i : Int} {q : Bool} {Q : M → Prop} : wIsBA (.d (.int i)) (.d (.bl q)) Q = Q (.d (.bl false)) := rfl
theorem s_isBA : OpS X (fun x y H Q => ∃ b, y = .bl b ∧ ((∃ a, x = .bl a ∧ Q (.bl (decide (a = b))) H) ∨ (x = .non ∧ Q (.bl false) H) ∨ ((∃ i, x = .int i) ∧ Q (.bl false) H))) wIsBA where
  mono := fun h q => by unfold wIsBA at q ⊢; split at q <;> first | exact h _ q | exact q
  run := fun s z rx ry q h => by
    unfold wIsBA at q
    split at q
    · exact ⟨_, ry.ofD.2.ofBl, .inl ⟨_, rx.ofD.2.ofBl, (h _ q).here s (.d .bl)⟩⟩
    · exact ⟨_, ry.ofD.2.ofBl, .inr (.inl ⟨rx.ofD.2.ofNon, (h _ q).here s (.d .bl)⟩)⟩
    · exact ⟨_, ry.ofD.2.ofBl, .inr (.inr ⟨⟨_, rx.ofD.2.ofInt⟩, (h _ q).here s (.d .bl)⟩)⟩
    · exact q.elim
theorem q_isBA (ha : QE X a wa) (hb : QE X b wb) : QE X (.Compare a [.Is] [b] pos) (wOp wIsBA wa wb) := q_cmp op_is_blA s_isBA ha hb (nomark _)
theorem t_isBA (ha : QE X a wa) (hb : QE X b wb) : QT X (.Compare a [.Is] [b] pos) (wTB (wOp wIsBA wa wb)) := t_cmp op_is_blA s_isBA ha hb (nomark _)
end
end RT
namespace RT
open PySem PySem.Spec PyProof.Rows L2
/-! ### a method by the instance's class; a method of the class above -/
inductive MpTab (P : Program) (w : World) (K : PySem.W.Frag) (mg : Str → Option Value) (base : Heap) (x : Str) (k : Nat) : List (Str × TSp) → Prop where
  | nil : MpTab P w K mg base x k []
  | cons {c : Str} {T : TSp} {l : List (Str × TSp)} (h : Mp P w K mg base c x k [] T) (t : MpTab P w K mg base x k l) : MpTab P w K mg base x k ((c, T) :: l)
theorem MpTab.get {P : Program} {w : World} {K : PySem.W.Frag} {mg : Str → Option Value} {base : Heap} {x : Str} {k : Nat} {l : List (Str × TSp)} (t : MpTab P w K mg base x k l) : ∀ {c : Str} {T : TSp}, (c, T) ∈ l → Mp P w K mg base c x k [] T := by
  induction t with
  | nil => intro c T h; cases h
  | @cons d U l h t ih =>
    intro c T hm
    rcases List.mem_cons.mp hm with q | hm
    · cases q; exact h
    · exact ih hm
def wMethD (x : Str) (tab : List (Str × TSp)) (wo : TW) (w : TAW) : TW := fun ρ Q E => ∃ c T, (c, T) ∈ tab ∧ wMethP c x T [] wo w ρ Q E
section
variable {X : Cx} {o e : Expr} {es : List Expr} {x : Str} {apos pos : Pos} {k : Nat} {tab : List (Str × TSp)} {wo : TW} {w : TAW}
theorem q_methD {pl : Sem Bool} (h : MpTab X.prog X.w X.K X.mg X.base x k tab) (hr : Room k X.A) (ho : QE X o wo) (ha : QA X (e :: es) w)
    (hst : starEach (e :: es) X.env = (false, eval e X.env) :: starEach es X.env := by rfl) (hpl : (backTo pos (starEach es X.env)).any (·.1) = false := by rfl)
    (ht : eval (.Call (.Attribute o x apos) (e :: es) [] pos) X.env = (do
      let ov ← eval o X.env
      standAt apos.atName
      let (f, first) ← holding [ov] (getMethod ov x pl)
      callWith pos f first (backTo pos (starEach (e :: es) X.env)) (backToKw pos (keywordEach [] X.env))) := by rfl) : QE X (.Call (.Attribute o x apos) (e :: es) [] pos) (wMethD x tab wo w) where
  mono := fun hq he ⟨c, T, hm, z⟩ => ⟨c, T, hm, (q_methP (pl := pl) (h.get hm) hr ho ha hst hpl ht).mono hq he z⟩
  run := fun W F0 H0 tk => ⟨fun pins s σ H Qh I ⟨ρ, F, rel, c, T, hm, z⟩ => ((q_methP (pl := pl) (h.get hm) hr ho ha hst hpl ht).run W F0 H0 tk).run pins s σ H Qh I ⟨ρ, F, rel, z⟩⟩
end
section
variable {P : Program} {w : World} {K : PySem.W.Frag} {mg : Str → Option Value} {h base : Heap} {fa : List He.Fa} {fn : List He.DefD} {N ps : List Str} {d : He.DefD} {wb : TSW} {k : Nat} {c c' x : Str}
theorem mp_inh (Z : Top fa fn h K mg) (i i1 i2 : Nat) (S : FnScope N ps d.scope) (B : Body P w K mg base k N d wb) (hk : Room (k + 1) callerA) (hma : decide (He.ma K (He.ga K c') x = He.ma K (He.ga K c) x) = true)
    (hd : fn[i]? = some d := by rfl) (hc : fa[i1]? = some (.cls c') := by rfl) (hm : fa[i2]? = some (.meth c' x) := by rfl) (hat : d.at_ = (c, some x) := by rfl) (h0 : d.dfl = [] := by rfl) (hkw : d.kwd = [] := by rfl)
    (hb : ∀ (kV doc pm : Value) (an : Option Addr) (cdv ct : Value) (us : List Value), us.length = ps.length → bindArgs (PySem.W.fnOf d.name d.qual d.params d.body d.scope .none kV doc pm an cdv ct) ⟨us, []⟩ = pure (ps.zip us)) :
    Mp P w K mg base c' x (k + 1) [] (tOf ps.length N.length wb) where
  mono := fun hq he t => tOf_mono B hk hq he t
  ok := by
    obtain ⟨fd, F⟩ := Z.c.def_ i hd
    have e1 : d.dvs K = [] := by unfold He.DefD.dvs; rw [h0]; rfl
    have e2 : d.kws K = [] := by unfold He.DefD.kws; rw [hkw]; rfl
    rw [e1, e2] at F
    obtain ⟨C, Mt⟩ := meth_cls Z hc hm
    have ea : He.fAd K d.at_ = He.ma K (He.ga K c') x := by rw [hat, of_decide_eq_true hma]; rfl
    rw [ea] at F
    exact ⟨_, fd, ps, [], [], fnD_ok F S B, C, Mt, F.bindsN hb, .nil, fun F => .nil⟩
end
/-! ### isinstance(x, C) of an instance of the module's -/
def M.cls : M → Option Str
  | .ob _ _ c _ _ => some c
  | .d (.obj c _ _) => some c
  | _ => none
def isoB (K : PySem.W.Frag) (d c : Str) (b : Bool) : Bool := eqOV (PySem.W.findIn K (.ref (He.ga K c)) "__class__") (some (some (.builtin "object.__class__"))) && (eqOV (PySem.W.specialIn K (.builtin "object.__class__") "__get__") (some (some (.builtin "getset_descriptor.__get__"))) &&
  (decide (PySem.W.takesIn K (.builtin "object.__class__") = some true) && (decide (PySem.W.mroIn K (He.ga K c) (.type "object") = some true) && decide (PySem.W.kitOne K (.ref (He.ga K c)) (.ref (He.ga K d)) = some b))))
where eqOV (a b : Option (Option Value)) : Bool := decide (a = b)
def IsoT (K : PySem.W.Frag) (d : Str) (tab : List (Str × Bool)) : Prop := ∀ c b, (c, b) ∈ tab → L2.Cls K (He.ga K c) ∧ isoB K d c b = true
theorem IsoT.nil {K : PySem.W.Frag} {d : Str} : IsoT K d [] := fun _ _ h => nomatch h
theorem IsoT.cons {K : PySem.W.Frag} {d c : Str} {b : Bool} {tab : List (Str × Bool)} (h1 : L2.Cls K (He.ga K c)) (h2 : isoB K d c b = true) (t : IsoT K d tab) : IsoT K d ((c, b) :: tab) := fun c' b' hm => by
  rcases List.mem_cons.mp hm with q | hm
  · cases q; exact ⟨h1, h2⟩
  · exact t c' b' hm
def rIsO (K : PySem.W.Frag) (d : Str) (tab : List (Str × Bool)) : List V → Hp → VK → Prop := fun xs H Q => ∃ a c b dx fs, xs = [.ref a, .ref (He.ga K d)] ∧ H a = some (.ins (He.ga K c) dx fs) ∧ (c, b) ∈ tab ∧ Q (.bl b) H
theorem call_isO {X : Cx} {d : Str} {tab : List (Str × Bool)} (hT : IsoT X.K d tab) : CallR X (.builtin "isinstance") (rIsO X.K d tab) := by
  intro pins s σ H xs us Q I r h
  obtain ⟨a, c, b, dx, fs, rfl, ha, hm, q⟩ := h
  obtain ⟨u, w', rfl, ru, rw'⟩ := vals2 r
  cases rw'
  obtain ⟨C, g⟩ := hT c b hm
  obtain ⟨g1, g⟩ := He.ba g
  obtain ⟨g2, g⟩ := He.ba g
  obtain ⟨g3, g⟩ := He.ba g
  obtain ⟨g4, g5⟩ := He.ba g
  exact isinst_ok I ru (TyOf.ins ha C (of_decide_eq_true g1) (of_decide_eq_true g2) (of_decide_eq_true g3) (of_decide_eq_true g4)) (of_decide_eq_true g5) fun tk => ⟨.bl b, H, I.tok _, rfl, q⟩
def wIsO (tab : List (Str × Bool)) (we : TW) : TW := fun ρ Q E => we ρ (fun m => ∃ c b, m.cls = some c ∧ (c, b) ∈ tab ∧ Q (.d (.bl b))) E
theorem ins_of {X : Cx} {F H H0 : Hp} {m : M} {v : V} {fp : List Addr} {c : Str} (s : Same F H) (z : Same H0 H) (r : RepM X.K F H0 H m v fp) (h : m.cls = some c) : ∃ a dx fs, v = .ref a ∧ H a = some (.ins (He.ga X.K c) dx fs) := by
  cases m with
  | ob a k c' fs l =>
    cases h
    obtain ⟨e1, dx, kvs, fg, g1, _, _⟩ := ob_at z r
    exact ⟨a, dx, kvs, e1, g1⟩
  | d x =>
    cases x with
    | obj c' fs l =>
      cases h
      have rd := r.ofD.2
      unfold RepD at rd
      obtain ⟨a, dx, kvs, e1, g1, _, _⟩ := rd
      exact ⟨a, dx, kvs, e1, s _ _ g1⟩
    | _ => cases h
  | _ => cases h
section
variable {X : Cx} {c e : Expr} {we : TW} {p pos : Pos} {d : Str} {tab : List (Str × Bool)}
theorem q_isO (hcl : PE X c (tC (.ref (He.ga X.K d)))) (hT : IsoT X.K d tab) (hg : Gl X "isinstance") (hm : X.mg "isinstance" = none) (ha : QE X e we)
    (he : starEach [e, c] X.env = (false, eval e X.env) :: starEach [c] X.env := by rfl) (hpl : (backTo pos (starEach [c] X.env)).any (·.1) = false := by rfl) (hs2 : starEach [c] X.env = [(false, eval c X.env)] := by rfl) :
    QE X (.Call (.Name "isinstance" p) [e, c] [] pos) (wIsO tab we) where
  mono := fun hq hx z => ha.mono (fun m ⟨c, b, e1, e2, q⟩ => ⟨c, b, e1, e2, hq _ q⟩) hx z
  run := fun W F0 H0 tk => peImp (pe_callB (call_isO hT) hg hm PyProof.Rows.boot_isinstance (pa_cons (ha.run W F0 H0 tk) (pa_cons hcl pa_nil hs2) he) (by decide) (by decide) he hpl) fun σ H Qh ⟨ρ, F, rel, z⟩ =>
    ⟨ρ, F, rel, ha.mono (fun m q v H1 F1 fp x r _ _ => by
      obtain ⟨c, b, e1, e2, q⟩ := q
      obtain ⟨a, dx, fs, ev, hH⟩ := ins_of x.s (rel.e.h.trans x.h) r e1
      subst ev
      exact ⟨a, c, b, dx, fs, rfl, hH, e2, (q.ext x).here x.s (.d .bl)⟩) (fun _ q => q) z⟩
end
/-! ### try with except clauses that keep nothing -/
def catM (De : EndW) (n : Nat) : List (List (Str × Bool) × TSW) → Sg → XP
  | [] => fun ρ x => De.ex ρ x
  | (tab, ws) :: r => fun ρ x => match tab.lookup x.cls with
    | some true => ρ.length = n ∧ ws { nx := De.nx, rt := De.rt, bk := De.bk, ct := De.ct, ex := fun _ _ => False } ρ
    | some false => catM De n r ρ x
    | none => False
theorem catM_1 {De : EndW} {n : Nat} {tab : List (Str × Bool)} {ws : TSW} {r : List (List (Str × Bool) × TSW)} {ρ : Sg} {x : XV} (e : tab.lookup x.cls = some true) (hl : ρ.length = n) (h : ws { nx := De.nx, rt := De.rt, bk := De.bk, ct := De.ct, ex := fun _ _ => False } ρ) : catM De n ((tab, ws) :: r) ρ x := by
  unfold catM; rw [e]; exact ⟨hl, h⟩
theorem catM_0 {De : EndW} {n : Nat} {tab : List (Str × Bool)} {ws : TSW} {r : List (List (Str × Bool) × TSW)} {ρ : Sg} {x : XV} (e : tab.lookup x.cls = some false) (h : catM De n r ρ x) : catM De n ((tab, ws) :: r) ρ x := by
  unfold catM; rw [e]; exact h
def wTryM (l : List (List (Str × Bool) × TSW)) (n : Nat) (wb : TSW) : TSW := fun De ρ => ρ.length = n ∧ wb { nx := De.nx, rt := De.rt, bk := De.bk, ct := De.ct, ex := catM De n l } ρ
theorem wTryM_e {l : List (List (Str × Bool) × TSW)} {n : Nat} {wb : TSW} {De : EndW} {ρ : Sg} : wTryM l n wb De ρ = (ρ.length = n ∧ wb { nx := De.nx, rt := De.rt, bk := De.bk, ct := De.ct, ex := catM De n l } ρ) := propext Iff.rfl
inductive HdQ (X : Cx) : List ExceptHandler → List (List (Str × Bool) × TSW) → Prop
  | nil : HdQ X [] []
  | cons {y : Str} {tab : List (Str × Bool)} {ws : TSW} {b₀ : Stmt} {suite : List Stmt} {np pos' : Pos} {bs : List Nat} {hds : List ExceptHandler} {l : List (List (Str × Bool) × TSW)} (hg : Gl X y) (hy : X.mg y = some (.ref (He.ga X.K y))) (hT : exmTB X.K y tab = true)
      (hsu : ∀ (a : Addr) (pn : List (Addr × Obj)), QSs (X.suite a pn) (b₀ :: suite) bs ws) (r : HdQ X hds l) (hdb : (y == ("__debug__" : Str)) = false := by decide) : HdQ X (.ExceptHandler (some (.Name y np)) none (b₀ :: suite) pos' :: hds) ((tab, ws) :: l)
section
variable {X : Cx} {as : List Nat} {n : Nat} {h₀ : ExceptHandler} {hds : List ExceptHandler} {l : List (List (Str × Bool) × TSW)} {body : List Stmt} {wb : TSW} {pos : Pos}
theorem catM_mono {D D' : EndW} (h : D.Le D') (hh : HdQ X hds l) : ∀ {ρ : Sg} {x : XV}, catM D n l ρ x → catM D' n l ρ x := by
  induction hh with
  | nil => intro ρ x z; exact h.ex _ _ z
  | cons hg hy hT hsu r hdb ih =>
    intro ρ x z
    unfold catM at z ⊢
    split at z
    · exact ⟨z.1, (hsu 0 []).mono (D := { nx := D.nx, rt := D.rt, bk := D.bk, ct := D.ct, ex := fun _ _ => False }) (D' := { nx := D'.nx, rt := D'.rt, bk := D'.bk, ct := D'.ct, ex := fun _ _ => False }) ⟨h.nx, h.rt, h.bk, h.ct, fun _ _ q => q⟩ z.2⟩
    · exact ih z
    · exact z
theorem hds_ok (H0 : Hp) {De : EndW} : ∀ {hds : List ExceptHandler} {l : List (List (Str × Bool) × TSW)}, HdQ X hds l → ∃ l' : List (Value × (Addr → Value → Option Addr → TS)), HdsOk X hds l' ∧
    ∀ (W : WX) (D : Ends) (De : EndW) (ρ : Sg) (x : XV) (cls : Value) (d : Option Addr) (σ : L2.St) (F F1 H : Hp), Rel X.K F1 H0 ρ σ [] [] F H → RepX X.mg X.K F H x cls d →
      (∀ bs, ρ.length = n → EndW.Le { nx := De.nx, rt := De.rt, bk := De.bk, ct := De.ct, ex := fun _ _ => False } (endsOf X (fun _ _ _ _ => False) F1 H0 bs σ F D)) → (∀ z : De.ex ρ x, W cls d σ H) → catM De n l ρ x → wMany X.K W D l' cls d σ H := by
  intro hds l hh
  induction hh with
  | nil => exact ⟨[], .nil, fun W D De ρ x cls d σ F F1 H r rx le le2 z => le2 z⟩
  | @cons y tab ws b₀ suite np pos' bs hds l hg hy hT hsu r hdb ih =>
    obtain ⟨l', ok, run⟩ := ih
    refine ⟨(.ref (He.ga X.K y), fun a cls d D σ H => ∃ F1, liftS X (fun _ _ _ _ => False) F1 H0 bs ws D σ H) :: l', .cons ⟨hg, hdb, .inl hy⟩ (fun a oe cls d pn _ _ => pssEx fun F1 => (hsu a ((a, oe) :: pn)).run (fun _ _ _ _ => False) F1 H0 takes0) ok, fun W D De ρ x cls d σ F F1 H r rx le le2 z => ?_⟩
    unfold catM at z
    split at z
    · rename_i e
      refine ⟨true, by rw [rx.1]; exact of_decide_eq_true (lookup_all (P := fun q => decide (PySem.W.exmOne X.K (.ref (He.ga X.K q.1)) (.ref (He.ga X.K y)) = some q.2)) hT e), fun _ a ha => ?_, (by intro q; cases q)⟩
      exact ⟨F1, ρ, F, r, (hsu 0 []).mono (le bs z.1) z.2⟩
    · rename_i e
      refine ⟨false, by rw [rx.1]; exact of_decide_eq_true (lookup_all (P := fun q => decide (PySem.W.exmOne X.K (.ref (He.ga X.K q.1)) (.ref (He.ga X.K y)) = some q.2)) hT e), (by intro q; cases q), fun _ => ?_⟩
      exact run W D De ρ x cls d σ F F1 H r rx le le2 z
    · exact z.elim
theorem s_tryM (hs : X.stack = X.env :: X.outer) (hf : X.env.frame = some X.env.locals) (hp : PassesOwn (model X.prog X.w) X.A X.env X.xe)
    (hb : ∀ (pn : List (Addr × Obj)) (xe : Value → Shared → Prop), PassesOwn (model X.prog X.w) X.A X.env xe → QSs (X.tr pn xe) body as wb) (hh : HdQ X (h₀ :: hds) l) :
    QS X (.Try body (h₀ :: hds) [] [] pos) (as ++ List.range n) (wTryM l n wb) where
  mono := fun {D D' ρ} le h => by
    obtain ⟨h1, h⟩ := h
    exact ⟨h1, (hb [] X.xe hp).mono (D := { nx := D.nx, rt := D.rt, bk := D.bk, ct := D.ct, ex := catM D n l }) (D' := { nx := D'.nx, rt := D'.rt, bk := D'.bk, ct := D'.ct, ex := catM D' n l }) ⟨le.nx, le.rt, le.bk, le.ct, fun ρ' x z => catM_mono le hh z⟩ h⟩
  run := fun W F0 H0 tk => by
    obtain ⟨l', ok, run⟩ := hds_ok (n := n) H0 (De := { nx := fun _ => True, rt := fun _ => True }) hh
    have R := ps_try_many (X := X) (pos := pos) (body := body) (h₀ := h₀) (hds := hds) (l := l') (Wout := W) (tb := fun W' D σ H => ∃ F1, liftS X W' F1 H0 as wb D σ H) hs hf tk (fun W' pn xe tk' pass => pssEx fun F1 => (hb pn xe pass).run W' F1 H0 tk') ok
    refine psImp R fun D σ H ⟨ρ, F, rel, hl, h⟩ => ?_
    have lσ : σ.length = n := by rw [← rel.len, hl]
    refine ⟨F, ρ, F, rel.base, (hb [] X.xe hp).mono (D := _) ?_ h⟩
    refine ⟨fun ρ' z σ' F' H' s r f => z σ' F' H' s (r.back rel.e) (f.mono fun i hi => List.mem_append_left _ hi), fun m z hr v F' H' fp s x r hn => z hr v F' H' fp s (rel.e.back x) r hn,
      fun ρ' z σ' F' H' s r f => z σ' F' H' s (r.back rel.e) (f.mono fun i hi => List.mem_append_left _ hi), fun ρ' z σ' F' H' s r f => z σ' F' H' s (r.back rel.e) (f.mono fun i hi => List.mem_append_left _ hi), fun ρ' x z => ?_⟩
    intro cls d σ' F' H' r rx
    refine run W D (endsOf X W F0 H0 (as ++ List.range n) σ F D) ρ' x cls d σ' F' F H' r rx (fun bs hl2 => ?_) (fun q => q cls d σ' F' H' (r.back rel.e) rx) z
    have lσ' : σ'.length = n := by rw [← r.len, hl2]
    have fr : ∀ {σ3 : L2.St}, Frm bs σ' σ3 → Frm (as ++ List.range n) σ σ3 := fun {σ3} f3 => by
      have l3 : σ3.length = n := by rw [f3.1, lσ']
      refine ⟨by rw [l3, lσ], fun j hj => ?_⟩
      have hj2 : n ≤ j := by
        have : j ∉ List.range n := fun z => hj (List.mem_append_right _ z)
        rw [List.mem_range] at this; omega
      rw [List.getElem?_eq_none (by rw [l3]; exact hj2), List.getElem?_eq_none (by rw [lσ]; exact hj2)]
    exact ⟨fun ρ2 z σ3 F3 H3 s3 q3 f3 => z _ F3 H3 q3.e.f (q3.back rel.e) (fr f3), fun m z hr v F3 H3 fp s3 x3 rm hn => z hr v F3 H3 fp x3.f (rel.e.back x3) rm hn,
      fun ρ2 z σ3 F3 H3 s3 q3 f3 => z _ F3 H3 q3.e.f (q3.back rel.e) (fr f3), fun ρ2 z σ3 F3 H3 s3 q3 f3 => z _ F3 H3 q3.e.f (q3.back rel.e) (fr f3), fun _ _ z => z.elim⟩
end
end RT
namespace RT
open PySem PySem.Spec PyProof.Rows L2
/-! ### C(..): what is handed is only read; C() without an __init__ of its own -/
section
variable {K : PySem.W.Frag} {F H H' B' H0 : Hp}
theorem At.toP2 {k : Md} {a : Addr} {o : HO} {fp f : List Addr} (z : Same H0 H) (y : Same H B') (x : At F H0 H k a o fp f) : At F B' H' .p a o [] [] := by
  cases k with
  | o => exact ⟨rfl, y _ _ x.2.1⟩
  | r => exact ⟨rfl, y _ _ x.2⟩
  | p => exact ⟨rfl, y _ _ (z _ _ x.2)⟩
mutual
theorem RepM.toP2 (z : Same H0 H) (y : Same H B') : ∀ {m : M} {v : V} {fp : List Addr}, RepM K F H0 H m v fp → RepM K F B' H' m.toP v []
  | .d x, v, fp, h => by
    unfold RepM at h; unfold M.toP RepM
    exact ⟨rfl, h.2⟩
  | .fl k l, v, fp, h => by
    unfold RepM at h; unfold M.toP RepM
    obtain ⟨a, vs, e, q, r⟩ := h
    exact ⟨a, vs, e, q.toP2 z y, r⟩
  | .fd k l, v, fp, h => by
    unfold RepM at h; unfold M.toP RepM
    obtain ⟨a, vs, e, q, r⟩ := h
    exact ⟨a, vs, e, q.toP2 z y, r⟩
  | .ml k l, v, fp, h => by
    unfold RepM at h; unfold M.toP RepM
    obtain ⟨a, vs, f, e, q, r⟩ := h
    exact ⟨a, vs, [], e, q.toP2 z y, RepMs.toP2 z y r⟩
  | .md k ks l, v, fp, h => by
    unfold RepM at h; unfold M.toP RepM
    obtain ⟨a, vs, f, e, q, e2, r⟩ := h
    exact ⟨a, vs, [], e, q.toP2 z y, e2, RepMs.toP2 z y r⟩
  | .mt l, v, fp, h => by
    unfold RepM at h; unfold M.toP RepM
    obtain ⟨a, vs, e, q, r⟩ := h
    exact ⟨a, vs, e, q, RepMs.toP2 z y r⟩
  | .ob a k c fs l, v, fp, h => by
    unfold RepM at h; unfold M.toP RepM
    obtain ⟨dx, kvs, f, e, q, e2, r⟩ := h
    exact ⟨dx, kvs, [], e, q.toP2 z y, e2, RepMs.toP2 z y r⟩
  | .pk m m0, v, fp, h => by
    unfold RepM at h; unfold M.toP RepM
    obtain ⟨f, f', u, e, q, y'⟩ := h
    exact ⟨[], [], u, rfl, RepM.toP2 z y q, RepM.toP2 z y y'⟩
theorem RepMs.toP2 (z : Same H0 H) (y : Same H B') : ∀ {m : List M} {v : List V} {fp : List Addr}, RepMs K F H0 H m v fp → RepMs K F B' H' (M.toPs m) v []
  | [], v, fp, h => by
    unfold RepMs at h; unfold M.toPs RepMs
    exact ⟨h.1, rfl⟩
  | m :: ms, v, fp, h => by
    unfold RepMs at h; unfold M.toPs RepMs
    obtain ⟨u, r, f, f', e, e2, q, y'⟩ := h
    exact ⟨u, r, [], [], e, rfl, RepM.toP2 z y q, RepMs.toP2 z y y'⟩
end
end
section
variable {X : Cx} {W : WX} {F0 H0 : Hp} {σ : L2.St} {H : Hp} {c : Str} {T : TSpM} {dd : List D} {w : TAW} {k : Nat} {e : Expr} {es : List Expr} {p pos : Pos}
def wNewP (c : Str) (T : TSpM) (dd : List D) (w : TAW) : TW := fun ρ Q E => w ρ (fun ms => ∀ a : Addr, T (.ob a .o c [] [] :: (M.toPs ms ++ dd.map .d)) (fun r => isNew a c r Q) (fun _ y => E y)) E
theorem newP_core {es : List Expr} (h : Mkx X.prog X.w X.K X.mg X.base c k dd T) (ha : QA X es w) {dv : List V} (hds : ∀ F, RepDs X.K F dd dv) {t : TA} (ht : ∀ σ H Q, liftA X W F0 H0 w σ H Q → t σ H Q) {Qh : VK} (q : liftE X W F0 H0 (wNewP c T dd w) σ H Qh) : tMakeSD (He.ga X.K c) (spOw X.mg X.K T) dv (WE W) t σ H Qh := by
  obtain ⟨ρ, F, rel, z⟩ := q
  refine ht _ _ _ ⟨ρ, F, rel, ha.mono (fun ms hm vs H1 F1 fp x1 r hf hn => ?_) (fun _ q => q) z⟩
  have hT := hm
  intro x dx hx hdx hne
  have s1 : Ext F1 H1 F1 (L2.upd H1 dx (.own x)) := Ext.mine x1.s hdx
  have hx2 : (L2.upd H1 dx (.own x)) x = none := by rw [upd_ne (Ne.symm hne)]; exact hx
  have s2 : Ext F1 (L2.upd H1 dx (.own x)) F1 (L2.upd (L2.upd H1 dx (.own x)) x (.ins (He.ga X.K c) dx [])) := Ext.mine s1.s hx2
  have x2 := s1.trans s2
  generalize hH2 : L2.upd (L2.upd H1 dx (.own x)) x (.ins (He.ga X.K c) dx []) = H2 at x2
  have hx3 : H2 x = some (.ins (He.ga X.K c) dx []) := by rw [← hH2]; exact upd_same
  have low : ∀ {b : Addr}, mins H2 [x] b = none → H b = none := fun {b} q => by
    by_cases hb : b ∈ [x]
    · rw [List.mem_singleton.mp hb]; exact x1.h.free hx
    · rw [mins_out hb] at q
      exact x1.h.free (x2.h.free q)
  have s1M : Same H1 (mins H2 [x]) := fun b o q => by
    rw [mins_out fun hb => by rw [List.mem_singleton.mp hb, hx] at q; cases q]
    exact x2.h _ _ q
  have sM : Same F1 (mins H2 [x]) := x1.s.trans s1M
  have cmp : ∀ {F' H' : Hp}, Ext F1 (mins H2 [x]) F' H' → Ext F H F' H' := fun {F' H'} y => by
    refine ⟨fun b o q => y.h _ _ ?_, x1.f.trans y.f, y.s, fun b o q => ?_⟩
    · exact s1M _ _ (x1.h _ _ q)
    · rcases y.n b o q with e | e
      · exact x1.n b o e
      · exact .inr (low e)
  refine ⟨F1, mins H2 [x], .ob x .o c [] [] :: (M.toPs ms ++ dd.map .d), [x], sM, mins_same, ?_, List.nodup_cons.mpr ⟨(fun h => nomatch h), List.nodup_nil⟩, h.mono (fun m hm => ?_) (fun m0 y hy => ?_) (hT x)⟩
  · unfold RepMs
    refine ⟨.ref x, vs ++ dv, [x], [], rfl, rfl, ?_, reps_appF (r.toP2 (rel.e.h.trans x1.h) s1M) (reps_d (hds F1))⟩
    unfold RepM
    refine ⟨dx, [], [], rfl, ⟨rfl, hx3, x1.s.free hx, mins_in List.mem_cons_self⟩, rfl, ?_⟩
    unfold RepMs; exact ⟨rfl, rfl⟩
  · intro hr v H' F' fp' y rm nn
    obtain ⟨fs, l, e, q⟩ := isNew_of hm
    subst e
    unfold M.ret at hr
    rw [Bool.and_eq_true] at hr
    have own := rm.own
    unfold RepM at rm
    obtain ⟨f, g, u, e2, q1, q2⟩ := rm
    obtain ⟨q3, q4⟩ := q1.ofD
    subst e2; subst q3
    refine ⟨q4.ofNon, ?_⟩
    have hu : u = .ref x := by unfold RepM at q2; obtain ⟨_, _, _, e, _⟩ := q2; exact e
    subst hu
    exact q (.ref x) H' F' g (cmp y) (q2.re hr.2 fun b hb => rel.e.h.free (low (q2.own b hb).2.2)) (fun b hb => low (q2.own b hb).2.2) (by simpa using nn)
  · intro _ cls d u H' F' fp' y rx _ _
    exact hy cls d H' F' (cmp y) rx
theorem q_newP (h : Mkx X.prog X.w X.K X.mg X.base c k dd T) (hr : Room (k + 1) X.A) (hg : Gl X c) (ha : QA X (e :: es) w) (hdb : (c == ("__debug__" : Str)) = false := by decide)
    (he : starEach (e :: es) X.env = (false, eval e X.env) :: starEach es X.env := by rfl) (hpl : (backTo pos (starEach es X.env)).any (·.1) = false := by rfl) : QE X (.Call (.Name c p) (e :: es) [] pos) (wNewP c T dd w) where
  mono := fun hq hE z => ha.mono (fun ms q => fun a => h.mono (fun r => isNew_mono hq) (fun _ _ => hE _) (q a)) hE z
  run := fun W F0 H0 tk => by
    obtain ⟨f, fd, ps, dv, du, Fn, Mk, hm, hb, hd, hds⟩ := h.ok
    exact peImp (pe_makeSD (E := fun σ => WE W σ) Mk Fn hr hg hm hb hd (fun σ => passAt tk σ) (ha.run W F0 H0 tk) hdb he hpl) fun σ H Qh q => newP_core h ha hds (fun _ _ _ q => q) q
end
/-! C() -/
def mk0B (K : PySem.W.Frag) (c : Str) : Bool := PySem.W.makesIn K (He.ga K c) && (decide (PySem.W.findIn K (.ref (He.ga K c)) "__init__" = some (some (.builtin "object.__init__"))) && (decide (PySem.W.mroIn K (He.ga K c) (.type "object") = some true) && PySem.W.keepIn K (.ref (He.ga K c))))
section
variable {X : Cx} {H : Hp} {σ : L2.St} {c : Str} {p pos : Pos}
theorem run_make0 {pins : List (Addr × Obj)} {s : Shared} {Q : VK} {C : Addr} (h1 : PySem.W.makesIn X.K C = true) (h2 : PySem.W.findIn X.K (.ref C) "__init__" = some (some (.builtin "object.__init__"))) (h3 : PySem.W.mroIn X.K C (.type "object") = some true)
    (I : Inv X pins σ H s) (h : ∀ x dx, H x = none → H dx = none → dx ≠ x → Q (.ref x) (L2.upd (L2.upd H dx (.own x)) x (.ins C dx []))) :
    wpAny (model X.prog X.w) X.A (call (.ref C) []) (EP X pins σ Q) X.xe s := by
  have hq := h (s.heap.objs.size + 1) s.heap.objs.size (I.hok.fresh (Nat.le_succ _)) (I.hok.fresh (Nat.le_refl _)) (Nat.ne_of_lt (Nat.lt_succ_self _))
  have I2 := Inv.made (C := C) I
  have ho : ((s.heap.push PySem.W.emptyDict).push (PySem.W.instObj C s.heap.objs.size)).get? (s.heap.objs.size + 1) = some (PySem.W.instObj C s.heap.objs.size) := by
    have := Heap.get?_push_size (s.heap.push PySem.W.emptyDict) (o := PySem.W.instObj C s.heap.objs.size) rfl
    rwa [Heap.size_push] at this
  refine wpAny_call (make_map0 I.kIn h1 h2 (fun self => PySem.W.Looks.of_pure (PySem.W.oi_bind _)) ?_)
  have t1 : PySem.W.Looks (model X.prog X.w) ((s.heap.push PySem.W.emptyDict).push (PySem.W.instObj C s.heap.objs.size)) (typeOf (.ref (s.heap.objs.size + 1))) (.ref C) := NwA.type_at ho rfl
  have t2 : PySem.W.Looks (model X.prog X.w) ((s.heap.push PySem.W.emptyDict).push (PySem.W.instObj C s.heap.objs.size)) (isInstance (.ref (s.heap.objs.size + 1)) (.type "object")) true := t1.andThen (PySem.W.looks_mroIn I2.kIn h3)
  refine codeAny_call_builtin PySem.W.oi_plain PySem.W.entry_oi (@PySem.W.check_slot (model X.prog X.w) _ _ _ "object.__init__" "object" "__init__" (.ref (s.heap.objs.size + 1)) [] [] _ PySem.W.oi_kind PySem.W.oi_split t2 (NwA.oi_args_any _ [] []) ?_)
  rw [PySem.W.oi_run]
  exact wpAny_pure (And.intro rfl ⟨V.ref (s.heap.objs.size + 1), _, I2, rfl, hq⟩)
def wNew0 (c : Str) : TW := fun _ Q _ => ∀ a : Addr, Q (.ob a .o c [] [])
theorem q_new00 (hc : X.mg c = some (.ref (He.ga X.K c))) (hB : mk0B X.K c = true) (hg : Gl X c) (hdb : (c == ("__debug__" : Str)) = false := by decide) : QE X (.Call (.Name c p) [] [] pos) (wNew0 c) where
  mono := fun hq hE z => fun a => hq _ (z a)
  run := fun W F0 H0 tk => ⟨fun pins s σ H Qh I ⟨ρ, F, rel, z⟩ => by
    obtain ⟨g1, g⟩ := He.ba hB
    obtain ⟨g2, g⟩ := He.ba g
    obtain ⟨g3, g4⟩ := He.ba g
    refine wpAny_Call_Name_kw (ld_glob I hg hc ?_ hdb)
    refine PySem.W.callWith_K0 I.kIn g4 (run_make0 g1 (of_decide_eq_true g2) (of_decide_eq_true g3) I fun x dx hx hdx hne => ?_)
    have s1 : Ext F H F (L2.upd H dx (.own x)) := Ext.mine rel.s hdx
    have hx2 : (L2.upd H dx (.own x)) x = none := by rw [upd_ne (Ne.symm hne)]; exact hx
    have s2 : Ext F (L2.upd H dx (.own x)) F (L2.upd (L2.upd H dx (.own x)) x (.ins (He.ga X.K c) dx [])) := Ext.mine s1.s hx2
    refine z x (.ref x) _ F [x] (s1.trans s2) ?_ (fun b hb => by rw [List.mem_singleton.mp hb]; exact hx) (List.nodup_cons.mpr ⟨(fun h => nomatch h), List.nodup_nil⟩)
    unfold RepM
    refine ⟨dx, [], [], rfl, ⟨rfl, upd_same, rel.s.free hx, rel.e.h.free hx⟩, rfl, ?_⟩
    unfold RepMs; exact ⟨rfl, rfl⟩⟩
end
end RT
namespace RT
open PySem PySem.Spec PyProof.Rows L2
/-! ### the readings' equations, one for each shape (proofs that the kernel need not unfold) -/
section
variable {Q : M → Prop} {Qb : Bool → Prop} {E : XP} {ρ r : Sg} {De : EndW} {m m' : M} {i j k : Int} {n : Nat} {l l' : List D} {kk kk' : Md} {o : Option M}
theorem wVar_0 : wVar 0 (some m :: r) Q E = Q m.lock := propext Iff.rfl
theorem wVar_s : wVar (n + 1) (o :: r) Q E = wVar n r Q E := propext Iff.rfl
theorem wRetv_0 : wRetv 0 De (some m :: r) = (m.ret = true ∧ De.rt m) := propext Iff.rfl
theorem wRetv_s : wRetv (n + 1) De (o :: r) = wRetv n De r := propext Iff.rfl
theorem onFl_0 {P : List D → Prop} : onFl (some (.fl .o l) :: r) 0 P = P l := propext Iff.rfl
theorem onFl_s {P : List D → Prop} : onFl (o :: r) (n + 1) P = onFl r n P := propext Iff.rfl
theorem onMl_0 {P : List M → Prop} {ms : List M} : onMl (some (.ml .o ms) :: r) 0 P = P ms := propext Iff.rfl
theorem onMl_s {P : List M → Prop} : onMl (o :: r) (n + 1) P = onMl r n P := propext Iff.rfl
theorem onFd_0 {P : List (Key × D) → Prop} {l : List (Key × D)} : onFd (some (.fd .o l) :: r) 0 P = P l := propext Iff.rfl
theorem onFd_s {P : List (Key × D) → Prop} : onFd (o :: r) (n + 1) P = onFd r n P := propext Iff.rfl
theorem onB_e {P : Bool → Prop} {c : Bool} : onB P (.d (.bl c)) = P c := propext Iff.rfl
theorem onI_e {P : Int → Prop} : onI P (.d (.int i)) = P i := propext Iff.rfl
theorem onI2_e {P : Int → Int → Prop} : onI2 P (.d (.int i)) (.d (.int j)) = P i j := propext Iff.rfl
theorem on1_e {P : M → Prop} : on1 P [m] = P m := propext Iff.rfl
theorem on2_e {P : M → M → Prop} : on2 P [m, m'] = P m m' := propext Iff.rfl
theorem wTB_e {w : TW} : wTB w ρ Qb E = w ρ (onB Qb) E := propext Iff.rfl
theorem wPart_e {w : TW} {Qo : Option Int → Prop} : wPart w ρ Qo E = w ρ (onI fun i => Qo (some i)) E := propext Iff.rfl
theorem wRg1_e {we : TW} {Ql : List D → Prop} : wRg1 we ρ Ql E = we ρ (onI fun n => -16777216 ≤ n ∧ n ≤ 16777216 ∧ Ql (rg 0 n.toNat)) E := propext Iff.rfl
theorem wLstRg_e {wa : TW} : wLstRg wa ρ Q E = wa ρ (onI fun n => n ≤ 16777216 ∧ -16777216 ≤ n ∧ Q (.fl .o (iota n))) E := propext Iff.rfl
theorem wNeg_e {we : TW} : wNeg we ρ Q E = we ρ (onI fun i => Q (.d (.int (-i)))) E := propext Iff.rfl
theorem wAbs_e : wAbs [m] Q = onI (fun i => Q (.d (.int (if i < 0 then -i else i)))) m := propext Iff.rfl
theorem wInt_i : wInt [.d (.int i)] Q = Q (.d (.int i)) := propext Iff.rfl
theorem wInt_b {c : Bool} : wInt [.d (.bl c)] Q = Q (.d (.int (if c then 1 else 0))) := propext Iff.rfl
theorem wSetI_e {wi we : TW} : wSetI n wi we De ρ = onFl ρ n fun l => we ρ (fun m => ∃ y, m.frz = some y ∧ wi ρ (onI fun k => ∃ j, ixN l.length k = some j ∧ De.nx (ρ.set n (some (.fl .o (l.set j y))))) (De.ex ρ)) (De.ex ρ) := propext Iff.rfl
theorem wRem_e {we : TW} : wRem n we De ρ = onFl ρ n fun l => we ρ (onI fun k => ∃ ns, RT.D.ints l = some ns ∧ k ∈ ns ∧ De.nx (ρ.set n (some (.fl .o ((ns.erase k).map .int))))) (De.ex ρ) := propext Iff.rfl
def onID (P : Int → D → Prop) : M → M → Prop := fun x y => match x, y with
  | .d (.int k), .d y => P k y
  | _, _ => False
theorem onID_e {P : Int → D → Prop} {y : D} : onID P (.d (.int k)) (.d y) = P k y := propext Iff.rfl
theorem wIns_e {we we2 : TW} : wIns n we we2 De ρ = onFl ρ n fun l => we ρ (fun m => we2 ρ (fun m2 => onID (fun k y => l.length < 16777216 ∧ 0 ≤ k ∧ k < 2 ^ 63 ∧ De.nx (ρ.set n (some (.fl .o (l.take k.toNat ++ [y] ++ l.drop k.toNat))))) m m2) (De.ex ρ)) (De.ex ρ) := propext Iff.rfl
def onD (P : D → Prop) : M → Prop := fun x => match x with
  | .d y => P y
  | _ => False
theorem onD_e {P : D → Prop} {y : D} : onD P (.d y) = P y := propext Iff.rfl
theorem wDput_e {wi we : TW} : wDput n wi we De ρ = onFd ρ n fun l => we ρ (fun m => ∃ y, m.frz = some y ∧ wi ρ (onD fun kd => ∃ k, kd.key = some k ∧ l.length < 16777216 ∧ De.nx (ρ.set n (some (.fd .o (putD l k y))))) (De.ex ρ)) (De.ex ρ) := propext Iff.rfl
theorem onDic_e {P : List (Key × D) → Key → Prop} {l : List (Key × D)} {y : D} : onDic P (.fd kk l) (.d y) = ∃ k, y.key = some k ∧ P l k := propext Iff.rfl
/-! d.get(k, y) -/
def onDc (P : List (Key × D) → Prop) : M → Prop := fun x => match x.dic with
  | some l => P l
  | none => False
def onDD (P : D → D → Prop) : M → M → Prop := fun x y => match x, y with
  | .d a, .d b => P a b
  | _, _ => False
theorem onDc_e {P : List (Key × D) → Prop} {l : List (Key × D)} : onDc P (.fd kk l) = P l := propext Iff.rfl
theorem onDD_e {P : D → D → Prop} {a b : D} : onDD P (.d a) (.d b) = P a b := propext Iff.rfl
theorem wDget2_e {wo wi wf : TW} : wDget2 wo wi wf ρ Q E = wo ρ (onDc fun l => wi ρ (fun y => wf ρ (fun z => onDD (fun kd zd => ∃ k, kd.key = some k ∧ Q (.d ((look l k).getD zd))) y z) E) E) E := propext Iff.rfl
/-! the first place, a list put behind -/
def onSq (P : List D → Prop) : M → Prop := fun x => match x.seqD with
  | some l => P l
  | none => False
theorem onSq_fl {P : List D → Prop} : onSq P (.fl kk l) = P l := propext Iff.rfl
theorem onSq_tup {P : List D → Prop} : onSq P (.d (.tup l)) = P l := propext Iff.rfl
theorem onSq_lst {P : List D → Prop} : onSq P (.d (.lst l)) = P l := propext Iff.rfl
theorem onSq_scr {P : List D → Prop} : onSq P (.d (.scr l)) = P l := propext Iff.rfl
theorem wIdx_e {wo wa : TW} : wIdx wo wa ρ Q E = wo ρ (onSq fun l => wa ρ (onD fun d => d.flat = true ∧ l.all D.flat = true ∧ ∃ j, idxD d l = some j ∧ Q (.d (.int (j : Nat)))) E) E := propext Iff.rfl
/-! places -/
theorem ixM_tup : ixM (.d (.tup l)) i Q = ∃ y, atI l i = some y ∧ Q (.d y) := propext Iff.rfl
theorem ixM_lst : ixM (.d (.lst l)) i Q = ∃ y, atI l i = some y ∧ Q (.d y) := propext Iff.rfl
theorem ixM_scr : ixM (.d (.scr l)) i Q = ∃ y, atI l i = some y ∧ Q (.d y) := propext Iff.rfl
theorem ixM_fl : ixM (.fl kk l) i Q = ∃ y, atI l i = some y ∧ Q (.d y) := propext Iff.rfl
theorem ixM_ml {ms : List M} : ixM (.ml kk ms) i Q = ∃ y, atI ms i = some y ∧ Q y.lock := propext Iff.rfl
theorem ixM_mt {ms : List M} : ixM (.mt ms) i Q = ∃ y, atI ms i = some y ∧ Q y.lock := propext Iff.rfl
theorem wIx_str {z : Str} : wIx (.d (.str z)) (.d (.int i)) Q = (z.length ≤ sizeLine ∧ ∃ c, atI z.cps.toList i = some c ∧ Q (.d (.str ⟨#[c]⟩))) := propext Iff.rfl
theorem wIx_tup : wIx (.d (.tup l)) (.d (.int i)) Q = ∃ y, atI l i = some y ∧ Q (.d y) := propext Iff.rfl
theorem wIx_lst : wIx (.d (.lst l)) (.d (.int i)) Q = ∃ y, atI l i = some y ∧ Q (.d y) := propext Iff.rfl
theorem wIx_scr : wIx (.d (.scr l)) (.d (.int i)) Q = ∃ y, atI l i = some y ∧ Q (.d y) := propext Iff.rfl
theorem wIx_fl : wIx (.fl kk l) (.d (.int i)) Q = ∃ y, atI l i = some y ∧ Q (.d y) := propext Iff.rfl
theorem wIx_ml {ms : List M} : wIx (.ml kk ms) (.d (.int i)) Q = ∃ y, atI ms i = some y ∧ Q y.lock := propext Iff.rfl
theorem wIx_mt {ms : List M} : wIx (.mt ms) (.d (.int i)) Q = ∃ y, atI ms i = some y ∧ Q y.lock := propext Iff.rfl
variable {lo hi : Option Int}
theorem slM_str {z : Str} : slM (.d (.str z)) lo hi Q = (z.length ≤ sizeLine ∧ Q (.d (.str (cutS z lo hi)))) := propext Iff.rfl
theorem slM_tup : slM (.d (.tup l)) lo hi Q = Q (.d (.tup (cut l lo hi))) := propext Iff.rfl
theorem slM_scr : slM (.d (.scr l)) lo hi Q = Q (.fl .o (cut l lo hi)) := propext Iff.rfl
theorem ex1 {α : Type} {a : α} {P : α → Prop} : (∃ x, some a = some x ∧ P x) = P a := propext ⟨fun ⟨_, e, q⟩ => by cases e; exact q, fun q => ⟨a, rfl, q⟩⟩
theorem slM_lst : slM (.d (.lst l)) lo hi Q = Q (.fl .o (cut l lo hi)) := ex1 (P := fun l => Q (.fl .o (cut l lo hi)))
theorem slM_fl : slM (.fl kk l) lo hi Q = Q (.fl .o (cut l lo hi)) := ex1 (P := fun l => Q (.fl .o (cut l lo hi)))
/-! two operands -/
theorem wAdd_int : wAdd (.d (.int i)) (.d (.int j)) Q = Q (.d (.int (i + j))) := propext Iff.rfl
theorem wAdd_str {x y : Str} : wAdd (.d (.str x)) (.d (.str y)) Q = (x.length + y.length ≤ sizeLine ∧ Q (.d (.str (x ++ y)))) := propext Iff.rfl
theorem wAdd_tup : wAdd (.d (.tup l)) (.d (.tup l')) Q = (l.length + l'.length ≤ sizeLine ∧ Q (.d (.tup (l ++ l')))) := propext Iff.rfl
theorem ex2 {P : List D → List D → Prop} : (∃ x y, some l = some x ∧ some l' = some y ∧ P x y) = P l l' := propext ⟨fun ⟨_, _, e, e2, q⟩ => by cases e; cases e2; exact q, fun q => ⟨l, l', rfl, rfl, q⟩⟩
theorem wAdd_ff : wAdd (.fl kk l) (.fl kk' l') Q = (l.length + l'.length ≤ sizeLine ∧ Q (.fl .o (l ++ l'))) := ex2 (P := fun l l' => l.length + l'.length ≤ sizeLine ∧ Q (.fl .o (l ++ l')))
theorem wAdd_fl : wAdd (.fl kk l) (.d (.lst l')) Q = (l.length + l'.length ≤ sizeLine ∧ Q (.fl .o (l ++ l'))) := ex2 (P := fun l l' => l.length + l'.length ≤ sizeLine ∧ Q (.fl .o (l ++ l')))
theorem wAdd_lf : wAdd (.d (.lst l)) (.fl kk l') Q = (l.length + l'.length ≤ sizeLine ∧ Q (.fl .o (l ++ l'))) := ex2 (P := fun l l' => l.length + l'.length ≤ sizeLine ∧ Q (.fl .o (l ++ l')))
theorem wAdd_ll : wAdd (.d (.lst l)) (.d (.lst l')) Q = (l.length + l'.length ≤ sizeLine ∧ Q (.fl .o (l ++ l'))) := ex2 (P := fun l l' => l.length + l'.length ≤ sizeLine ∧ Q (.fl .o (l ++ l')))
variable {a b : D} {c : Bool}
theorem wEq_dd : wEq c (.d a) (.d b) Q = (a.ok ∧ b.ok ∧ Q (.d (.bl (if c then !a.eqb b else a.eqb b)))) := by
  unfold wEq; exact propext Iff.rfl
theorem wEq_fd : wEq c (.fl kk l) (.d b) Q = ((D.lst l).ok ∧ b.ok ∧ Q (.d (.bl (if c then !(D.lst l).eqb b else (D.lst l).eqb b)))) := by
  unfold wEq; exact propext Iff.rfl
theorem wEq_df : wEq c (.d a) (.fl kk l) Q = (a.ok ∧ (D.lst l).ok ∧ Q (.d (.bl (if c then !a.eqb (D.lst l) else a.eqb (D.lst l))))) := by
  unfold wEq; exact propext Iff.rfl
theorem wEq_ff : wEq c (.fl kk l) (.fl kk' l') Q = ((D.lst l).ok ∧ (D.lst l').ok ∧ Q (.d (.bl (if c then !(D.lst l).eqb (D.lst l') else (D.lst l).eqb (D.lst l'))))) := by
  unfold wEq; exact propext Iff.rfl
theorem wIn_tup : wIn c (.d a) (.d (.tup l)) Q = (a.flat = true ∧ l.all D.flat = true ∧ Q (.d (.bl (if c then !a.mem l else a.mem l)))) := propext Iff.rfl
theorem wIn_lst : wIn c (.d a) (.d (.lst l)) Q = (a.flat = true ∧ l.all D.flat = true ∧ Q (.d (.bl (if c then !a.mem l else a.mem l)))) := propext Iff.rfl
theorem wIn_fl : wIn c (.d a) (.fl kk l) Q = (a.flat = true ∧ l.all D.flat = true ∧ Q (.d (.bl (if c then !a.mem l else a.mem l)))) := propext Iff.rfl
theorem wIsN_e : wIsN c m (.d .non) Q = Q (.d (.bl (if c then !m.isN else m.isN))) := propext Iff.rfl
/-! targets -/
variable {g : TGD} {gs : TGDs} {Qs : Sg → Prop}
theorem gTpD_e : gTpD n gs (.tup l) ρ Qs = (l.length = n ∧ gs l ρ Qs) := propext Iff.rfl
theorem gTpD_l : gTpD n gs (.lst l) ρ Qs = (l.length = n ∧ gs l ρ Qs) := propext Iff.rfl
theorem gConsD_e : gConsD g gs (a :: l) ρ Qs = g a ρ (fun ρ' => gs l ρ' Qs) := propext Iff.rfl
theorem gNilD_e : gNilD [] ρ Qs = Qs ρ := propext Iff.rfl
theorem gNm_e : gNm n a ρ Qs = Qs (ρ.set n (some (.d a))) := propext Iff.rfl
theorem sSeq_e {w u : TSW} : sSeq w u De ρ = w { nx := u De, rt := De.rt, bk := De.bk, ct := De.ct, ex := De.ex } ρ := propext Iff.rfl
end
theorem wSMul_si {i : Str} {n : Int} {Q : M → Prop} : wSMul (.d (.str i)) (.d (.int n)) Q = (0 ≤ n ∧ n ≤ 1000 ∧ i.length ≤ 1000 ∧ ∀ z, Q (.d (.str z))) := propext Iff.rfl
end RT
namespace RT
open PySem PySem.Spec PyProof.Rows L2
theorem wC_e (x : D) {v0_ : Sg} {Q : M → Prop} {v2_ : XP} : wC x v0_ Q v2_ = (Q (.d x)) := propext Iff.rfl
theorem wOp_e (wr : WR2) (wa wb : TW) {ρ : Sg} {Q : M → Prop} {E : XP} : wOp wr wa wb ρ Q E = (wa ρ (fun x => wb ρ (fun y => wr x y Q) E) E) := propext Iff.rfl
theorem wAndT_e (t u : TTW) {ρ : Sg} {Q : Bool → Prop} {E : XP} : wAndT t u ρ Q E = (t ρ (fun c => if c = true then u ρ Q E else Q false) E) := propext Iff.rfl
theorem wOrT_e (t u : TTW) {ρ : Sg} {Q : Bool → Prop} {E : XP} : wOrT t u ρ Q E = (t ρ (fun c => if c = true then Q true else u ρ Q E) E) := propext Iff.rfl
theorem wNotT_e (t : TTW) {ρ : Sg} {Q : Bool → Prop} {E : XP} : wNotT t ρ Q E = (t ρ (fun c => Q (!c)) E) := propext Iff.rfl
theorem wAndV_e (wa wb : TW) {ρ : Sg} {Q : M → Prop} {E : XP} : wAndV wa wb ρ Q E = (wa ρ (onB fun c => if c = true then wb ρ Q E else Q (.d (.bl false))) E) := propext Iff.rfl
theorem wOrV_e (wa wb : TW) {ρ : Sg} {Q : M → Prop} {E : XP} : wOrV wa wb ρ Q E = (wa ρ (onB fun c => if c = true then Q (.d (.bl true)) else wb ρ Q E) E) := propext Iff.rfl
theorem wNotV_e (wa : TW) {ρ : Sg} {Q : M → Prop} {E : XP} : wNotV wa ρ Q E = (wa ρ (onB fun c => Q (.d (.bl (!c)))) E) := propext Iff.rfl
theorem wIte_e (t : TTW) (wa wb : TW) {ρ : Sg} {Q : M → Prop} {E : XP} : wIte t wa wb ρ Q E = (t ρ (fun c => if c = true then wa ρ Q E else wb ρ Q E) E) := propext Iff.rfl
theorem wI_e (C : Int → Int → Prop) (g : Int → Int → Int) {x : M} {y : M} {Q : M → Prop} : wI C g x y Q = (onI2 (fun i j => C i j ∧ Q (.d (.int (g i j)))) x y) := propext Iff.rfl
theorem wI0_e (g : Int → Int → Int) {x : M} {y : M} {Q : M → Prop} : wI0 g x y Q = (onI2 (fun i j => Q (.d (.int (g i j)))) x y) := propext Iff.rfl
theorem wB0_e (g : Int → Int → Bool) {x : M} {y : M} {Q : M → Prop} : wB0 g x y Q = (onI2 (fun i j => Q (.d (.bl (g i j)))) x y) := propext Iff.rfl
theorem wNil_e {v0_ : Sg} {Q : List M → Prop} {v2_ : XP} : wNil  v0_ Q v2_ = (Q []) := propext Iff.rfl
theorem wCons_e (wa : TW) (wr : TAW) {ρ : Sg} {Q : List M → Prop} {E : XP} : wCons wa wr ρ Q E = (wa ρ (fun x => wr ρ (fun xs => Q (x :: xs)) E) E) := propext Iff.rfl
theorem wTup_e (w : TAW) {ρ : Sg} {Q : M → Prop} {E : XP} : wTup w ρ Q E = (w ρ (fun ms => ms.length ≤ 1000 ∧ Q (mkT ms)) E) := propext Iff.rfl
theorem wLst_e (w : TAW) {ρ : Sg} {Q : M → Prop} {E : XP} : wLst w ρ Q E = (w ρ (fun ms => ms.length ≤ 1000 ∧ Q (mkL ms)) E) := propext Iff.rfl
theorem wDic0_e {v0_ : Sg} {Q : M → Prop} {v2_ : XP} : wDic0  v0_ Q v2_ = (Q (.fd .o [])) := propext Iff.rfl
theorem wSlc_e (wa : TW) (wl wh : TOW) {ρ : Sg} {Q : M → Prop} {E : XP} : wSlc wa wl wh ρ Q E = (wa ρ (fun x => wl ρ (fun lo => wh ρ (fun hi => slM x lo hi Q) E) E) E) := propext Iff.rfl
theorem wCl_e (wr : WCl) (w : TAW) {ρ : Sg} {Q : M → Prop} {E : XP} : wCl wr w ρ Q E = (w ρ (fun ms => wr ms Q) E) := propext Iff.rfl
theorem wLen_e {xs : List M} {Q : M → Prop} : wLen  xs Q = (on1 (fun m => ∃ n, m.len = some n ∧ Q (.d (.int n))) xs) := propext Iff.rfl
theorem wTupOf_e {xs : List M} {Q : M → Prop} : wTupOf  xs Q = (on1 (fun m => ∃ l, m.seqD = some l ∧ Q (.d (.tup l))) xs) := propext Iff.rfl
theorem wLstOf_e {xs : List M} {Q : M → Prop} : wLstOf  xs Q = (on1 (fun m => ∃ l, m.seqD = some l ∧ Q (.fl .o l)) xs) := propext Iff.rfl
theorem wOwn_e (T : TSp) (ds : List D) (w : TAW) {ρ : Sg} {Q : M → Prop} {E : XP} : wOwn T ds w ρ Q E = (w ρ (fun ms => T (M.toPs ms ++ ds.map .d) Q E) E) := propext Iff.rfl
theorem wAsg_e (i : Nat) (we : TW) {D : EndW} {ρ : Sg} : wAsg i we D ρ = (we ρ (fun m => m.sto = true ∧ D.nx (ρ.set i (some m))) (D.ex ρ)) := propext Iff.rfl
theorem wRet_e (we : TW) {D : EndW} {ρ : Sg} : wRet we D ρ = (we ρ (fun m => m.ret = true ∧ D.rt m) (D.ex ρ)) := propext Iff.rfl
theorem wExp_e (we : TW) {D : EndW} {ρ : Sg} : wExp we D ρ = (we ρ (fun _ => D.nx ρ) (D.ex ρ)) := propext Iff.rfl
theorem wIf_e (tc : TTW) (wa wb : TSW) {D : EndW} {ρ : Sg} : wIf tc wa wb D ρ = (tc ρ (fun k => if k = true then wa D ρ else wb D ρ) (D.ex ρ)) := propext Iff.rfl
theorem wWhile_e (tc : TTW) (wb : TSW) {D : EndW} {ρ : Sg} : wWhile tc wb D ρ = (∃ I : Nat → Sg → Prop, (∃ n, I n ρ) ∧ ∀ n ρ, I n ρ → tc ρ (fun k => if k = true then wb { nx := fun ρ' => ∃ m, m < n ∧ I m ρ', rt := D.rt, bk := D.nx, ct := fun ρ' => ∃ m, m < n ∧ I m ρ', ex := D.ex } ρ else D.nx ρ) (D.ex ρ)) := propext Iff.rfl
theorem wISeq_e (c : Bool) (we : TW) {ρ : Sg} {Q : List RT.D → Prop} {E : XP} : wISeq c we ρ Q E = (we ρ (fun m => ∃ l, m.itD c = some l ∧ Q l) E) := propext Iff.rfl
theorem wRg2_e (wa wb : TW) {ρ : Sg} {Q : List RT.D → Prop} {E : XP} : wRg2 wa wb ρ Q E = (wa ρ (fun x => wb ρ (fun y => onI2 (fun i j => -16777216 ≤ i ∧ i ≤ 16777216 ∧ -16777216 ≤ j ∧ j ≤ 16777216 ∧ (j - i).toNat ≤ 16777216 ∧ Q (rg i (j - i).toNat)) x y) E) E) := propext Iff.rfl
theorem wFor_e (wi : TIW) (g : TGD) (wb : TSW) {D : EndW} {ρ : Sg} : wFor wi g wb D ρ = (wi ρ (fun l => wLoop g wb D l ρ) (D.ex ρ)) := propext Iff.rfl
theorem wLc_e (wi : TIW) (g : TGD) (tt : TTW) (te : TW) (vs : List Nat) {ρ : Sg} {Q : M → Prop} {E : XP} : wLc wi g tt te vs ρ Q E = (wi ρ (fun l => wCmp g tt te (wipeR ρ vs) l (fun ys => Q (.fl .o ys))) E) := propext Iff.rfl
theorem tYesW_e {v0_ : Sg} {Q : Bool → Prop} {v2_ : XP} : tYesW  v0_ Q v2_ = (Q true) := propext Iff.rfl
theorem wApp_e (i : Nat) (we : TW) {D : EndW} {ρ : Sg} : wApp i we D ρ = (onFl ρ i fun l => we ρ (fun m => ∃ y, m.frz = some y ∧ l.length < 16777216 ∧ D.nx (ρ.set i (some (.fl .o (l ++ [y]))))) (D.ex ρ)) := propext Iff.rfl
theorem wEnum_e (c : Bool) (we : TW) {ρ : Sg} {Q : List RT.D → Prop} {E : XP} : wEnum c we ρ Q E = (we ρ (fun m => ∃ l, m.itD c = some l ∧ Q (enumD l)) E) := propext Iff.rfl
theorem wChn_e (r r' : WR2) (wa wb wc : TW) {ρ : Sg} {Q : M → Prop} {E : XP} : wChn r r' wa wb wc ρ Q E = (wa ρ (fun x => wb ρ (fun y => r x y (onB fun k => if k = true then wc ρ (fun z => r' y z Q) E else Q (.d (.bl false)))) E) E) := propext Iff.rfl
theorem wTru_e (we : TW) {ρ : Sg} {Q : Bool → Prop} {E : XP} : wTru we ρ Q E = (we ρ (fun m => ∃ b, m.tru = some b ∧ Q b) E) := propext Iff.rfl
theorem wIsi_e (T : String) (we : TW) {ρ : Sg} {Q : M → Prop} {E : XP} : wIsi T we ρ Q E = (we ρ (fun m => m.ty ≠ "scr" ∧ Q (.d (.bl (isB m.ty T)))) E) := propext Iff.rfl
theorem wSum_e {xs : List M} {Q : M → Prop} : wSum  xs Q = (on1 (fun m => ∃ ns, m.lstI = some ns ∧ Q (.d (.int ns.sum))) xs) := propext Iff.rfl
theorem wSorted_e {xs : List M} {Q : M → Prop} : wSorted  xs Q = (on1 (fun m => ∃ ns, m.lstI = some ns ∧ ns.length < 64 ∧ Q (.fl .o ((srt ns).map .int))) xs) := propext Iff.rfl
theorem wDget_e (wo wi : TW) {ρ : Sg} {Q : M → Prop} {E : XP} : wDget wo wi ρ Q E = (wo ρ (fun x => wi ρ (fun y => onDic (fun l k => ∃ z, look l k = some z ∧ Q (.d z)) x y) E) E) := propext Iff.rfl
theorem wDin_e (neg : Bool) (wi wo : TW) {ρ : Sg} {Q : M → Prop} {E : XP} : wDin neg wi wo ρ Q E = (wi ρ (fun y => wo ρ (fun x => onDic (fun l k => Q (.d (.bl (if neg then !(look l k).isSome else (look l k).isSome)))) x y) E) E) := propext Iff.rfl
theorem wRev_e (n : Nat) {D : EndW} {ρ : Sg} : wRev n D ρ = (onFl ρ n fun l => D.nx (ρ.set n (some (.fl .o l.reverse)))) := propext Iff.rfl
theorem wClr_e (n : Nat) {D : EndW} {ρ : Sg} : wClr n D ρ = (onFl ρ n fun l => D.nx (ρ.set n (some (.fl .o [])))) := propext Iff.rfl
theorem wPop_e (n : Nat) {D : EndW} {ρ : Sg} : wPop n D ρ = (onFl ρ n fun l => l ≠ [] ∧ D.nx (ρ.set n (some (.fl .o l.dropLast)))) := propext Iff.rfl
theorem wAll_e {xs : List M} {Q : M → Prop} : wAll  xs Q = (on1 (fun m => ∃ ns, m.lstB = some ns ∧ Q (.d (.bl (ns.all id)))) xs) := propext Iff.rfl
theorem wAny_e {xs : List M} {Q : M → Prop} : wAny  xs Q = (on1 (fun m => ∃ ns, m.lstB = some ns ∧ Q (.d (.bl (ns.any id)))) xs) := propext Iff.rfl
theorem wPart0_e {v0_ : Sg} {Q : Option Int → Prop} {v2_ : XP} : wPart0  v0_ Q v2_ = (Q none) := propext Iff.rfl
theorem wZip_e (c : Bool) (wa wb : TW) {ρ : Sg} {Q : List RT.D → Prop} {E : XP} : wZip c wa wb ρ Q E = (wa ρ (fun m => ∃ l, m.itD c = some l ∧ wb ρ (fun m' => ∃ l', m'.itD c = some l' ∧ Q (zipD l l')) E) E) := propext Iff.rfl
theorem wAsgG_e (g : TGD) (we : TW) {D : EndW} {ρ : Sg} : wAsgG g we D ρ = (we ρ (fun m => ∃ x, m.frz = some x ∧ g x ρ D.nx) (D.ex ρ)) := propext Iff.rfl
theorem wSetIJ_e (n : Nat) (wi wj we : TW) {D : EndW} {ρ : Sg} : wSetIJ n wi wj we D ρ = (onMl ρ n fun ms => we ρ (fun m => ∃ y, m.frz = some y ∧ wi ρ (onI fun k => onRow ms k fun j l => wj ρ (onI fun k2 => ∃ j2, ixN l.length k2 = some j2 ∧ D.nx (ρ.set n (some (.ml .o (ms.set j (.fl .o (l.set j2 y))))))) (D.ex ρ)) (D.ex ρ)) (D.ex ρ)) := propext Iff.rfl
theorem wAugIJ_e (n : Nat) (g : Int → Int → Int) (wi wj we : TW) {D : EndW} {ρ : Sg} : wAugIJ n g wi wj we D ρ = (onMl ρ n fun ms => wi ρ (onI fun k => onRow ms k fun j l => wj ρ (onI fun k2 => ∃ j2 c, ixN l.length k2 = some j2 ∧ l[j2]? = some (.int c) ∧ we ρ (onI fun d => D.nx (ρ.set n (some (.ml .o (ms.set j (.fl .o (l.set j2 (.int (g c d)))))))) ) (D.ex ρ)) (D.ex ρ)) (D.ex ρ)) := propext Iff.rfl
theorem wAppI_e (n : Nat) (wi we : TW) {D : EndW} {ρ : Sg} : wAppI n wi we D ρ = (onMl ρ n fun ms => wi ρ (onI fun k => onRow ms k fun j l => we ρ (fun m => ∃ y, m.frz = some y ∧ l.length < 16777216 ∧ D.nx (ρ.set n (some (.ml .o (ms.set j (.fl .o (l ++ [y]))))))) (D.ex ρ)) (D.ex ρ)) := propext Iff.rfl
theorem wLcM_e (wi : TIW) (g : TGD) (tt : TTW) (te : TW) (vs : List Nat) {ρ : Sg} {Q : M → Prop} {E : XP} : wLcM wi g tt te vs ρ Q E = (wi ρ (fun l => wCmpM g tt te (wipeR ρ vs) l (fun ys => Q (.ml .o ys))) E) := propext Iff.rfl
theorem gFrzIn_e (i : Nat) (u : TSW) {D : EndW} {ρ : Sg} : gFrzIn i u D ρ = (∃ m, ρ[i]? = some (some m) ∧ ∃ m', m.frzIn = some m' ∧ u D (ρ.set i (some m'))) := propext Iff.rfl
theorem gFrz_e (i : Nat) (u : TSW) {D : EndW} {ρ : Sg} : gFrz i u D ρ = (∃ m, ρ[i]? = some (some m) ∧ ∃ x, m.frz = some x ∧ u D (ρ.set i (some (.d x)))) := propext Iff.rfl
theorem wLstF_e (w : TAW) {ρ : Sg} {Q : M → Prop} {E : XP} : wLstF w ρ Q E = (w ρ (fun ms => ms.length ≤ 1000 ∧ ∃ ds, M.frzs ms = some ds ∧ Q (.fl .o ds)) E) := propext Iff.rfl
theorem wSortD_e {xs : List M} {Q : M → Prop} : wSortD  xs Q = (on1 (fun m => ∃ l, m.lstD = some l ∧ PySem.W.AllAlike (l.map D.py) ∧ PySem.W.Sortable (l.map D.py) ∧ l.length ≤ sizeLine ∧ (∀ x ∈ l, x.ok ∧ x.py.depth ≤ 40) ∧ Q (.fl .o (sortD l))) xs) := propext Iff.rfl
theorem wExt_e (i : Nat) (we : TW) {D : EndW} {ρ : Sg} : wExt i we D ρ = (onFl ρ i fun l => we ρ (fun m => ∃ l2, m.lstD = some l2 ∧ l.length + l2.length ≤ sizeLine ∧ D.nx (ρ.set i (some (.fl .o (l ++ l2))))) (D.ex ρ)) := propext Iff.rfl
theorem wLenU_e (wa : TW) {ρ : Sg} {Q : M → Prop} {E : XP} : wLenU wa ρ Q E = (wa ρ (fun m => ∃ l ns, m.seqD = some l ∧ D.ints l = some ns ∧ ns.Nodup ∧ ns.length ≤ 60 ∧ Q (.d (.int (ns.length : Nat)))) E) := propext Iff.rfl
theorem wMin_e {xs : List M} {Q : M → Prop} : wMin  xs Q = (on1 (fun m => ∃ ns, m.lstI = some ns ∧ 0 < ns.length ∧ ∀ k ∈ ns, (∀ y ∈ ns, k ≤ y) → Q (.d (.int k))) xs) := propext Iff.rfl
theorem wMax_e {xs : List M} {Q : M → Prop} : wMax  xs Q = (on1 (fun m => ∃ ns, m.lstI = some ns ∧ 0 < ns.length ∧ ∀ k ∈ ns, (∀ y ∈ ns, y ≤ k) → Q (.d (.int k))) xs) := propext Iff.rfl
theorem wLeast_e {xs : List M} {Q : M → Prop} : wLeast  xs Q = (on1 (fun m => ∃ y l, m.seqD = some (y :: l) ∧ PySem.W.AlikeAll ((y :: l).map D.py) ∧ (RT.D.tup (y :: l)).dp ≤ 40 ∧ ∀ (i : Nat) (z : D), (y :: l)[i]? = some z → z.py = PySem.W.minD y.py (l.map D.py) → Q (.d z)) xs) := propext Iff.rfl
theorem wForV_e (n : Nat) (g : TGD) (wb : TSW) {D : EndW} {ρ : Sg} : wForV n g wb D ρ = (∃ l, OwnL n l ρ ∧ l.length ≤ 16777216 ∧ wLoopV n l g wb D l ρ) := propext Iff.rfl
theorem wRaise0_e (x : Str) {D : EndW} {ρ : Sg} : wRaise0 x D ρ = (D.ex ρ ⟨x, []⟩) := propext Iff.rfl
theorem wRaise1_e (x f : Str) (we : TW) {De : EndW} {ρ : Sg} : wRaise1 x f we De ρ = (we ρ (onDx fun y => De.ex ρ ⟨x, [(f, y)]⟩) (De.ex ρ)) := propext Iff.rfl
theorem wIsX_e (tab : List (Str × Bool)) (we : TW) {ρ : Sg} {Q : M → Prop} {E : XP} : wIsX tab we ρ Q E = (we ρ (isxM tab Q) E) := propext Iff.rfl
theorem wXf_e (f : Str) (cs : List Str) (we : TW) {ρ : Sg} {Q : M → Prop} {E : XP} : wXf f cs we ρ Q E = (we ρ (xfM f cs Q) E) := propext Iff.rfl
theorem wTry_e (tab : List (Str × Bool)) (n i : Nat) (wb ws : TSW) {De : EndW} {ρ : Sg} : wTry tab n i wb ws De ρ = (ρ.length = n ∧ wb { nx := De.nx, rt := De.rt, bk := De.bk, ct := De.ct, ex := catW tab n i ws De } ρ) := propext Iff.rfl
theorem wPopAt_e (n : Nat) (we : TW) {De : EndW} {ρ : Sg} : wPopAt n we De ρ = (onFl ρ n fun l => we ρ (onI fun k => ∃ j, ixN l.length k = some j ∧ l.length ≤ 1000 ∧ De.nx (ρ.set n (some (.fl .o (l.eraseIdx j))))) (De.ex ρ)) := propext Iff.rfl
theorem wMax2_e {xs : List M} {Q : M → Prop} : wMax2  xs Q = (on2 (fun m m' => onI2 (fun i j => Q (.d (.int (if j > i then j else i)))) m m') xs) := propext Iff.rfl
theorem wMin2_e {xs : List M} {Q : M → Prop} : wMin2  xs Q = (on2 (fun m m' => onI2 (fun i j => Q (.d (.int (if j < i then j else i)))) m m') xs) := propext Iff.rfl
theorem wLenS_e (wa : TW) {ρ : Sg} {Q : M → Prop} {E : XP} : wLenS wa ρ Q E = (wa ρ (fun m => ∃ l ns, m.seqD = some l ∧ D.ints l = some ns ∧ ns.length ≤ 60 ∧ ∀ ks : List Int, ks.Nodup → (∀ k, k ∈ ks ↔ k ∈ ns) → Q (.d (.int (ks.length : Nat)))) E) := propext Iff.rfl
theorem wSetII_e (n : Nat) (wi wj we : TW) {De : EndW} {ρ : Sg} : wSetII n wi wj we De ρ = (onFl ρ n fun l => we ρ (fun m => ∃ y z, m.frz = some (.tup [y, z]) ∧ wi ρ (onI fun a => ∃ i, ixN l.length a = some i ∧ wj (ρ.set n (some (.fl .o (l.set i y)))) (onI fun b => ∃ j, ixN l.length b = some j ∧ De.nx (ρ.set n (some (.fl .o ((l.set i y).set j z))))) (De.ex (ρ.set n (some (.fl .o (l.set i y)))))) (De.ex ρ)) (De.ex ρ)) := propext Iff.rfl
theorem wUpd_e (n : Nat) (we : TW) {De : EndW} {ρ : Sg} : wUpd n we De ρ = (onFd ρ n fun l => we ρ (onOd fun l2 => l.length + l2.length ≤ 16777216 ∧ De.nx (ρ.set n (some (.fd .o (mergeD l l2))))) (De.ex ρ)) := propext Iff.rfl
theorem wDictP_e {xs : List M} {Q : M → Prop} : wDictP  xs Q = (on1 (fun m => ∃ l kvs, m.lstD = some l ∧ pairsD l = some kvs ∧ Q (.fd .o (mergeD [] kvs))) xs) := propext Iff.rfl
theorem wLstRev_e (wa : TW) {ρ : Sg} {Q : M → Prop} {E : XP} : wLstRev wa ρ Q E = (wa ρ (fun m => ∃ l, m.lstD = some l ∧ Q (.fl .o l.reverse)) E) := propext Iff.rfl
theorem wTry2_e (tab tab2 : List (Str × Bool)) (n i : Nat) (wb ws : TSW) (i2 : Nat) (ws2 : TSW) {De : EndW} {ρ : Sg} : wTry2 tab tab2 n i wb ws i2 ws2 De ρ = (ρ.length = n ∧ wb { nx := De.nx, rt := De.rt, bk := De.bk, ct := De.ct, ex := catW2 tab tab2 n i ws i2 ws2 De } ρ) := propext Iff.rfl
theorem wMkx0_e (x : Str) (we : TW) {ρ : Sg} {Q : M → Prop} {E : XP} : wMkx0 x we ρ Q E = (we ρ (fun _ => Q (.d (.exc x [] []))) E) := propext Iff.rfl
theorem wMkx1_e (x f : Str) (we : TW) {ρ : Sg} {Q : M → Prop} {E : XP} : wMkx1 x f we ρ Q E = (we ρ (onDx fun y => Q (.d (.exc x [f] [y]))) E) := propext Iff.rfl
theorem wDict1_e (wk wv : TW) {ρ : Sg} {Q : M → Prop} {E : XP} : wDict1 wk wv ρ Q E = (wk ρ (onDk fun k => wv ρ (fun m => ∃ y, m.frz = some y ∧ Q (.fd .o [(k, y)])) E) E) := propext Iff.rfl
theorem wTupRg2_e (wa wb : TW) {ρ : Sg} {Q : M → Prop} {E : XP} : wTupRg2 wa wb ρ Q E = (wa ρ (fun x => wb ρ (fun y => onI2 (fun i j => -16777216 ≤ i ∧ i ≤ 16777216 ∧ -16777216 ≤ j ∧ j ≤ 16777216 ∧ (j - i).toNat ≤ 16777216 ∧ Q (.d (.tup (iota2 i j)))) x y) E) E) := propext Iff.rfl
theorem wSlcS_e (wa : TW) (wl wh ws : TOW) {ρ : Sg} {Q : M → Prop} {E : XP} : wSlcS wa wl wh ws ρ Q E = (wa ρ (fun x => wl ρ (fun lo => wh ρ (fun hi => ws ρ (fun st => st ≠ some 0 ∧ ∃ l, M.sqD x = some l ∧ Q (.fl .o (pickV l lo hi st))) E) E) E) E) := propext Iff.rfl
theorem wDpop_e (n : Nat) (we : TW) {De : EndW} {ρ : Sg} : wDpop n we De ρ = (onFd ρ n fun l => we ρ (onDk fun k => (∃ y, look l k = some y) ∧ De.nx (ρ.set n (some (.fd .o (dropD l k))))) (De.ex ρ)) := propext Iff.rfl
theorem gLock_e (n : Nat) (u : TSW) {D : EndW} {ρ : Sg} : gLock n u D ρ = (∃ l, ρ[n]? = some (some (.fd .o l)) ∧ u D (ρ.set n (some (.d (.dct (l.map (·.1)) (l.map (·.2))))))) := propext Iff.rfl
theorem wItems_e (wa : TW) {ρ : Sg} {Q : List RT.D → Prop} {E : XP} : wItems wa ρ Q E = (wa ρ (fun m => ∃ ks l, m = .d (.dct ks l) ∧ l.length ≤ 16777216 ∧ Q (itemsD ks l)) E) := propext Iff.rfl
theorem wDsetApp_e (n : Nat) (wk we : TW) {De : EndW} {ρ : Sg} : wDsetApp n wk we De ρ = (∃ ks ms, ρ[n]? = some (some (.md .o ks ms)) ∧ ks.length < 16777216 ∧ wk ρ (onDk fun k => (k ∉ ks → we (ρ.set n (some (.md .o (ks ++ [k]) (ms ++ [.fl .o []])))) (fun m => ∃ y, m.frz = some y ∧ De.nx (ρ.set n (some (.md .o (ks ++ [k]) (ms ++ [.fl .o [y]]))))) (fun _ => False)) ∧ ∀ j : Nat, ks[j]? = some k → ∃ l, ms[j]? = some (.fl .o l) ∧ l.length < 16777216 ∧ we ρ (fun m => ∃ y, m.frz = some y ∧ De.nx (ρ.set n (some (.md .o ks (ms.set j (.fl .o (l ++ [y]))))))) (fun _ => False)) (De.ex ρ)) := propext Iff.rfl
theorem wDic0M_e {v0_ : Sg} {Q : M → Prop} {v2_ : XP} : wDic0M  v0_ Q v2_ = (Q (.md .o [] [])) := propext Iff.rfl
theorem wCallF_e (n : Nat) (tab : List (Str × TSp)) (wa : TAW) {ρ : Sg} {Q : M → Prop} {E : XP} : wCallF n tab wa ρ Q E = (∃ x T, ρ[n]? = some (some (.d (.fn x))) ∧ (x, T) ∈ tab ∧ wa ρ (fun ms => T (M.toPs ms) Q E) E) := propext Iff.rfl
theorem wIsB_e (neg : Bool) {x : M} {y : M} {Q : M → Prop} : wIsB neg x y Q = (∃ p q, x = .d (.bl p) ∧ y = .d (.bl q) ∧ Q (.d (.bl (if neg then !decide (p = q) else decide (p = q))))) := propext Iff.rfl
theorem wAppM_e (n : Nat) (we : TW) {De : EndW} {ρ : Sg} : wAppM n we De ρ = (onMl ρ n fun ms => we ρ (fun m => m.sto = true ∧ ms.length < 16777216 ∧ De.nx (ρ.set n (some (.ml .o (ms ++ [m]))))) (De.ex ρ)) := propext Iff.rfl
theorem wFld_e (cs : List Str) (f : Str) (we : TW) {ρ : Sg} {Q : M → Prop} {E : XP} : wFld cs f we ρ Q E = (we ρ (fun m => fldM cs f m Q) E) := propext Iff.rfl
theorem wMethP_e (c x : Str) (T : TSp) (dd : List D) (wo : TW) (w : TAW) {ρ : Sg} {Q : M → Prop} {E : XP} : wMethP c x T dd wo w ρ Q E = (wo ρ (fun mo => obC c x mo fun mo => w ρ (fun ms => T (mo.toP :: (M.toPs ms ++ dd.map .d)) Q E) E) E) := propext Iff.rfl
theorem wFldApp_e (cs : List Str) (f : Str) (n : Nat) (we : TW) {D : EndW} {ρ : Sg} : wFldApp cs f n we D ρ = (onFl2 cs f ρ n fun a c fs ms j l => we ρ (fun m => ∃ y, m.frz = some y ∧ l.length < 16777216 ∧ D.nx (ρ.set n (some (.ob a .o c fs (ms.set j (.fl .o (l ++ [y]))))))) (D.ex ρ)) := propext Iff.rfl
theorem wFldRem_e (cs : List Str) (f : Str) (n : Nat) (we : TW) {D : EndW} {ρ : Sg} : wFldRem cs f n we D ρ = (onFl2 cs f ρ n fun a c fs ms j l => we ρ (onI fun k => ∃ ns, RT.D.ints l = some ns ∧ k ∈ ns ∧ D.nx (ρ.set n (some (.ob a .o c fs (ms.set j (.fl .o ((ns.erase k).map .int))))))) (D.ex ρ)) := propext Iff.rfl
theorem wFldSet_e (cs : List Str) (f : Str) (n : Nat) (we : TW) {D : EndW} {ρ : Sg} : wFldSet cs f n we D ρ = (onOb ρ n fun a c fs ms => c ∈ cs ∧ fs.length < 900 ∧ we ρ (fun m => m.sto = true ∧ D.nx (ρ.set n (some (.ob a .o c (putN f fs) (putM f m fs ms))))) (D.ex ρ)) := propext Iff.rfl
theorem wFldMv_e (cs : List Str) (f : Str) (n j : Nat) {D : EndW} {ρ : Sg} : wFldMv cs f n j D ρ = (onOb ρ n fun a c fs ms => c ∈ cs ∧ fs.length < 900 ∧ n ≠ j ∧ onS ρ j fun m => m.ret = true ∧ D.nx ((ρ.set j none).set n (some (.ob a .o c (putN f fs) (putM f m fs ms))))) := propext Iff.rfl
theorem wRetF_e (cs : List Str) (f : Str) (n : Nat) {D : EndW} {ρ : Sg} : wRetF cs f n D ρ = (onOb ρ n fun a c fs ms => c ∈ cs ∧ ∃ j m, fix f fs = some j ∧ ms[j]? = some m ∧ m.ret = true ∧ D.rt m) := propext Iff.rfl
theorem wRetK_e (we : TW) {D : EndW} {ρ : Sg} : wRetK we D ρ = (we ρ (fun m => onS ρ 0 fun m0 => (M.pk m m0).ret = true ∧ D.rt (.pk m m0)) (D.ex ρ)) := propext Iff.rfl
theorem wNew_e (c : Str) (T : TSpM) (dd : List D) (w : TAW) {ρ : Sg} {Q : M → Prop} {E : XP} : wNew c T dd w ρ Q E = (w ρ (fun ms => M.rets ms = true ∧ ∀ a : Addr, T (.ob a .o c [] [] :: (ms ++ dd.map .d)) (fun r => isNew a c r Q) (fun _ y => E y)) E) := propext Iff.rfl
theorem wIdxB_e (wo wa : TW) {ρ : Sg} {Q : M → Prop} {E : XP} : wIdxB wo wa ρ Q E = (wo ρ (fun x => ∃ l, x.snap = some (.lst l) ∧ wa ρ (fun y => ∃ d j, y.snap = some d ∧ (D.lst l).ok ∧ d.ok ∧ idxB d l = some j ∧ Q (.d (.int (j : Nat)))) E) E) := propext Iff.rfl
theorem wGv_e (T : TSpM) (dd : List D) (w : TAW) {ρ : Sg} {Q : M → Prop} {E : XP} : wGv T dd w ρ Q E = (w ρ (fun ms => M.rets ms = true ∧ T (ms ++ dd.map .d) Q (fun _ y => E y)) E) := propext Iff.rfl
theorem wRetT_e (n : Nat) (we : TW) {D : EndW} {ρ : Sg} : wRetT n we D ρ = (we ρ (fun m => ∃ d, m = .d d ∧ onFl ρ n fun l => D.rt (.mt [.d d, .fl .o l])) (D.ex ρ)) := propext Iff.rfl
theorem wClrT_e (n : Nat) (wi : TW) {D : EndW} {ρ : Sg} : wClrT n wi D ρ = (onMt ρ n fun ms => wi ρ (onI fun k => onRow ms k fun j l => D.nx (ρ.set n (some (.mt (ms.set j (.fl .o [])))))) (D.ex ρ)) := propext Iff.rfl
theorem wSortedT_e {xs : List M} {Q : M → Prop} : wSortedT  xs Q = (on1 (fun m => ∃ ns, m.tupI = some ns ∧ ns.length < 64 ∧ Q (.fl .o ((srt ns).map .int))) xs) := propext Iff.rfl
theorem wForP_e (n i : Nat) (wb : TSW) {D : EndW} {ρ : Sg} : wForP n i wb D ρ = (∃ rows : List (List RT.D), ρ[n]? = some (some (.ml .p (rows.map (M.fl .p)))) ∧ wLoopP i wb D rows ρ) := propext Iff.rfl
theorem wEither_e (t1 t2 : TTW) {ρ : Sg} {Q : Bool → Prop} {E : XP} : wEither t1 t2 ρ Q E = (t1 ρ Q E ∨ t2 ρ Q E) := propext Iff.rfl
theorem wM1_e (wr : Str → M → (M → Prop) → Prop) (wo wa : TW) {ρ : Sg} {Q : M → Prop} {E : XP} : wM1 wr wo wa ρ Q E = (wo ρ (onStr fun x => wa ρ (fun y => wr x y Q) E) E) := propext Iff.rfl
theorem wMethD_e (x : Str) (tab : List (Str × TSp)) (wo : TW) (w : TAW) {ρ : Sg} {Q : M → Prop} {E : XP} : wMethD x tab wo w ρ Q E = (∃ c T, (c, T) ∈ tab ∧ wMethP c x T [] wo w ρ Q E) := propext Iff.rfl
theorem wIsO_e (tab : List (Str × Bool)) (we : TW) {ρ : Sg} {Q : M → Prop} {E : XP} : wIsO tab we ρ Q E = (we ρ (fun m => ∃ c b, m.cls = some c ∧ (c, b) ∈ tab ∧ Q (.d (.bl b))) E) := propext Iff.rfl
theorem wNewP_e (c : Str) (T : TSpM) (dd : List D) (w : TAW) {ρ : Sg} {Q : M → Prop} {E : XP} : wNewP c T dd w ρ Q E = (w ρ (fun ms => ∀ a : Addr, T (.ob a .o c [] [] :: (M.toPs ms ++ dd.map .d)) (fun r => isNew a c r Q) (fun _ y => E y)) E) := propext Iff.rfl
theorem wNew0_e (c : Str) {v0_ : Sg} {Q : M → Prop} {v2_ : XP} : wNew0 c v0_ Q v2_ = (∀ a : Addr, Q (.ob a .o c [] [])) := propext Iff.rfl
theorem sNx_e {De : EndW} {ρ : Sg} : sNx De ρ = (De.nx ρ) := propext Iff.rfl
theorem sCt_e {De : EndW} {ρ : Sg} : sCt De ρ = (De.ct ρ) := propext Iff.rfl
theorem sBk_e {De : EndW} {ρ : Sg} : sBk De ρ = (De.bk ρ) := propext Iff.rfl
theorem sRn_e {De : EndW} {ρ : Sg} : sRn De ρ = (De.rt (.d .non)) := propext Iff.rfl
theorem sNever_e {De : EndW} {ρ : Sg} : sNever De ρ = (False) := propext Iff.rfl
end RT
namespace G
open PySem PySem.Spec PyProof.Rows L2 RT
abbrev oAdd (a b : TW) : TW := wOp wAdd a b
abbrev oSub (a b : TW) : TW := wOp (wI0 fun i j => i - j) a b
abbrev oMul (a b : TW) : TW := wOp (wI CMulA fun i j => i * j) a b
abbrev oDiv (a b : TW) : TW := wOp (wI CDivA fun i j => i.fdiv j) a b
abbrev oMod (a b : TW) : TW := wOp (wI (fun _ j => j ≠ 0) fun i j => i.fmod j) a b
abbrev oPow (a b : TW) : TW := wOp (wI CPow fun i j => i ^ j.toNat) a b
abbrev oLt (a b : TW) : TW := wOp (wB0 fun i j => decide (i < j)) a b
abbrev oLe (a b : TW) : TW := wOp (wB0 fun i j => decide (i ≤ j)) a b
abbrev oGt (a b : TW) : TW := wOp (wB0 fun i j => decide (j < i)) a b
abbrev oGe (a b : TW) : TW := wOp (wB0 fun i j => decide (j ≤ i)) a b
abbrev oEq (a b : TW) : TW := wOp (wEq false) a b
abbrev oNe (a b : TW) : TW := wOp (wEq true) a b
abbrev oIn (a b : TW) : TW := wOp (wIn false) a b
abbrev oNin (a b : TW) : TW := wOp (wIn true) a b
abbrev oIsN (a b : TW) : TW := wOp (wIsN false) a b
abbrev oNotN (a b : TW) : TW := wOp (wIsN true) a b
abbrev oIx (a b : TW) : TW := wOp wIx a b
abbrev cLeLt (a b c : TW) : TW := wChn (wB0 fun i j => decide (i ≤ j)) (wB0 fun i j => decide (i < j)) a b c
abbrev cLeLe (a b c : TW) : TW := wChn (wB0 fun i j => decide (i ≤ j)) (wB0 fun i j => decide (i ≤ j)) a b c
abbrev cLtLt (a b c : TW) : TW := wChn (wB0 fun i j => decide (i < j)) (wB0 fun i j => decide (i < j)) a b c
/-- is_below(thing, many): slots 0 thing, 1 many -/
def w_is_below : TSW :=
    (wRet (wAndV (wIsi "int" (wVar 0)) (wAndV (wNotV (wIsi "bool" (wVar 0))) (cLeLt (wC (.int 0)) (wVar 0) (wVar 1)))))
abbrev T_is_below : TSp := tOf 2 2 w_is_below
/-- is_row(row, many): slots 0 row, 1 many, 2 met, 3 thing -/
def k_is_row_1 : TSW :=
    (wApp 2 (wVar 3))
def b_is_row_2 : TSW :=
    (sSeq (wIf (wOrT (wNotT (wTB (wOwn T_is_below [] (wCons (wVar 3) (wCons (wVar 1) wNil))))) (wTB (oIn (wVar 3) (wVar 2)))) (wRet (wC (.bl false))) sNx) k_is_row_1)
def k_is_row_3 : TSW :=
    (wRet (wC (.bl true)))
def k_is_row_4 : TSW :=
    (sSeq (wFor (wISeq false (wVar 0)) (gNm 3) b_is_row_2) k_is_row_3)
def k_is_row_5 : TSW :=
    (sSeq (wAsg 2 (wLst wNil)) k_is_row_4)
def w_is_row : TSW :=
    (sSeq (wIf (wTB (oNe (wCl wLen (wCons (wVar 0) wNil)) (wVar 1))) (wRet (wC (.bl false))) sNx) k_is_row_5)
abbrev T_is_row : TSp := tOf 2 4 w_is_row
/-- wishes_of(rows): slots 0 rows, 1 many, 2 hand, 3 row -/
def e_wishes_of_1 : TW :=
    (wCl wTupOf (wCons (wVar 3) wNil))
def b_wishes_of_2 : TSW :=
    (wIf (wNotT (wTB (wOwn T_is_row [] (wCons (wVar 3) (wCons (wVar 1) wNil))))) (wRaise1 "NoRow" "hand" (wVar 2)) sNx)
def k_wishes_of_3 : TSW :=
    (wRet (wCl wTupOf (wCons (wLc (wISeq true (wVar 0)) (gNm 3) tYesW e_wishes_of_1 [3]) wNil)))
def k_wishes_of_4 : TSW :=
    (sSeq (wFor (wEnum false (wVar 0)) (gTpD 2 (gConsD (gNm 2) (gConsD (gNm 3) gNilD))) b_wishes_of_2) k_wishes_of_3)
def k_wishes_of_5 : TSW :=
    (sSeq (wIf (wOrT (wTB (oLt (wVar 1) (wCl wLen (wCons (wVar 0) wNil)))) (wTB (oGt (wVar 1) (wC (.int 8))))) (wRaise0 "TooMany") sNx) k_wishes_of_4)
def k_wishes_of_6 : TSW :=
    (sSeq (wAsg 1 (wCl wLen (wCons (oIx (wVar 0) (wC (.int 0))) wNil))) k_wishes_of_5)
def w_wishes_of : TSW :=
    (sSeq (wIf (wOrT (wTB (oLt (wCl wLen (wCons (wVar 0) wNil)) (wC (.int 1)))) (wTB (oGt (wCl wLen (wCons (wVar 0) wNil)) (wC (.int 7))))) (wRaise0 "TooMany") sNx) k_wishes_of_6)
abbrev T_wishes_of : TSp := tOf 1 4 w_wishes_of
/-- things_in(wishes): slots 0 wishes -/
def w_things_in : TSW :=
    (wRet (wCl wLen (wCons (oIx (wVar 0) (wC (.int 0))) wNil)))
abbrev T_things_in : TSp := tOf 1 1 w_things_in
/-- owns_of(wishes, things): slots 0 wishes, 1 things, 2 met, 3 hand, 4 thing -/
def k_owns_of_1 : TSW :=
    (wApp 2 (wVar 4))
def b_owns_of_2 : TSW :=
    (wIf (wTB (oNotN (wVar 4) (wC .non))) (sSeq (wIf (wOrT (wNotT (wTB (wOwn T_is_below [] (wCons (wVar 4) (wCons (wOwn T_things_in [] (wCons (wVar 0) wNil)) wNil))))) (wTB (oIn (wVar 4) (wVar 2)))) (wRaise1 "NoOwn" "hand" (wVar 3)) sNx) k_owns_of_1) sNx)
def k_owns_of_3 : TSW :=
    (wRet (wCl wTupOf (wCons (wVar 1) wNil)))
def k_owns_of_4 : TSW :=
    (sSeq (wFor (wEnum false (wVar 1)) (gTpD 2 (gConsD (gNm 3) (gConsD (gNm 4) gNilD))) b_owns_of_2) k_owns_of_3)
def k_owns_of_5 : TSW :=
    (sSeq (wAsg 2 (wLst wNil)) k_owns_of_4)
def w_owns_of : TSW :=
    (sSeq (wIf (wTB (oNe (wCl wLen (wCons (wVar 1) wNil)) (wCl wLen (wCons (wVar 0) wNil)))) (wRaise1 "NoOwn" "hand" (wCl wLen (wCons (wVar 0) wNil))) sNx) k_owns_of_5)
abbrev T_owns_of : TSp := tOf 2 5 w_owns_of
/-- row_read(part, at): slots 0 part, 1 at, 2 row, 3 owned, 4 word, 5 letter -/
def k_row_read_1 : TSW :=
    (gFrz 2 (wRet (wTup (wCons (wVar 2) (wCons (oIx (oAdd (wVar 3) (wLst (wCons (wC .non) wNil))) (wC (.int 0))) wNil)))))
def k_row_read_2 : TSW :=
    (wIf (wTB (oNe (wVar 5) (wVar 4))) (wApp 3 (oIx (wVar 2) (wNeg (wC (.int 1))))) sNx)
def k_row_read_3 : TSW :=
    (sSeq (wApp 2 (wM1 wIdxT (wC (.str "ABCDEFGH")) (wVar 5))) k_row_read_2)
def k_row_read_4 : TSW :=
    (sSeq (wIf (wOrT (wTB (oNe (wCl wLen (wCons (wVar 5) wNil)) (wC (.int 1)))) (wTB (wOp (wInT true) (wVar 5) (wC (.str "ABCDEFGH"))))) (wRaise1 "NoText" "at" (wVar 1)) sNx) k_row_read_3)
def k_row_read_5 : TSW :=
    (sSeq (wIf (wTB (oEq (wSlc (wVar 4) (wPart (wC (.int 1))) wPart0) (wC (.str "*")))) (wAsg 5 (wSlc (wVar 4) wPart0 (wPart (wC (.int 1))))) sNx) k_row_read_4)
def b_row_read_6 : TSW :=
    (sSeq (wAsg 5 (wVar 4)) k_row_read_5)
def k_row_read_7 : TSW :=
    (sSeq (wIf (wTB (oGt (wCl wLen (wCons (wVar 3) wNil)) (wC (.int 1)))) (wRaise1 "NoText" "at" (wVar 1)) sNx) k_row_read_1)
def k_row_read_8 : TSW :=
    (sSeq (wFor (wISeq false (wM1 wSplit (wVar 0) (wC (.str " ")))) (gNm 4) b_row_read_6) k_row_read_7)
def k_row_read_9 : TSW :=
    (sSeq (wAsg 3 (wLst wNil)) k_row_read_8)
def w_row_read : TSW :=
    (sSeq (wAsg 2 (wLst wNil)) k_row_read_9)
abbrev T_row_read : TSp := tOf 2 6 w_row_read
/-- rows_read(text): slots 0 text, 1 rows, 2 things, 3 at, 4 part, 5 row, 6 own, 7 wishes -/
def k_rows_read_1 : TSW :=
    (wRet (wTup (wCons (wVar 7) (wCons (wOwn T_owns_of [] (wCons (wVar 7) (wCons (wVar 2) wNil))) wNil))))
def k_rows_read_2 : TSW :=
    (wApp 2 (wVar 6))
def k_rows_read_3 : TSW :=
    (sSeq (wApp 1 (wVar 5)) k_rows_read_2)
def b_rows_read_4 : TSW :=
    (sSeq (wAsgG (gTpD 2 (gConsD (gNm 5) (gConsD (gNm 6) gNilD))) (wOwn T_row_read [] (wCons (wVar 4) (wCons (wVar 3) wNil)))) k_rows_read_3)
def k_rows_read_5 : TSW :=
    (sSeq (wAsg 7 (wOwn T_wishes_of [] (wCons (wVar 1) wNil))) k_rows_read_1)
def k_rows_read_6 : TSW :=
    (sSeq (wFor (wEnum false (wM1 wSplit (wVar 0) (wC (.str "; ")))) (gTpD 2 (gConsD (gNm 3) (gConsD (gNm 4) gNilD))) b_rows_read_4) k_rows_read_5)
def k_rows_read_7 : TSW :=
    (sSeq (wAsg 2 (wLst wNil)) k_rows_read_6)
def k_rows_read_8 : TSW :=
    (sSeq (wAsg 1 (wLst wNil)) k_rows_read_7)
def w_rows_read : TSW :=
    (sSeq (wIf (wNotT (wTB (wIsi "str" (wVar 0)))) (wRaise1 "NoText" "at" (wNeg (wC (.int 1)))) sNx) k_rows_read_8)
abbrev T_rows_read : TSp := tOf 1 8 w_rows_read
/-- _law_cell(_law_script, _law_k): slots 0 _law_script, 1 _law_k, 2 _law_cell_here, 3 _law_stirred -/
def k__law_cell_1 : TSW :=
    (wRet (oMod (oMul (oMod (oMul (oAdd (wVar 3) (wC (.int 1))) (wC (.int 40692))) (wC (.int 2147483629))) (wC (.int 39373))) (wC (.int 999999937))))
def k__law_cell_2 : TSW :=
    (sSeq (wAsg 3 (oMod (oMul (oMod (oMul (oAdd (oAdd (oAdd (wVar 2) (oMul (oMul (wC (.int 7)) (wVar 1)) (wVar 1))) (oMul (wC (.int 13)) (wVar 1))) (wC (.int 5))) (wC (.int 48271))) (wC (.int 2147483647))) (wC (.int 69621))) (wC (.int 1000000007)))) k__law_cell_1)
def k__law_cell_3 : TSW :=
    (sSeq (wIf (wAndT (wTB (oGt (wCl wLen (wCons (wVar 0) wNil)) (wC (.int 0)))) (wTB (oEq (oMod (oIx (wVar 0) (wC (.int 0))) (wC (.int 2))) (wC (.int 0))))) (wRetv 2) sNx) k__law_cell_2)
def k__law_cell_4 : TSW :=
    (sSeq (wIf (wTB (oLt (wVar 1) (wCl wLen (wCons (wVar 0) wNil)))) (wAsg 2 (oMod (oIx (wVar 0) (wVar 1)) (oPow (wC (.int 10)) (wC (.int 60))))) sNx) k__law_cell_3)
def w__law_cell : TSW :=
    (sSeq (wAsg 2 (wC (.int 0))) k__law_cell_4)
abbrev T__law_cell : TSp := tOf 2 4 w__law_cell
/-- _law_row(_law_cell_here, _law_m): slots 0 _law_cell_here, 1 _law_m, 2 _law_row_here, 3 _law_thing -/
def k__law_row_1 : TSW :=
    (wAsg 0 (oDiv (wVar 0) (oAdd (wVar 3) (wC (.int 1)))))
def b__law_row_2 : TSW :=
    (sSeq (wIns 2 (oMod (wVar 0) (oAdd (wVar 3) (wC (.int 1)))) (wVar 3)) k__law_row_1)
def k__law_row_3 : TSW :=
    (wRet (wCl wTupOf (wCons (wVar 2) wNil)))
def k__law_row_4 : TSW :=
    (sSeq (wFor (wRg1 (wVar 1)) (gNm 3) b__law_row_2) k__law_row_3)
def w__law_row : TSW :=
    (sSeq (wAsg 2 (wLst wNil)) k__law_row_4)
abbrev T__law_row : TSp := tOf 2 4 w__law_row
/-- _law_wishes(_law_script, _law_at, _law_n, _law_m): slots 0 _law_script, 1 _law_at, 2 _law_n, 3 _law_m, 4 _law_hand -/
def e__law_wishes_1 : TW :=
    (wOwn T__law_row [] (wCons (wOwn T__law_cell [] (wCons (wVar 0) (wCons (oAdd (wVar 1) (wVar 4)) wNil))) (wCons (wVar 3) wNil)))
def w__law_wishes : TSW :=
    (wRet (wCl wTupOf (wCons (wLc (wRg1 (wVar 2)) (gNm 4) tYesW e__law_wishes_1 [4]) wNil)))
abbrev T__law_wishes : TSp := tOf 4 5 w__law_wishes
/-- _law_owns(_law_cell_here, _law_n, _law_m): slots 0 _law_cell_here, 1 _law_n, 2 _law_m, 3 _law_owns_here, 4 _law_hand, 5 _law_thing -/
def k__law_owns_1 : TSW :=
    (wIf (wOrT (wTB (oEq (wVar 5) (wVar 2))) (wTB (oIn (wVar 5) (wVar 3)))) (wApp 3 (wC .non)) (wApp 3 (wVar 5)))
def k__law_owns_2 : TSW :=
    (sSeq (wAsg 0 (oDiv (wVar 0) (oAdd (wVar 2) (wC (.int 1))))) k__law_owns_1)
def b__law_owns_3 : TSW :=
    (sSeq (wAsg 5 (oMod (wVar 0) (oAdd (wVar 2) (wC (.int 1))))) k__law_owns_2)
def k__law_owns_4 : TSW :=
    (wRet (wCl wTupOf (wCons (wVar 3) wNil)))
def k__law_owns_5 : TSW :=
    (sSeq (wFor (wRg1 (wVar 1)) (gNm 4) b__law_owns_3) k__law_owns_4)
def w__law_owns : TSW :=
    (sSeq (wAsg 3 (wLst wNil)) k__law_owns_5)
abbrev T__law_owns : TSp := tOf 3 6 w__law_owns
/-- _law_text(_law_wishes_here, _law_owns_here): slots 0 _law_wishes_here, 1 _law_owns_here, 2 _law_parts, 3 _law_row_here, 4 _law_own, 5 _law_words, 6 _law_thing -/
def b__law_text_1 : TSW :=
    (wApp 5 (oAdd (oIx (wC (.str "ABCDEFGH")) (wVar 6)) (wOp wSMulX (wC (.str "*")) (wCl wInt (wCons (oEq (wVar 6) (wVar 4)) wNil)))))
def k__law_text_2 : TSW :=
    (wApp 2 (wM1 wJoin (wC (.str " ")) (wVar 5)))
def k__law_text_3 : TSW :=
    (sSeq (wFor (wISeq false (wVar 3)) (gNm 6) b__law_text_1) k__law_text_2)
def b__law_text_4 : TSW :=
    (sSeq (wAsg 5 (wLst wNil)) k__law_text_3)
def k__law_text_5 : TSW :=
    (wRet (wM1 wJoin (wC (.str "; ")) (wVar 2)))
def k__law_text_6 : TSW :=
    (sSeq (wFor (wZip false (wVar 0) (wVar 1)) (gTpD 2 (gConsD (gNm 3) (gConsD (gNm 4) gNilD))) b__law_text_4) k__law_text_5)
def w__law_text : TSW :=
    (sSeq (wAsg 2 (wLst wNil)) k__law_text_6)
abbrev T__law_text : TSp := tOf 2 7 w__law_text
/-- _law_changed(_law_text_here, _law_cell_here): slots 0 _law_text_here, 1 _law_cell_here, 2 _law_some, 3 _law_at, 4 _law_sign -/
def k__law_changed_1 : TSW :=
    (wRet (oIx (wLst (wCons (oAdd (oAdd (wSlc (wVar 0) wPart0 (wPart (wVar 3))) (wVar 4)) (wSlc (wVar 0) (wPart (wVar 3)) wPart0)) (wCons (oAdd (wSlc (wVar 0) wPart0 (wPart (wVar 3))) (wSlc (wVar 0) (wPart (oAdd (wVar 3) (wC (.int 1)))) wPart0)) (wCons (oAdd (oAdd (wSlc (wVar 0) wPart0 (wPart (wVar 3))) (wVar 4)) (wSlc (wVar 0) (wPart (oAdd (wVar 3) (wC (.int 1)))) wPart0)) wNil)))) (oMod (oDiv (wVar 1) (wC (.int 2))) (wC (.int 3)))))
def k__law_changed_2 : TSW :=
    (sSeq (wAsg 4 (oIx (wVar 2) (oMod (oDiv (wVar 1) (wC (.int 600))) (wCl wLen (wCons (wVar 2) wNil))))) k__law_changed_1)
def k__law_changed_3 : TSW :=
    (sSeq (wAsg 3 (oMod (oDiv (wVar 1) (wC (.int 6))) (oAdd (wCl wLen (wCons (wVar 0) wNil)) (wC (.int 1))))) k__law_changed_2)
def k__law_changed_4 : TSW :=
    (sSeq (wIf (wTB (oEq (oMod (wVar 1) (wC (.int 2))) (wC (.int 0)))) (wAsg 2 (wC (.str "ABCDH*; "))) sNx) k__law_changed_3)
def w__law_changed : TSW :=
    (sSeq (wAsg 2 (wC (.str " !\"#$&'()*+,-./0123456789:;<=>?@ABCDEFGHIJKLMNOPQRSTUVWXYZ[\\]^_abcdefghijklmnopqrstuvwxyz{|}~"))) k__law_changed_4)
abbrev T__law_changed : TSp := tOf 2 5 w__law_changed
/-- _law_odd(_law_cell_here): slots 0 _law_cell_here, 1 _law_some -/
def k__law_odd_1 : TSW :=
    (wRet (oIx (wVar 1) (oMod (wVar 0) (wCl wLen (wCons (wVar 1) wNil)))))
def k__law_odd_2 : TSW :=
    (sSeq (wAsg 1 (oAdd (wVar 1) (wLst (wCons (wM1 wJoin (wC (.str "; ")) (oRep (wLst (wCons (wC (.str "A B C D E F G H")) wNil)) (wC (.int 8)))) (wCons (wC (.str "A B C D E F G H A")) (wCons (wM1 wJoin (wC (.str "; ")) (oRep (wLst (wCons (wC (.str "A B C D E F G")) wNil)) (wC (.int 7)))) wNil)))))) k__law_odd_1)
def k__law_odd_3 : TSW :=
    (sSeq (wAsg 1 (oAdd (wVar 1) (wLstF (wCons (wC (.str "A B C D E F G H; H G F E D C B A*")) (wCons (wC .non) (wCons (wC (.int 7)) (wCons (wLst (wCons (wC (.str "A")) wNil)) (wCons (wC (.bl true)) wNil)))))))) k__law_odd_2)
def k__law_odd_4 : TSW :=
    (sSeq (wAsg 1 (oAdd (wVar 1) (wLst (wCons (wC (.str "; A B")) (wCons (wC (.str "A  B")) (wCons (wC (.str "A* B*")) (wCons (wC (.str "A* B; A* B")) (wCons (wC (.str "B A; A")) (wCons (wC (.str "A B; A C")) (wCons (wC (.str "A A; A B")) (wCons (wC (.str "A,B")) (wCons (wC (.str "A B\\; A B")) (wCons (wC (.str "I")) wNil))))))))))))) k__law_odd_3)
def w__law_odd : TSW :=
    (sSeq (wAsg 1 (wLst (wCons (wC (.str "")) (wCons (wC (.str " ")) (wCons (wC (.str "A")) (wCons (wC (.str "A*")) (wCons (wC (.str "A**")) (wCons (wC (.str "*")) (wCons (wC (.str "A *")) (wCons (wC (.str "a")) (wCons (wC (.str "A B; A B; A B")) (wCons (wC (.str "A B;A B")) (wCons (wC (.str "A B ; A B")) (wCons (wC (.str "A B;  A B")) (wCons (wC (.str "A B; ")) wNil))))))))))))))) k__law_odd_4)
abbrev T__law_odd : TSp := tOf 1 2 w__law_odd
/-- _law_part(_law_part_here): slots 0 _law_part_here, 1 _law_row_here, 2 _law_owned, 3 _law_word -/
def k__law_part_1 : TSW :=
    (gFrz 2 (gFrz 1 (wRet (wTup (wCons (wVar 1) (wCons (wVar 2) wNil))))))
def k__law_part_2 : TSW :=
    (wIf (wTB (oEq (wSlc (wVar 3) (wPart (wC (.int 1))) wPart0) (wC (.str "*")))) (wApp 2 (oIx (wVar 1) (wNeg (wC (.int 1))))) sNx)
def k__law_part_3 : TSW :=
    (sSeq (wApp 1 (wM1 wIdxT (wC (.str "ABCDEFGH")) (oIx (wVar 3) (wC (.int 0))))) k__law_part_2)
def b__law_part_4 : TSW :=
    (sSeq (wIf (wOrT (wTB (oEq (wVar 3) (wC (.str "")))) (wOrT (wTB (wOp (wInT true) (oIx (wVar 3) (wC (.int 0))) (wC (.str "ABCDEFGH")))) (wTB (oNin (wSlc (wVar 3) (wPart (wC (.int 1))) wPart0) (wTup (wCons (wC (.str "")) (wCons (wC (.str "*")) wNil))))))) (gFrz 2 (gFrz 1 (wRet (wC .non)))) sNx) k__law_part_3)
def k__law_part_5 : TSW :=
    (sSeq (wIf (wTB (oGt (wCl wLen (wCons (wVar 2) wNil)) (wC (.int 1)))) (gFrz 2 (gFrz 1 (wRet (wC .non)))) sNx) k__law_part_1)
def k__law_part_6 : TSW :=
    (sSeq (wFor (wISeq false (wM1 wSplit (wVar 0) (wC (.str " ")))) (gNm 3) b__law_part_4) k__law_part_5)
def k__law_part_7 : TSW :=
    (sSeq (wAsg 2 (wLst wNil)) k__law_part_6)
def w__law_part : TSW :=
    (sSeq (wAsg 1 (wLst wNil)) k__law_part_7)
abbrev T__law_part : TSp := tOf 1 4 w__law_part
/-- _law_rows_due(_law_rows, _law_owned): slots 0 _law_rows, 1 _law_owned, 2 _law_hand, 3 _law_row_here, 4 _law_one -/
def b__law_rows_due_1 : TSW :=
    (wIf (wAndT (wTB (oNe (wVar 4) (wLst wNil))) (wTB (wOp (wInD false) (wVar 4) (wSlc (wVar 1) wPart0 (wPart (wVar 2)))))) (wRet (wTup (wCons (wC (.str "own")) (wCons (wVar 2) wNil)))) sNx)
def k__law_rows_due_2 : TSW :=
    (wRet (wTup (wCons (wC (.str "told")) (wCons (wC .non) wNil))))
def b__law_rows_due_3 : TSW :=
    (wIf (wTB (oNe (wCl wSorted (wCons (wVar 3) wNil)) (wLstRg (wCl wLen (wCons (oIx (wVar 0) (wC (.int 0))) wNil))))) (wRet (wTup (wCons (wC (.str "row")) (wCons (wVar 2) wNil)))) sNx)
def k__law_rows_due_4 : TSW :=
    (sSeq (wFor (wEnum false (wVar 1)) (gTpD 2 (gConsD (gNm 2) (gConsD (gNm 4) gNilD))) b__law_rows_due_1) k__law_rows_due_2)
def k__law_rows_due_5 : TSW :=
    (sSeq (wFor (wEnum false (wVar 0)) (gTpD 2 (gConsD (gNm 2) (gConsD (gNm 3) gNilD))) b__law_rows_due_3) k__law_rows_due_4)
def w__law_rows_due : TSW :=
    (sSeq (wIf (wOrT (wTB (oGt (wCl wLen (wCons (wVar 0) wNil)) (wC (.int 7)))) (wOrT (wTB (oLt (wCl wLen (wCons (oIx (wVar 0) (wC (.int 0))) wNil)) (wCl wLen (wCons (wVar 0) wNil)))) (wTB (oGt (wCl wLen (wCons (oIx (wVar 0) (wC (.int 0))) wNil)) (wC (.int 8)))))) (wRet (wTup (wCons (wC (.str "many")) (wCons (wC .non) wNil)))) sNx) k__law_rows_due_5)
abbrev T__law_rows_due : TSp := tOf 2 5 w__law_rows_due
/-- _law_due(_law_text_here): slots 0 _law_text_here, 1 _law_parts, 2 _law_at, 3 _law_part_here -/
def e__law_due_1 : TW :=
    (oIx (wVar 3) (wC (.int 1)))
def e__law_due_2 : TW :=
    (oIx (wVar 3) (wC (.int 0)))
def b__law_due_3 : TSW :=
    (wIf (wTB (oIsN (wVar 3) (wC .non))) (wRet (wTup (wCons (wC (.str "text")) (wCons (wVar 2) wNil)))) sNx)
def k__law_due_4 : TSW :=
    (wRet (wOwn T__law_rows_due [] (wCons (wLc (wISeq true (wVar 1)) (gNm 3) tYesW e__law_due_2 [3]) (wCons (wLc (wISeq true (wVar 1)) (gNm 3) tYesW e__law_due_1 [3]) wNil))))
def e__law_due_5 : TW :=
    (wOwn T__law_part [] (wCons (wVar 3) wNil))
def k__law_due_6 : TSW :=
    (gFrz 1 (sSeq (wFor (wEnum false (wVar 1)) (gTpD 2 (gConsD (gNm 2) (gConsD (gNm 3) gNilD))) b__law_due_3) k__law_due_4))
def k__law_due_7 : TSW :=
    (sSeq (wAsg 1 (wLc (wISeq true (wM1 wSplit (wVar 0) (wC (.str "; ")))) (gNm 3) tYesW e__law_due_5 [3])) k__law_due_6)
def w__law_due : TSW :=
    (sSeq (wIf (wNotT (wTB (wIsi "str" (wVar 0)))) (wRet (wTup (wCons (wC (.str "text")) (wCons (wNeg (wC (.int 1))) wNil)))) sNx) k__law_due_7)
abbrev T__law_due : TSp := tOf 1 4 w__law_due
/-- _law_kinds(_law_e): slots 0 _law_e, 1 _law_kinds_here -/
def k__law_kinds_1 : TSW :=
    (wRetv 1)
def k__law_kinds_2 : TSW :=
    (sSeq (wIf (wNotT (wTB (wIsX [("TooMany", true), ("NoOwn", true), ("NoText", true), ("NoRow", true)] (wVar 0)))) (wApp 1 (wTup (wCons (wC (.str "other")) (wCons (wC .non) wNil)))) sNx) k__law_kinds_1)
def k__law_kinds_3 : TSW :=
    (sSeq (wIf (wTB (wIsX [("TooMany", false), ("NoOwn", true), ("NoText", false), ("NoRow", false)] (wVar 0))) (wApp 1 (wTup (wCons (wC (.str "own")) (wCons (wXf "hand" ["NoOwn", "NoRow"] (wVar 0)) wNil)))) sNx) k__law_kinds_2)
def k__law_kinds_4 : TSW :=
    (sSeq (wIf (wTB (wIsX [("TooMany", false), ("NoOwn", false), ("NoText", false), ("NoRow", true)] (wVar 0))) (wApp 1 (wTup (wCons (wC (.str "row")) (wCons (wXf "hand" ["NoOwn", "NoRow"] (wVar 0)) wNil)))) sNx) k__law_kinds_3)
def k__law_kinds_5 : TSW :=
    (sSeq (wIf (wTB (wIsX [("TooMany", true), ("NoOwn", false), ("NoText", false), ("NoRow", false)] (wVar 0))) (wApp 1 (wTup (wCons (wC (.str "many")) (wCons (wC .non) wNil)))) sNx) k__law_kinds_4)
def k__law_kinds_6 : TSW :=
    (sSeq (wIf (wTB (wIsX [("TooMany", false), ("NoOwn", false), ("NoText", true), ("NoRow", false)] (wVar 0))) (wApp 1 (wTup (wCons (wC (.str "text")) (wCons (wXf "at" ["NoText"] (wVar 0)) wNil)))) sNx) k__law_kinds_5)
def w__law_kinds : TSW :=
    (sSeq (wAsg 1 (wLst wNil)) k__law_kinds_6)
abbrev T__law_kinds : TSp := tOf 1 2 w__law_kinds
/-- law(_law_script): slots 0 _law_script, 1 _law_first, 2 _law_n, 3 _law_m, 4 _law_text_here, 5 _law_k, 6 _law_turn, 7 _law_kinds_here, 8 _law_e -/
def b_law_1 : TSW :=
    (wExp (wOwn T_rows_read [] (wCons (wVar 4) wNil)))
def u_law_2 : TSW :=
    (wAsg 7 (wOwn T__law_kinds [] (wCons (wVar 8) wNil)))
def k_law_3 : TSW :=
    (wIf (wTB (oNe (wVar 7) (wLst (wCons (wOwn T__law_due [] (wCons (wVar 4) wNil)) wNil)))) (wRet (wC (.bl false))) sNx)
def k_law_4 : TSW :=
    (sSeq (wTry [("TooMany", true), ("NoOwn", true), ("NoText", true), ("NoRow", true)] 9 8 b_law_1 u_law_2) k_law_3)
def b_law_5 : TSW :=
    (sSeq (wAsg 7 (wLst (wCons (wTup (wCons (wC (.str "told")) (wCons (wC .non) wNil))) wNil))) k_law_4)
def k_law_6 : TSW :=
    (wRet (wC (.bl true)))
def k_law_7 : TSW :=
    (sSeq (wFor (wRg1 (wC (.int 2))) (gNm 6) b_law_5) k_law_6)
def b_law_8 : TSW :=
    (wAsg 4 (wOwn T__law_changed [] (wCons (wVar 4) (wCons (wOwn T__law_cell [] (wCons (wVar 0) (wCons (oAdd (wC (.int 4)) (wVar 5)) wNil))) wNil))))
def k_law_9 : TSW :=
    (sSeq (wIf (wTB (oEq (oMod (oDiv (wVar 1) (wC (.int 144))) (wC (.int 3))) (wC (.int 0)))) (wAsg 4 (wOwn T__law_odd [] (wCons (wOwn T__law_cell [] (wCons (wVar 0) (wCons (wC (.int 3)) wNil))) wNil))) sNx) k_law_7)
def k_law_10 : TSW :=
    (sSeq (wFor (wRg1 (oMod (oDiv (wVar 1) (wC (.int 36))) (wC (.int 4)))) (gNm 5) b_law_8) k_law_9)
def k_law_11 : TSW :=
    (sSeq (wAsg 4 (wOwn T__law_text [] (wCons (wOwn T__law_wishes [] (wCons (wVar 0) (wCons (wC (.int 8)) (wCons (wVar 2) (wCons (wVar 3) wNil))))) (wCons (wOwn T__law_owns [] (wCons (wOwn T__law_cell [] (wCons (wVar 0) (wCons (wC (.int 2)) wNil))) (wCons (wVar 2) (wCons (wVar 3) wNil)))) wNil)))) k_law_10)
def k_law_12 : TSW :=
    (sSeq (wAsg 3 (oAdd (wVar 2) (oMod (oDiv (wVar 1) (wC (.int 3))) (oSub (wC (.int 5)) (wVar 2))))) k_law_11)
def k_law_13 : TSW :=
    (sSeq (wAsg 2 (oAdd (wC (.int 1)) (oMod (wVar 1) (wC (.int 3))))) k_law_12)
def w_law : TSW :=
    (sSeq (wAsg 1 (wOwn T__law_cell [] (wCons (wVar 0) (wCons (wC (.int 1)) wNil)))) k_law_13)
abbrev T_law : TSp := tOf 1 9 w_law
end G
namespace G
open PySem PySem.Spec PyProof.Rows L2 RT
local macro_rules | `(tactic| walk_at "uf") => `(tactic| first | (with_reducible refine (id ?_ : k_is_row_1 _ _); unfold k_is_row_1) | (with_reducible refine (id ?_ : b_is_row_2 _ _); unfold b_is_row_2) | (with_reducible refine (id ?_ : k_is_row_3 _ _); unfold k_is_row_3) | (with_reducible refine (id ?_ : k_is_row_4 _ _); unfold k_is_row_4) | (with_reducible refine (id ?_ : k_is_row_5 _ _); unfold k_is_row_5) | (with_reducible refine (id ?_ : e_wishes_of_1 _ _ _); unfold e_wishes_of_1) | (with_reducible refine (id ?_ : b_wishes_of_2 _ _); unfold b_wishes_of_2) | (with_reducible refine (id ?_ : k_wishes_of_3 _ _); unfold k_wishes_of_3) | (with_reducible refine (id ?_ : k_wishes_of_4 _ _); unfold k_wishes_of_4) | (with_reducible refine (id ?_ : k_wishes_of_5 _ _); unfold k_wishes_of_5) | (with_reducible refine (id ?_ : k_wishes_of_6 _ _); unfold k_wishes_of_6) | (with_reducible refine (id ?_ : k_owns_of_1 _ _); unfold k_owns_of_1) | (with_reducible refine (id ?_ : b_owns_of_2 _ _); unfold b_owns_of_2) | (with_reducible refine (id ?_ : k_owns_of_3 _ _); unfold k_owns_of_3) | (with_reducible refine (id ?_ : k_owns_of_4 _ _); unfold k_owns_of_4) | (with_reducible refine (id ?_ : k_owns_of_5 _ _); unfold k_owns_of_5) | (with_reducible refine (id ?_ : k_row_read_1 _ _); unfold k_row_read_1) | (with_reducible refine (id ?_ : k_row_read_2 _ _); unfold k_row_read_2) | (with_reducible refine (id ?_ : k_row_read_3 _ _); unfold k_row_read_3) | (with_reducible refine (id ?_ : k_row_read_4 _ _); unfold k_row_read_4) | (with_reducible refine (id ?_ : k_row_read_5 _ _); unfold k_row_read_5) | (with_reducible refine (id ?_ : b_row_read_6 _ _); unfold b_row_read_6) | (with_reducible refine (id ?_ : k_row_read_7 _ _); unfold k_row_read_7) | (with_reducible refine (id ?_ : k_row_read_8 _ _); unfold k_row_read_8) | (with_reducible refine (id ?_ : k_row_read_9 _ _); unfold k_row_read_9) | (with_reducible refine (id ?_ : k_rows_read_1 _ _); unfold k_rows_read_1) | (with_reducible refine (id ?_ : k_rows_read_2 _ _); unfold k_rows_read_2) | (with_reducible refine (id ?_ : k_rows_read_3 _ _); unfold k_rows_read_3) | (with_reducible refine (id ?_ : b_rows_read_4 _ _); unfold b_rows_read_4) | (with_reducible refine (id ?_ : k_rows_read_5 _ _); unfold k_rows_read_5) | (with_reducible refine (id ?_ : k_rows_read_6 _ _); unfold k_rows_read_6) | (with_reducible refine (id ?_ : k_rows_read_7 _ _); unfold k_rows_read_7) | (with_reducible refine (id ?_ : k_rows_read_8 _ _); unfold k_rows_read_8) | (with_reducible refine (id ?_ : k__law_cell_1 _ _); unfold k__law_cell_1) | (with_reducible refine (id ?_ : k__law_cell_2 _ _); unfold k__law_cell_2) | (with_reducible refine (id ?_ : k__law_cell_3 _ _); unfold k__law_cell_3) | (with_reducible refine (id ?_ : k__law_cell_4 _ _); unfold k__law_cell_4) | (with_reducible refine (id ?_ : k__law_row_1 _ _); unfold k__law_row_1) | (with_reducible refine (id ?_ : b__law_row_2 _ _); unfold b__law_row_2) | (with_reducible refine (id ?_ : k__law_row_3 _ _); unfold k__law_row_3) | (with_reducible refine (id ?_ : k__law_row_4 _ _); unfold k__law_row_4) | (with_reducible refine (id ?_ : e__law_wishes_1 _ _ _); unfold e__law_wishes_1) | (with_reducible refine (id ?_ : k__law_owns_1 _ _); unfold k__law_owns_1) | (with_reducible refine (id ?_ : k__law_owns_2 _ _); unfold k__law_owns_2) | (with_reducible refine (id ?_ : b__law_owns_3 _ _); unfold b__law_owns_3) | (with_reducible refine (id ?_ : k__law_owns_4 _ _); unfold k__law_owns_4) | (with_reducible refine (id ?_ : k__law_owns_5 _ _); unfold k__law_owns_5) | (with_reducible refine (id ?_ : b__law_text_1 _ _); unfold b__law_text_1) | (with_reducible refine (id ?_ : k__law_text_2 _ _); unfold k__law_text_2) | (with_reducible refine (id ?_ : k__law_text_3 _ _); unfold k__law_text_3) | (with_reducible refine (id ?_ : b__law_text_4 _ _); unfold b__law_text_4) | (with_reducible refine (id ?_ : k__law_text_5 _ _); unfold k__law_text_5) | (with_reducible refine (id ?_ : k__law_text_6 _ _); unfold k__law_text_6) | (with_reducible refine (id ?_ : k__law_changed_1 _ _); unfold k__law_changed_1) | (with_reducible refine (id ?_ : k__law_changed_2 _ _); unfold k__law_changed_2) | (with_reducible refine (id ?_ : k__law_changed_3 _ _); unfold k__law_changed_3) | (with_reducible refine (id ?_ : k__law_changed_4 _ _); unfold k__law_changed_4) | (with_reducible refine (id ?_ : k__law_odd_1 _ _); unfold k__law_odd_1) | (with_reducible refine (id ?_ : k__law_odd_2 _ _); unfold k__law_odd_2) | (with_reducible refine (id ?_ : k__law_odd_3 _ _); unfold k__law_odd_3) | (with_reducible refine (id ?_ : k__law_odd_4 _ _); unfold k__law_odd_4) | (with_reducible refine (id ?_ : k__law_part_1 _ _); unfold k__law_part_1) | (with_reducible refine (id ?_ : k__law_part_2 _ _); unfold k__law_part_2) | (with_reducible refine (id ?_ : k__law_part_3 _ _); unfold k__law_part_3) | (with_reducible refine (id ?_ : b__law_part_4 _ _); unfold b__law_part_4) | (with_reducible refine (id ?_ : k__law_part_5 _ _); unfold k__law_part_5) | (with_reducible refine (id ?_ : k__law_part_6 _ _); unfold k__law_part_6) | (with_reducible refine (id ?_ : k__law_part_7 _ _); unfold k__law_part_7) | (with_reducible refine (id ?_ : b__law_rows_due_1 _ _); unfold b__law_rows_due_1) | (with_reducible refine (id ?_ : k__law_rows_due_2 _ _); unfold k__law_rows_due_2) | (with_reducible refine (id ?_ : b__law_rows_due_3 _ _); unfold b__law_rows_due_3) | (with_reducible refine (id ?_ : k__law_rows_due_4 _ _); unfold k__law_rows_due_4) | (with_reducible refine (id ?_ : k__law_rows_due_5 _ _); unfold k__law_rows_due_5) | (with_reducible refine (id ?_ : e__law_due_1 _ _ _); unfold e__law_due_1) | (with_reducible refine (id ?_ : e__law_due_2 _ _ _); unfold e__law_due_2) | (with_reducible refine (id ?_ : b__law_due_3 _ _); unfold b__law_due_3) | (with_reducible refine (id ?_ : k__law_due_4 _ _); unfold k__law_due_4) | (with_reducible refine (id ?_ : e__law_due_5 _ _ _); unfold e__law_due_5) | (with_reducible refine (id ?_ : k__law_due_6 _ _); unfold k__law_due_6) | (with_reducible refine (id ?_ : k__law_due_7 _ _); unfold k__law_due_7) | (with_reducible refine (id ?_ : k__law_kinds_1 _ _); unfold k__law_kinds_1) | (with_reducible refine (id ?_ : k__law_kinds_2 _ _); unfold k__law_kinds_2) | (with_reducible refine (id ?_ : k__law_kinds_3 _ _); unfold k__law_kinds_3) | (with_reducible refine (id ?_ : k__law_kinds_4 _ _); unfold k__law_kinds_4) | (with_reducible refine (id ?_ : k__law_kinds_5 _ _); unfold k__law_kinds_5) | (with_reducible refine (id ?_ : k__law_kinds_6 _ _); unfold k__law_kinds_6) | (with_reducible refine (id ?_ : b_law_1 _ _); unfold b_law_1) | (with_reducible refine (id ?_ : u_law_2 _ _); unfold u_law_2) | (with_reducible refine (id ?_ : k_law_3 _ _); unfold k_law_3) | (with_reducible refine (id ?_ : k_law_4 _ _); unfold k_law_4) | (with_reducible refine (id ?_ : b_law_5 _ _); unfold b_law_5) | (with_reducible refine (id ?_ : k_law_6 _ _); unfold k_law_6) | (with_reducible refine (id ?_ : k_law_7 _ _); unfold k_law_7) | (with_reducible refine (id ?_ : b_law_8 _ _); unfold b_law_8) | (with_reducible refine (id ?_ : k_law_9 _ _); unfold k_law_9) | (with_reducible refine (id ?_ : k_law_10 _ _); unfold k_law_10) | (with_reducible refine (id ?_ : k_law_11 _ _); unfold k_law_11) | (with_reducible refine (id ?_ : k_law_12 _ _); unfold k_law_12) | (with_reducible refine (id ?_ : k_law_13 _ _); unfold k_law_13))
local macro_rules | `(tactic| walk_at "rt") => `(tactic| try simp (implicitDefEqProofs := false) only [↓sSeq_e, ↓sNx_e, ↓sCt_e, ↓sBk_e, ↓sRn_e, ↓sNever_e, ↓wIf_e, ↓wAsg_e, ↓wRet_e, ↓wRetv_0, ↓wRetv_s, ↓wExp_e, ↓wVar_0, ↓wVar_s, ↓wC_e, ↓wOp_e, ↓wI_e, ↓wI0_e, ↓wB0_e, ↓onI2_e, ↓wTB_e, ↓wAndT_e, ↓wOrT_e, ↓wNotT_e, ↓onB_e, ↓wAndV_e, ↓wOrV_e, ↓wNotV_e, ↓wIte_e, ↓wNil_e, ↓wCons_e, ↓wTup_e, ↓wLst_e, ↓wCl_e, ↓wAll_e, ↓wAny_e, ↓wAbs_e, ↓wSum_e, ↓wNeg_e, M.lstB, ↓wLen_e, ↓wTupOf_e, ↓wLstOf_e, ↓wLstRg_e, ↓wOwn_e, M.toPs, M.toP, M.lock, locks_rows, toPs_rows, frzs_rows, rets_rows, stos_rows, M.seqM, M.locks, Md.lk, ↓wFor_e, ↓wISeq_e, ↓wRg1_e, ↓wRg2_e, ↓wEnum_e, ↓wZip_e, ↓wAsgG_e, M.itD, ↓gNm_e, ↓gTpD_e, ↓gConsD_e, ↓gNilD_e, ↓wLc_e, ↓tYesW_e, wipeR, M.frzIn, ↓wTru_e, M.tru, ↓wApp_e, ↓wSetIJ_e, ↓wAppI_e, ↓wAugIJ_e, ↓onMl_0, ↓onMl_s, ↓onI_e, ↓wLcM_e, ↓gFrz_e, ↓gFrzIn_e, ↓wRev_e, ↓wIns_e, ↓onID_e, ↓wRem_e, ↓wSetI_e, ↓wDput_e, ↓onD_e, ↓wDget_e, ↓wDin_e, ↓onDic_e, M.dic, D.key, ↓onFl_0, ↓onFl_s, ↓onFd_0, ↓onFd_s, ↓wChn_e, ↓wIsi_e, ↓wAdd_int, ↓wAdd_str, ↓wAdd_tup, ↓wAdd_ff, ↓wAdd_fl, ↓wAdd_lf, ↓wAdd_ll, ↓wEq_dd, ↓wEq_fd, ↓wEq_df, ↓wEq_ff, ↓wIn_tup, ↓wIn_lst, ↓wIn_fl, ↓wIsN_e, ↓wIx_str, ↓wIx_tup, ↓wIx_lst, ↓wIx_scr, ↓wIx_fl, ↓wIx_ml, ↓wIx_mt, ↓wSlc_e, ↓slM_str, ↓slM_tup, ↓slM_scr, ↓slM_lst, ↓slM_fl, ↓wPart_e, ↓wPart0_e, M.snap, M.isN, D.isN, M.sto, M.ret, M.len, M.ty, M.seqD, M.lstD, M.frz, Md.sto, Md.isO, ↓wDic0_e, ↓mkT, ↓mkL, M.ds, Option.map_some, Option.map_none, List.map_nil, List.map_cons, List.nil_append, List.append_nil, List.cons_append, List.getElem?_cons_zero, List.getElem?_cons_succ, List.set_cons_zero, List.set_cons_succ, true_and, and_true, Option.some.injEq, exists_eq_left, exists_eq_left', ite_true, ite_false, if_true, if_false, Bool.false_eq_true, nL_length, List.length_map, List.length_nil, List.length_cons, List.length_range, Bool.not_true, Bool.not_false, ↓on1_e, ↓on2_e, ↓wInt_i, ↓wInt_b, ↓wSorted_e, ↓wClr_e, ↓wPop_e, ↓wLstF_e, ↓wSortD_e, ↓wExt_e, ↓wIdx_e, ↓onSq_fl, ↓onSq_tup, ↓onSq_lst, ↓onSq_scr, ↓wLenU_e, ↓wMin_e, ↓wMax_e, ↓wLeast_e, ↓wForV_e, ↓wDget2_e, ↓onDc_e, ↓onDD_e, ↓wRaise0_e, ↓wRaise1_e, ↓onDx_d, ↓wIsX_e, ↓isxM_exc, ↓isxM_non, ↓wXf_e, ↓xfM_exc, ↓wTry_e, ↓gTpD_l, ↓wPopAt_e, ↓wMax2_e, ↓wMin2_e, ↓wLenS_e, ↓wSetII_e, ↓wInD_dl, ↓wInD_df, ↓wUpd_e, ↓wDictP_e, ↓onOd_e, ↓wLstRev_e, ↓wTry2_e, ↓wMkx0_e, ↓wMkx1_e, ↓wSMul_si, ↓wDict1_e, ↓onDk_d, ↓wTupRg2_e, ↓wSlcS_e, ↓wDpop_e, ↓gLock_e, ↓wItems_e, ↓wDsetApp_e, ↓wCallF_e, ↓wDic0M_e, ↓wIsB_b, ↓wAppM_e, ↓onOb_0, ↓onOb_s, ↓onS_0, ↓onS_s, ↓isPk_e, ↓isOb_e, ↓isNew_e, ↓obC_e, ↓wMeth_e, ↓wMethS_e, ↓wMethR_e, ↓wMethRK_e, ↓wMvS_e, ↓wMvR_e, ↓wMethP_e, ↓wFld_e, ↓wFldApp_e, ↓wFldRem_e, ↓wFldSet_e, ↓wFldMv_e, ↓wRetF_e, ↓wRetK_e, ↓wNew_e, ↓wIdxB_e, M.rets, ↓wGv_e, ↓wM1_e, ↓onStr_d, ↓wInT_d, ↓wSMulX_si, ↓wIsBA_b, ↓wIsBA_n, ↓wIsBA_i, ↓wMethD_e, ↓wIsO_e, ↓wTryM_e, ↓wNewP_e, ↓wNew0_e, ↓obC_d, ↓fldM_d])
local macro_rules | `(tactic| walk_at "nat") => `(tactic| try simp (implicitDefEqProofs := false) only [fmodL, fdivL, fmodN, fdivN, addN, addL, addR, mulN, mulL, mulR, eqb_nL, ltN, leN])
local macro_rules | `(tactic| walk_at "sd") => `(tactic| first | rfl | omega | decide | exact mulI_ok (by omega) | exact mulJ_ok (by omega) | exact div_okN (by omega) | exact ⟨by decide, by decide⟩ | exact ⟨by decide, by decide, by decide⟩)
local macro_rules | `(tactic| walk_at "g1") => `(tactic| first | walk_at "uf" | ((with_reducible refine And.intro ?_ ?_); focus (walk_at "sd")) | (with_reducible refine Exists.intro _ (And.intro at_0 ?_)) | (with_reducible refine Exists.intro _ (And.intro at_1 ?_)) | (with_reducible refine Exists.intro _ (And.intro at_2 ?_)) | ((with_reducible refine ifp ?_ ?_); focus (decide)) | ((with_reducible refine ifn ?_ ?_); focus (decide)))
local macro_rules | `(tactic| walk_at "nt2") => `(tactic| try simp (implicitDefEqProofs := false) only [Int.toNat_natCast, rg_nL, iota_nL])
local macro_rules | `(tactic| walk_at "gs") => `(tactic| (walk_at "rt"; walk_at "nat"; walk_at "nt2"))
local macro_rules | `(tactic| walk_at "go") => `(tactic| (walk_at "gs"; repeat (walk_at "g1"; walk_at "gs")))
/-! ### the cells -/
def even0 (ns : List Int) : Bool := match ns[0]? with
  | some i => decide (i.fmod 2 = 0)
  | none => false
def cellH (ns : List Int) (k : Nat) : Nat := match ns[k]? with
  | some i => (i.fmod (10 ^ 60)).toNat
  | none => 0
def cellN (ns : List Int) (k : Nat) : Nat :=
  if even0 ns = true then cellH ns k else ((((cellH ns k + 7 * k * k + 13 * k + 5) * 48271 % 2147483647) * 69621 % 1000000007 + 1) * 40692 % 2147483629) * 39373 % 999999937
theorem cellH_lt (ns : List Int) (k : Nat) : cellH ns k < 10 ^ 60 := by
  unfold cellH
  split
  · rename_i i _
    have h1 : 0 ≤ i.fmod (10 ^ 60) := Int.fmod_nonneg_of_pos _ (by decide)
    have h2 : i.fmod (10 ^ 60) < 10 ^ 60 := Int.fmod_lt_of_pos _ (by decide)
    omega
  · decide
theorem cell_lt (ns : List Int) (k : Nat) : cellN ns k < 10 ^ 60 := by
  unfold cellN
  split
  · exact cellH_lt _ _
  · have : ∀ x : Nat, x % 999999937 < 10 ^ 60 := fun x => Nat.lt_trans (Nat.mod_lt _ (by decide)) (by decide)
    exact this _
theorem mul_ok {i j : Int} (h : -(2 ^ 64) < j ∧ j < 2 ^ 64) : CMulA i j := .inl (.inr h)
theorem l_cell2 {ns : List Int} {k : Nat} {D : EndW} (hk : k < 1000) (he : even0 ns = false) (h : D.rt (.d (nD (cellN ns k)))) : k__law_cell_2 D [some (.d (.scr (ns.map .int))), some (.d (nD k)), some (.d (nD (cellH ns k))), none] := by
  unfold k__law_cell_2 k__law_cell_1
  walk_at "rt"
  refine ⟨mul_ok (by omega), mul_ok (by omega), mul_ok (by omega), mul_ok (by omega), by decide, mul_ok (by omega), by decide, mul_ok (by omega), by decide, mul_ok (by omega), by decide, ?_⟩
  have e1 : ((cellH ns k : Nat) : Int) + 7 * (k : Int) * (k : Int) + 13 * (k : Int) + 5 = ((cellH ns k + 7 * k * k + 13 * k + 5 : Nat) : Int) := by push_cast; rfl
  have e2 : ∀ x c d : Nat, (((x : Nat) : Int) * (c : Nat)).fmod (d : Nat) = ((x * c % d : Nat) : Int) := fun x c d => by
    rw [Int.fmod_eq_emod_of_nonneg _ (Int.natCast_nonneg _), ← Int.natCast_mul]; rfl
  have e3 : ∀ x : Nat, ((x : Nat) : Int) + 1 = ((x + 1 : Nat) : Int) := fun x => rfl
  have f1 : ∀ x : Nat, (((x : Nat) : Int) * 48271).fmod 2147483647 = ((x * 48271 % 2147483647 : Nat) : Int) := fun x => e2 x 48271 2147483647
  have f2 : ∀ x : Nat, (((x : Nat) : Int) * 69621).fmod 1000000007 = ((x * 69621 % 1000000007 : Nat) : Int) := fun x => e2 x 69621 1000000007
  have f3 : ∀ x : Nat, (((x : Nat) : Int) * 40692).fmod 2147483629 = ((x * 40692 % 2147483629 : Nat) : Int) := fun x => e2 x 40692 2147483629
  have f4 : ∀ x : Nat, (((x : Nat) : Int) * 39373).fmod 999999937 = ((x * 39373 % 999999937 : Nat) : Int) := fun x => e2 x 39373 999999937
  rw [e1, f1, f2, e3, f3, f4]
  have e : cellN ns k = (((cellH ns k + 7 * k * k + 13 * k + 5) * 48271 % 2147483647 * 69621 % 1000000007 + 1) * 40692 % 2147483629) * 39373 % 999999937 := by
    unfold cellN
    rw [if_neg (by rw [he]; decide)]
  rw [← e]
  exact h
theorem l_cell3 {ns : List Int} {k : Nat} {D : EndW} (hk : k < 1000) (h : D.rt (.d (nD (cellN ns k)))) : k__law_cell_3 D [some (.d (.scr (ns.map .int))), some (.d (nD k)), some (.d (nD (cellH ns k))), none] := by
  unfold k__law_cell_3
  walk_at "rt"
  cases ns with
  | nil => exact l_cell2 hk rfl h
  | cons i r =>
    have hl : decide ((0 : Int) < ((r.length + 1 : Nat) : Int)) = true := by rw [decide_eq_true_iff]; omega
    rw [if_pos (by simpa using hl)]
    refine ⟨.int i, atI_map (i := 0) (x := i) rfl, ?_⟩
    walk_at "rt"
    refine ⟨by decide, rfl, rfl, ?_⟩
    rw [eqb_int]
    by_cases he : i.fmod 2 = 0
    · rw [if_pos (by simpa using he)]
      have e : cellN (i :: r) k = cellH (i :: r) k := by
        unfold cellN
        rw [if_pos (by unfold even0; simpa using he)]
      rw [e] at h
      exact h
    · rw [if_neg (by simpa using he)]
      exact l_cell2 hk (by unfold even0; simpa using he) h
theorem x__law_cell {ns : List Int} {k : Nat} {Q : M → Prop} {E : XP} (hk : k < 1000) (h : Q (.d (nD (cellN ns k)))) : T__law_cell [.d (.scr (ns.map .int)), .d (nD k)] Q E := by
  refine ⟨rfl, rfl, ?_⟩
  show w__law_cell _ [_, _, _, _]
  unfold w__law_cell
  walk_at "rt"
  unfold k__law_cell_4
  walk_at "rt"
  by_cases hl : k < ns.length
  · rw [if_pos (by simpa using hl)]
    obtain ⟨i, hi⟩ : ∃ i, ns[k]? = some i := ⟨ns[k], List.getElem?_eq_getElem hl⟩
    refine ⟨.int i, atI_map hi, ?_⟩
    walk_at "rt"
    refine ⟨⟨by decide, by decide, by decide⟩, by decide, ?_⟩
    have e : i.fmod (10 ^ Int.toNat 60) = ((cellH ns k : Nat) : Int) := by
      unfold cellH
      rw [hi]
      have h1 : 0 ≤ i.fmod (10 ^ 60) := Int.fmod_nonneg_of_pos _ (by decide)
      show i.fmod (10 ^ 60) = (((i.fmod (10 ^ 60)).toNat : Nat) : Int)
      omega
    rw [e]
    exact l_cell3 hk h
  · rw [if_neg (by simpa using hl)]
    have e : cellH ns k = 0 := by
      unfold cellH
      rw [List.getElem?_eq_none (by omega)]
    have z := l_cell3 (ns := ns) (D := { nx := fun _ => Q (.d .non), rt := Q, ex := fun _ => E }) hk h
    rw [e] at z
    exact z
/-! ### rows of things, wishes -/
theorem perm_ins {l : List Nat} {n k : Nat} (h : l.Perm (List.range n)) : (l.take k ++ [n] ++ l.drop k).Perm (List.range (n + 1)) := by
  rw [List.range_succ]
  have h1 : (l.take k ++ [n] ++ l.drop k).Perm (l.take k ++ l.drop k ++ [n]) := by
    rw [List.append_assoc, List.append_assoc]
    exact List.Perm.append_left _ List.perm_append_comm
  rw [List.take_append_drop] at h1
  exact h1.trans (h.append_right _)
theorem l_row {m : Nat} {D : EndW} (hm : m ≤ 1000) (hk : ∀ (c x : M) (r : List Nat) (s : Option M), r.Perm (List.range m) → D.nx [some c, some x, some (.fl .o (nL r)), s]) :
    ∀ (j i c : Nat) (r : List Nat) (x : M) (s : Option M), i + j = m → c < 10 ^ 60 → r.Perm (List.range i) → wLoop (gNm 3) b__law_row_2 D (nL ((List.range' i j))) [some (.d (nD c)), some x, some (.fl .o (nL r)), s]
  | 0, i, c, r, x, s, hi, hc, hr => by
    unfold wLoop
    have e : i = m := by omega
    subst e
    exact hk _ _ _ _ hr
  | j + 1, i, c, r, x, s, hi, hc, hr => by
    rw [List.range'_succ, nL_cons]
    unfold wLoop b__law_row_2 k__law_row_1
    walk_at "rt"
    have hl : r.length = i := by rw [hr.length_eq, List.length_range]
    have h0 : ((i : Int) + 1) ≠ 0 := by omega
    have e1 : ((c : Nat) : Int).fmod ((i : Int) + 1) = ((c % (i + 1) : Nat) : Int) := by
      rw [Int.fmod_eq_emod_of_nonneg _ (by omega)]; push_cast; rfl
    have e2 : ((c : Nat) : Int).fdiv ((i : Int) + 1) = ((c / (i + 1) : Nat) : Int) := by
      rw [Int.fdiv_eq_ediv_of_nonneg _ (by omega)]; push_cast; rfl
    have hb : c % (i + 1) < i + 1 := Nat.mod_lt _ (by omega)
    rw [e1, e2]
    refine ⟨h0, by omega, by omega, by omega, ⟨h0, ?_⟩, ?_⟩
    · have : ((i : Int) + 1).natAbs = i + 1 := by omega
      rw [this]
      exact Nat.lt_of_le_of_lt (Nat.log2_le_self _) (by omega)
    · have e3 : (nL r).take ((c % (i + 1) : Nat) : Int).toNat ++ [nD i] ++ (nL r).drop ((c % (i + 1) : Nat) : Int).toNat = nL (r.take (c % (i + 1)) ++ [i] ++ r.drop (c % (i + 1))) := by
        rw [Int.toNat_natCast]
        unfold nL
        simp only [List.map_append, List.map_take, List.map_drop, List.map_cons, List.map_nil]
      rw [List.append_assoc] at e3
      simp only [List.singleton_append] at e3
      first | rw [e3] | (rw [List.append_cons] at e3; rw [e3]) | skip
      refine l_row hm hk j (i + 1) _ _ _ _ (by omega) (Nat.lt_of_le_of_lt (Nat.div_le_self _ _) hc) ?_
      have := perm_ins (k := c % (i + 1)) hr
      first | exact this | (rw [List.append_assoc] at this; simpa using this)
theorem x__law_row {c m : Nat} {Q : M → Prop} {E : XP} (hm : m ≤ 1000) (hc : c < 10 ^ 60) (h : ∀ r : List Nat, r.Perm (List.range m) → Q (.d (.tup (nL r)))) : T__law_row [.d (nD c), .d (nD m)] Q E := by
  refine ⟨rfl, rfl, ?_⟩
  show w__law_row _ [_, _, _, _]
  unfold w__law_row k__law_row_4
  walk_at "rt"
  refine ⟨by omega, ?_⟩
  refine ⟨by omega, by omega, ?_⟩
  rw [Int.toNat_natCast, rg_nL, List.range_eq_range']
  refine l_row hm (fun c x r s hr => ?_) m 0 c [] _ _ (by omega) hc (.refl _)
  unfold k__law_row_3
  walk_at "rt"
  exact h r hr
/-- a table of wishes -/
def wD (W : List (List Nat)) : D := .tup (W.map fun r => .tup (nL r))
/-- rows: each an order of the m things -/
structure Rows (W : List (List Nat)) (n m : Nat) : Prop where
  len : W.length = n
  row : ∀ r ∈ W, r.Perm (List.range m)
theorem Rows.get {W : List (List Nat)} {n m i : Nat} (R : Rows W n m) (h : i < n) : ∃ r, W[i]? = some r ∧ r.Perm (List.range m) := by
  have hi : i < W.length := by rw [R.len]; exact h
  exact ⟨W[i], List.getElem?_eq_getElem hi, R.row _ (List.getElem_mem hi)⟩
theorem wD_at {W : List (List Nat)} {i : Nat} {r : List Nat} (h : W[i]? = some r) : atI (W.map fun r => D.tup (nL r)) (i : Int) = some (.tup (nL r)) := atI_map h
def All2 {α β : Type} (R : α → β → Prop) : List α → List β → Prop
  | [], [] => True
  | x :: xs, y :: ys => R x y ∧ All2 R xs ys
  | _, _ => False
theorem All2.len {α β : Type} {R : α → β → Prop} : ∀ {l : List α} {m : List β}, All2 R l m → m.length = l.length
  | [], [], _ => rfl
  | x :: xs, y :: ys, h => by rw [List.length_cons, List.length_cons, All2.len h.2]
  | [], _ :: _, h => h.elim
  | _ :: _, [], h => h.elim
theorem All2.right {α β : Type} {R : α → β → Prop} : ∀ {l : List α} {m : List β}, All2 R l m → ∀ y ∈ m, ∃ x ∈ l, R x y
  | [], [], _, y, hy => by cases hy
  | x :: xs, z :: zs, h, y, hy => by
    rcases List.mem_cons.mp hy with e | hy
    · subst e; exact ⟨x, List.mem_cons_self, h.1⟩
    · obtain ⟨w, h1, h2⟩ := All2.right h.2 y hy
      exact ⟨w, List.mem_cons_of_mem _ h1, h2⟩
  | [], _ :: _, h, _, _ => h.elim
  | _ :: _, [], h, _, _ => h.elim
/-- comprehensions whose items' values are told by what is so of them -/
theorem cmp_rel {α β : Type} {i : Nat} {te : TW} {ρ : Sg} {inj : α → D} {g : β → D} {R : α → β → Prop} : ∀ {l : List α} {Q : List D → Prop},
    (∀ x ∈ l, ∀ P : M → Prop, (∀ y, R x y → ∀ m, m.frz = some (g y) → P m) → te (ρ.set i (some (.d (inj x)))) P (fun _ => False)) → (∀ ys : List β, All2 R l ys → Q (ys.map g)) → wCmp (gNm i) tYesW te ρ (l.map inj) Q
  | [], Q, _, q => q [] trivial
  | x :: l, Q, h, q => by
    rw [List.map_cons]
    unfold wCmp
    simp only [gNm, tYesW, if_true]
    refine h x List.mem_cons_self _ fun y hy m hm => ⟨g y, hm, ?_⟩
    exact cmp_rel (fun z hz => h z (List.mem_cons_of_mem _ hz)) fun ys hys => q (y :: ys) ⟨hy, hys⟩
theorem x__law_wishes {ns : List Int} {at_ n m : Nat} {Q : M → Prop} {E : XP} (ha : at_ ≤ 100) (hn : n ≤ 100) (hm : m ≤ 1000) (h : ∀ W, Rows W n m → Q (.d (wD W))) : T__law_wishes [.d (.scr (ns.map .int)), .d (nD at_), .d (nD n), .d (nD m)] Q E := by
  refine ⟨rfl, rfl, ?_⟩
  show w__law_wishes _ [_, _, _, _, _]
  unfold w__law_wishes
  walk_at "rt"
  refine ⟨by omega, by omega, ?_⟩
  rw [Int.toNat_natCast, rg_nL]
  refine cmp_rel (inj := nD) (g := fun r : List Nat => D.tup (nL r)) (R := fun _ r => r.Perm (List.range m)) (fun x hx P hP => ?_) (fun ys hys => ?_)
  · have hx' := List.mem_range.mp hx
    unfold e__law_wishes_1
    walk_at "rt"
    rw [show ((at_ : Int) + (x : Int)) = ((at_ + x : Nat) : Int) from rfl]
    refine x__law_cell (by omega) ?_
    walk_at "rt"
    refine x__law_row hm (cell_lt _ _) fun r hr => hP r hr _ rfl
  · refine h ys ⟨?_, ?_⟩
    · have := hys.len; rw [List.length_range] at this; exact this
    · intro r hr
      obtain ⟨_, _, z⟩ := hys.right r hr
      exact z
/-! ### what is owned, as data -/
def oD : Option Nat → D
  | none => .non
  | some n => nD n
def own (ow : List (Option Nat)) (h : Nat) : Option Nat := (ow[h]?).getD none
def owD (ow : List (Option Nat)) : RT.D := .tup (ow.map oD)
def Owns (ow : List (Option Nat)) : Prop := ∀ h k t, own ow h = some t → own ow k = some t → h = k
/-! ### data equal to itself; whole numbers among whole numbers -/
theorem eqb_self {x : D} (h : x.ok) : x.eqb x = true := PySem.SeqAt.eqv_refl _ h.lay
theorem iL_flat (l : List Int) : (l.map RT.D.int).all RT.D.flat = true := by
  rw [List.all_eq_true]; intro x hx; obtain ⟨y, _, e⟩ := List.mem_map.mp hx; rw [← e]; rfl
theorem iL_mem (k : Int) : ∀ l : List Int, D.mem (.int k) (l.map .int) = decide (k ∈ l)
  | [] => rfl
  | x :: l => by
    have ih := iL_mem k l
    unfold D.mem inV at ih ⊢
    simp only [List.map_cons, List.any_cons, D.toV] at ih ⊢
    rw [ih]
    by_cases h : k = x
    · subst h; simp [eqV]
    · simp [h, eqV, Ne.symm h]
/-! ### what is left, compared -/
theorem eqb_oD (o : Option Nat) (t : Nat) : D.eqb (oD o) (nD t) = decide (o = some t) := by
  cases o with
  | none => rfl
  | some x =>
    show D.eqb (nD x) (nD t) = _
    rw [eqb_int]
    by_cases h : x = t
    · subst h; simp
    · have : (x : Int) ≠ t := by omega
      simp [h, this]
theorem ok_oD (o : Option Nat) : D.ok (oD o) := by cases o <;> rfl
theorem len0 {l : List Nat} : D.eqb (.int (l.length : Int)) (.int 0) = decide (l = []) := by
  rw [eqb_int]
  by_cases h : l = []
  · subst h; rfl
  · have : l.length ≠ 0 := fun z => h (List.length_eq_zero_iff.mp z)
    have : ¬ (l.length : Int) = 0 := by omega
    simp [h, this]
/-! ### what stands in such lists: whole numbers, None, True, a text -/
def It (x : D) : Prop := x = .non ∨ (∃ i, x = .int i) ∨ x = .bl true ∨ x = .str "A"
theorem It.dp {x : D} (h : It x) : x.dp ≤ 0 := by
  rcases h with rfl | ⟨i, rfl⟩ | rfl | rfl
  · unfold RT.D.dp; exact Nat.le_refl _
  · unfold RT.D.dp; exact Nat.le_refl _
  · unfold RT.D.dp; exact Nat.le_refl _
  · unfold RT.D.dp; rw [if_pos (by first | rfl | decide +kernel)]; exact Nat.le_refl _
theorem its_ok {l : List D} (h : ∀ x ∈ l, It x) : (D.lst l).ok ∧ (D.tup l).ok := ⟨ok_dp (Nat.le_trans (dp_lst (dps_le fun x hx => (h x hx).dp)) (by decide)), ok_dp (Nat.le_trans (dp_tup (dps_le fun x hx => (h x hx).dp)) (by decide))⟩
def belowB (m : Nat) (x : D) : Bool := match x with
  | .int i => decide (0 ≤ i) && decide (i < m)
  | _ => false
theorem x_is_below {x : D} {m : Nat} {Q : M → Prop} {E : XP} (hx : It x) (h : Q (.d (.bl (belowB m x)))) : T_is_below [.d x, .d (nD m)] Q E := by
  refine ⟨rfl, rfl, ?_⟩
  show w_is_below _ [_, _]
  unfold w_is_below
  rcases hx with rfl | ⟨i, rfl⟩ | rfl | rfl
  · walk_at "rt"
    refine ⟨by decide, ?_⟩
    refine ifn (by decide) ?_
    first | exact h | exact ⟨rfl, h⟩
  · walk_at "rt"
    refine ⟨by decide, ?_⟩
    refine ifp (by decide) ?_
    refine ⟨by decide, ?_⟩
    refine ifp (by decide) ?_
    have h : Q (.d (.bl (decide (0 ≤ i) && decide (i < (m : Int))))) := h
    by_cases c : 0 ≤ i
    · refine ifp (by simpa using c) ?_
      have e : (decide (0 ≤ i) && decide (i < (m : Int))) = decide (i < (m : Int)) := by simp [c]
      rw [e] at h
      first | exact h | exact ⟨rfl, h⟩
    · refine ifn (by simpa using c) ?_
      have e : (decide (0 ≤ i) && decide (i < (m : Int))) = false := by simp [c]
      rw [e] at h
      first | exact h | exact ⟨rfl, h⟩
  · walk_at "rt"
    refine ⟨by decide, ?_⟩
    refine ifp (by decide) ?_
    refine ⟨by decide, ?_⟩
    refine ifn (by decide) ?_
    first | exact h | exact ⟨rfl, h⟩
  · walk_at "rt"
    refine ⟨by decide, ?_⟩
    refine ifn (by decide) ?_
    first | exact h | exact ⟨rfl, h⟩
/-! ### scenes: who owns what, an order or none -/
theorem oL_flat (l : List (Option Nat)) : (l.map oD).all RT.D.flat = true := by
  rw [List.all_eq_true]; intro x hx; obtain ⟨y, _, e⟩ := List.mem_map.mp hx; rw [← e]; cases y <;> rfl
theorem oL_mem (t : Nat) : ∀ l : List (Option Nat), D.mem (.int (t : Int)) (l.map oD) = decide (some t ∈ l)
  | [] => rfl
  | x :: l => by
    have ih := oL_mem t l
    unfold D.mem inV at ih ⊢
    simp only [List.map_cons, List.any_cons, D.toV] at ih ⊢
    rw [ih]
    cases x with
    | none => simp [oD, D.toV, eqV]
    | some k =>
      by_cases h : t = k
      · subst h; simp [oD, D.toV, eqV]
      · have h2 : ¬ (t : Int) = (k : Int) := by omega
        have h3 : ¬ (k : Int) = (t : Int) := by omega
        simp [oD, D.toV, eqV, h, h2, h3]
theorem own_snoc (ow : List (Option Nat)) (x : Option Nat) (h : Nat) : own (ow ++ [x]) h = if h = ow.length then x else own ow h := by
  unfold own
  by_cases c : h = ow.length
  · subst c; simp
  · rw [if_neg c]
    by_cases d : h < ow.length
    · rw [List.getElem?_append_left d]
    · rw [List.getElem?_eq_none (by simp; omega), List.getElem?_eq_none (by omega)]
theorem own_some {ow : List (Option Nat)} {h t : Nat} (e : own ow h = some t) : some t ∈ ow := by
  unfold own at e
  cases z : ow[h]? with
  | none => rw [z] at e; cases e
  | some x => rw [z] at e; have e : x = some t := e; subst e; exact List.mem_of_getElem? z
/-- owns of a scene -/
structure Own1 (ow : List (Option Nat)) (n m : Nat) : Prop where
  len : ow.length = n
  one : Owns ow
  lt : ∀ h t, own ow h = some t → t < m
theorem Own1.snocN {ow : List (Option Nat)} {i m : Nat} (O : Own1 ow i m) : Own1 (ow ++ [none]) (i + 1) m where
  len := by rw [List.length_append, O.len]; rfl
  one := fun h k t h1 h2 => by
    rw [own_snoc] at h1 h2
    split at h1
    · cases h1
    · split at h2
      · cases h2
      · exact O.one h k t h1 h2
  lt := fun h t h1 => by
    rw [own_snoc] at h1
    split at h1
    · cases h1
    · exact O.lt h t h1
theorem Own1.snocS {ow : List (Option Nat)} {i m t : Nat} (O : Own1 ow i m) (ht : t < m) (hn : some t ∉ ow) : Own1 (ow ++ [some t]) (i + 1) m where
  len := by rw [List.length_append, O.len]; rfl
  one := fun h k u h1 h2 => by
    rw [own_snoc] at h1 h2
    split at h1
    · rename_i e1
      cases h1
      split at h2
      · rename_i e2
        rw [e1, e2]
      · exact absurd (own_some h2) hn
    · split at h2
      · cases h2
        exact absurd (own_some h1) hn
      · exact O.one h k u h1 h2
  lt := fun h u h1 => by
    rw [own_snoc] at h1
    split at h1
    · cases h1; exact ht
    · exact O.lt h u h1
theorem l_owns {n m : Nat} {De : EndW} (hn : n ≤ 100) (hm : m ≤ 1000) : ∀ (j i c : Nat) (ow : List (Option Nat)) (h t : Option M), i + j = n → Own1 ow i m → c < 10 ^ 60 →
    (∀ ow a b c, Own1 ow n m → De.nx [a, some (.d (nD n)), some (.d (nD m)), some (.fl .o (ow.map oD)), b, c]) → wLoop (gNm 4) b__law_owns_3 De (nL (List.range' i j)) [some (.d (nD c)), some (.d (nD n)), some (.d (nD m)), some (.fl .o (ow.map oD)), h, t]
  | 0, i, c, ow, h, t, e, O, hc, hk => by
    have e : i = n := by omega
    subst e
    exact loop_n (hk _ _ _ _ O)
  | j + 1, i, c, ow, h, t, e, O, hc, hk => by
    rw [List.range'_succ, nL_cons]
    refine loop_c fun nx hnx => ?_
    walk_at "rt"
    unfold b__law_owns_3
    walk_at "gs"
    refine ⟨by omega, ?_⟩
    have hb : c % (m + 1) < m + 1 := Nat.mod_lt _ (by omega)
    have hd : c / (m + 1) < 10 ^ 60 := Nat.lt_of_le_of_lt (Nat.div_le_self _ _) hc
    generalize c % (m + 1) = u at hb
    unfold k__law_owns_2
    walk_at "gs"
    refine ⟨⟨by omega, ?_⟩, ?_⟩
    · have : (((m + 1 : Nat) : Int)).natAbs = m + 1 := by omega
      first | (rw [this]; exact Nat.lt_of_le_of_lt (Nat.log2_le_self _) (by omega)) | (exact Nat.lt_of_le_of_lt (Nat.log2_le_self _) (by omega))
    unfold k__law_owns_1
    walk_at "gs"
    refine ⟨rfl, rfl, ?_⟩
    have app : ∀ x : Option Nat, ow.map oD ++ [oD x] = (ow ++ [x]).map oD := fun x => by rw [List.map_append]; rfl
    have on : RT.D.non = oD none := rfl
    have os : RT.D.int (u : Int) = oD (some u) := rfl
    by_cases c1 : u = m
    · refine ifp (by rw [eqb_int]; simp [c1]) ?_
      refine ⟨by rw [O.len]; omega, ?_⟩
      rw [on, app]
      exact hnx _ (l_owns hn hm j (i + 1) _ _ _ _ (by omega) O.snocN hd hk)
    · refine ifn (by rw [eqb_int]; simp; omega) ?_
      refine ⟨rfl, oL_flat _, ?_⟩
      rw [oL_mem]
      by_cases c2 : some u ∈ ow
      · refine ifp (by simpa using c2) ?_
        refine ⟨by rw [O.len]; omega, ?_⟩
        rw [on, app]
        exact hnx _ (l_owns hn hm j (i + 1) _ _ _ _ (by omega) O.snocN hd hk)
      · refine ifn (by simpa using c2) ?_
        refine ⟨by rw [O.len]; omega, ?_⟩
        rw [os, app]
        exact hnx _ (l_owns hn hm j (i + 1) _ _ _ _ (by omega) (O.snocS (by omega) c2) hd hk)
theorem own_nil (m : Nat) : Own1 [] 0 m := ⟨rfl, fun h k t e _ => (by cases e), fun h t e => (by cases e)⟩
theorem x__law_owns {c n m : Nat} {Q : M → Prop} {E : XP} (hn : n ≤ 100) (hm : m ≤ 1000) (hc : c < 10 ^ 60) (h : ∀ ow, Own1 ow n m → Q (.d (owD ow))) : T__law_owns [.d (nD c), .d (nD n), .d (nD m)] Q E := by
  refine ⟨rfl, rfl, ?_⟩
  show w__law_owns _ [_, _, _, _, _, _]
  unfold w__law_owns
  walk_at "gs"
  refine ⟨by decide, ?_⟩
  unfold k__law_owns_5
  walk_at "gs"
  refine ⟨by omega, by omega, ?_⟩
  rw [List.range_eq_range']
  refine l_owns hn hm n 0 c [] _ _ (by omega) (own_nil m) hc fun ow a b c O => ?_
  unfold k__law_owns_4
  walk_at "gs"
  exact h ow O
theorem cmp_pairs {α : Type} {i j : Nat} {te : TW} {ρ : Sg} {f1 f2 f : α → RT.D} : ∀ {l : List α} {Q : List RT.D → Prop}, (∀ x ∈ l, ∀ P : M → Prop, (∀ m, m.frz = some (f x) → P m) → te ((ρ.set i (some (.d (f1 x)))).set j (some (.d (f2 x)))) P (fun _ => False)) → Q (l.map f) →
    wCmp (gTpD 2 (gConsD (gNm i) (gConsD (gNm j) gNilD))) tYesW te ρ (l.map fun x => RT.D.tup [f1 x, f2 x]) Q
  | [], Q, _, q => q
  | x :: l, Q, h, q => by
    rw [List.map_cons]
    unfold wCmp
    simp only [gTpD, gConsD, gNilD, gNm, tYesW, if_true, List.length_cons, List.length_nil]
    refine ⟨trivial, h x List.mem_cons_self _ fun m hm => ⟨f x, hm, ?_⟩⟩
    exact cmp_pairs (fun y hy => h y (List.mem_cons_of_mem _ hy)) q
/-! ### texts of rows -/
def LETS : Str := "ABCDEFGH"
def wordT (o : Option Nat) (t : Nat) : Str := if o = some t then ⟨#[65 + t, 42]⟩ else ⟨#[65 + t]⟩
def rowT (r : List Nat) (o : Option Nat) : Str := Txt.join " " (r.map (wordT o))
def rowsT (W : List (List Nat)) (ow : List (Option Nat)) : Str := Txt.join "; " (W.zipWith rowT ow)
theorem let_at {t : Nat} (h : t < 8) : atI (("ABCDEFGH" : Str)).cps.toList (t : Int) = some (65 + t) := by
  have : t = 0 ∨ t = 1 ∨ t = 2 ∨ t = 3 ∨ t = 4 ∨ t = 5 ∨ t = 6 ∨ t = 7 := by omega
  rcases this with rfl | rfl | rfl | rfl | rfl | rfl | rfl | rfl <;> rfl
theorem let_star (c : Nat) : (⟨#[c]⟩ : Str) ++ ("*" : Str) = ⟨#[c, 42]⟩ := TL.ext_tl (by rw [TL.tl_append]; rfl)
theorem word_len (o : Option Nat) (t : Nat) : (wordT o t).length ≤ 2 := by
  unfold wordT
  split
  · exact Nat.le_refl _
  · exact (by decide : 1 ≤ 2)
theorem sum_len {k : Nat} : ∀ {l : List Str}, (∀ y ∈ l, y.length ≤ k) → (l.map (·.length)).sum ≤ l.length * k
  | [], _ => Nat.zero_le _
  | x :: l, h => by
    have h1 := h x List.mem_cons_self
    have h2 := sum_len (l := l) fun y hy => h y (List.mem_cons_of_mem _ hy)
    rw [List.map_cons, List.sum_cons, List.length_cons, Nat.add_mul, Nat.one_mul]
    show x.length + _ ≤ _
    omega
theorem joinL_len (S : List Nat) : ∀ ps : List (List Nat), (TL.joinL S ps).length ≤ (ps.map List.length).sum + ps.length * S.length
  | [] => Nat.zero_le _
  | [p] => by show p.length ≤ (p.length + 0) + 1 * S.length; omega
  | p :: q :: r => by
    have ih := joinL_len S (q :: r)
    have e : TL.joinL S (p :: q :: r) = p ++ (S ++ TL.joinL S (q :: r)) := rfl
    rw [e, List.length_append, List.length_append, List.map_cons, List.sum_cons, List.length_cons, Nat.add_mul, Nat.one_mul]
    omega
theorem join_len (y : Str) (ps : List Str) : (Txt.join y ps).length ≤ (ps.map (·.length)).sum + ps.length * y.length := by
  rw [TL.join_eq, TL.len_tl, TL.tl_join]
  have h := joinL_len (TL.tl y) (ps.map TL.tl)
  rw [List.map_map, List.length_map] at h
  have e1 : ps.map (List.length ∘ TL.tl) = ps.map (·.length) := List.map_congr_left fun x _ => (TL.len_tl x).symm
  rw [e1, ← TL.len_tl] at h
  exact h
theorem joinL_mem (S : List Nat) {c : Nat} : ∀ {ps : List (List Nat)}, c ∈ TL.joinL S ps → c ∈ S ∨ ∃ p ∈ ps, c ∈ p
  | [], h => nomatch h
  | [p], h => .inr ⟨p, List.mem_cons_self, h⟩
  | p :: q :: r, h => by
    have e : TL.joinL S (p :: q :: r) = p ++ (S ++ TL.joinL S (q :: r)) := rfl
    rw [e] at h
    rcases List.mem_append.mp h with h | h
    · exact .inr ⟨p, List.mem_cons_self, h⟩
    · rcases List.mem_append.mp h with h | h
      · exact .inl h
      · rcases joinL_mem S h with h | ⟨x, hx, h⟩
        · exact .inl h
        · exact .inr ⟨x, List.mem_cons_of_mem _ hx, h⟩
theorem join_mem {y : Str} {c : Nat} {ps : List Str} (h : c ∈ TL.tl (Txt.join y ps)) : c ∈ TL.tl y ∨ ∃ p ∈ ps, c ∈ TL.tl p := by
  rw [TL.join_eq, TL.tl_join] at h
  rcases joinL_mem _ h with h | ⟨p, hp, h⟩
  · exact .inl h
  · obtain ⟨x, hx, e⟩ := List.mem_map.mp hp
    subst e
    exact .inr ⟨x, hx, h⟩
theorem word_mem {o : Option Nat} {t c : Nat} (h : c ∈ TL.tl (wordT o t)) : c = 42 ∨ c = 65 + t := by
  unfold wordT at h
  split at h
  · have : c = 65 + t ∨ c = 42 := by simpa [TL.tl] using h
    exact this.symm
  · have : c = 65 + t := by simpa [TL.tl] using h
    exact .inr this
theorem row_mem {r : List Nat} {o : Option Nat} {c : Nat} (h : c ∈ TL.tl (rowT r o)) : c = 32 ∨ c = 42 ∨ 65 ≤ c := by
  rcases join_mem h with h | ⟨p, hp, h⟩
  · have : c = 32 := by simpa [show TL.tl (" " : Str) = [32] from rfl] using h
    exact .inl this
  · obtain ⟨t, _, e⟩ := List.mem_map.mp hp
    subst e
    rcases word_mem h with h | h
    · exact .inr (.inl h)
    · exact .inr (.inr (by omega))
theorem rowT_len {r : List Nat} {o : Option Nat} : (rowT r o).length ≤ r.length * 3 := by
  have h := join_len " " (r.map (wordT o))
  have h2 := sum_len (k := 2) (l := r.map (wordT o)) fun y hy => by
    obtain ⟨t, _, e⟩ := List.mem_map.mp hy
    rw [← e]; exact word_len o t
  rw [List.length_map] at h h2
  have e1 : ((" " : Str)).length = 1 := rfl
  rw [e1] at h
  unfold rowT
  omega
theorem row_words {r : List Nat} {o : Option Nat} (h : r ≠ []) : Txt.split (rowT r o) " " = r.map (wordT o) := by
  refine TL.split_join (s := 32) (S := []) rfl (by decide +kernel) (fun z => h (List.map_eq_nil_iff.mp z)) fun p hp z => ?_
  obtain ⟨t, _, e⟩ := List.mem_map.mp hp
  subst e
  rcases word_mem z with h | h <;> omega
theorem rows_parts {W : List (List Nat)} {ow : List (Option Nat)} (h : W.zipWith rowT ow ≠ []) : Txt.split (rowsT W ow) "; " = W.zipWith rowT ow := by
  refine TL.split_join (s := 59) (S := [32]) rfl (by decide +kernel) h fun p hp z => ?_
  rw [← List.map_uncurry_zip_eq_zipWith] at hp
  obtain ⟨t, _, e⟩ := List.mem_map.mp hp
  subst e
  have := row_mem z
  omega
theorem rows_bound {W : List (List Nat)} {ow : List (Option Nat)} {n m : Nat} (R : Rows W n m) (hn : n ≤ 10) (hm : m ≤ 10) : ((W.zipWith rowT ow).map (·.length)).sum + (W.zipWith rowT ow).length * ("; " : Str).length ≤ 320 := by
  have hl : (W.zipWith rowT ow).length ≤ n := by rw [List.length_zipWith, R.len]; exact Nat.min_le_left _ _
  have h := sum_len (k := 30) (l := W.zipWith rowT ow) fun y hy => by
    rw [← List.map_uncurry_zip_eq_zipWith] at hy
    obtain ⟨p, hp, e⟩ := List.mem_map.mp hy
    subst e
    have h1 := rowT_len (r := p.1) (o := p.2)
    obtain ⟨i, hi⟩ := List.mem_iff_getElem?.mp (List.of_mem_zip hp).1
    have hin : i < n := by rw [← R.len]; exact (List.getElem?_eq_some_iff.mp hi).1
    obtain ⟨r, e1, e2⟩ := R.get hin
    rw [hi] at e1
    have e3 : p.1.length = m := by rw [Option.some.inj e1, e2.length_eq, List.length_range]
    show (rowT p.1 p.2).length ≤ 30
    omega
  have e2 : (("; " : Str)).length = 2 := rfl
  rw [e2]
  have : (W.zipWith rowT ow).length * 30 ≤ 10 * 30 := Nat.mul_le_mul_right _ (by omega)
  omega
theorem cutS_1 (a b : Nat) : cutS ⟨#[a, b]⟩ (some 1) none = ⟨#[b]⟩ := rfl
theorem cutS_0 (a : Nat) : cutS ⟨#[a]⟩ (some 1) none = ⟨#[]⟩ := rfl
theorem cutS_h (a b : Nat) : cutS ⟨#[a, b]⟩ none (some 1) = ⟨#[a]⟩ := rfl
theorem eqb_str (a b : Str) : D.eqb (.str a) (.str b) = decide (a = b) := by
  by_cases h : a = b
  · subst h; rw [decide_eq_true rfl]; exact (beq_self_eq_true a : (a == a) = true)
  · rw [decide_eq_false h]
    show (a == b) = false
    exact beq_eq_false_iff_ne.mpr h
theorem let_occ {t : Nat} (h : t < 8) : Builtin.Str.occurrences ("ABCDEFGH" : Str) ⟨#[65 + t]⟩ 0 ("ABCDEFGH" : Str).length 1 = [t] := by
  have : t = 0 ∨ t = 1 ∨ t = 2 ∨ t = 3 ∨ t = 4 ∨ t = 5 ∨ t = 6 ∨ t = 7 := by omega
  rcases this with rfl | rfl | rfl | rfl | rfl | rfl | rfl | rfl <;> decide +kernel
theorem let_in {t : Nat} (h : t < 8) : inT ⟨#[65 + t]⟩ ("ABCDEFGH" : Str) = true := by
  unfold inT; rw [let_occ h]; rfl
def TOk (x : Str) : Prop := ∀ c ∈ TL.tl x, c < 0x110000
theorem dp_str {x : Str} (h : TOk x) : (RT.D.str x).dp = 0 := by
  unfold RT.D.dp
  rw [if_pos]
  show x.cps.all (· < 0x110000) = true
  rw [Array.all_eq_true_iff_forall_mem]
  intro c hc
  rw [decide_eq_true_iff]
  exact h c (by simpa [TL.tl] using hc)
theorem ok_str {x : Str} (h : TOk x) : (RT.D.str x).ok := ok_dp (by rw [dp_str h]; decide)
theorem row_tok {r : List Nat} {o : Option Nat} (hr : ∀ t ∈ r, t < 8) : TOk (rowT r o) := fun c h => by
  rcases join_mem h with h | ⟨p, hp, h⟩
  · have : c = 32 := by simpa [show TL.tl (" " : Str) = [32] from rfl] using h
    omega
  · obtain ⟨t, ht, e⟩ := List.mem_map.mp hp
    subst e
    have := hr t ht
    rcases word_mem h with h | h <;> omega
theorem eqb_nO (o : Option Nat) (t : Nat) : D.eqb (nD t) (oD o) = decide (o = some t) := by
  cases o with
  | none => rfl
  | some x =>
    show D.eqb (nD t) (nD x) = _
    rw [eqb_int]
    by_cases h : x = t
    · subst h; simp
    · have : ¬ (t : Int) = x := by omega
      simp [h, this]
theorem zipD_rows : ∀ (W : List (List Nat)) (ow : List (Option Nat)), zipD (W.map fun r => RT.D.tup (nL r)) (ow.map oD) = (W.zip ow).map fun p => RT.D.tup [.tup (nL p.1), oD p.2]
  | [], _ => rfl
  | _ :: _, [] => rfl
  | r :: W, o :: ow => by
    have ih := zipD_rows W ow
    unfold zipD at ih ⊢
    rw [List.map_cons, List.map_cons, List.zipWith_cons_cons, ih, List.zip_cons_cons, List.map_cons]
theorem Rows.mem {W : List (List Nat)} {n m : Nat} (R : Rows W n m) {r : List Nat} (hr : r ∈ W) : r.Perm (List.range m) := by
  obtain ⟨i, hi⟩ := List.mem_iff_getElem?.mp hr
  have hin : i < n := by rw [← R.len]; exact (List.getElem?_eq_some_iff.mp hi).1
  obtain ⟨r', e1, e2⟩ := R.get hin
  rw [hi] at e1
  rw [Option.some.inj e1]; exact e2
/-! ### the law's text of rows -/
theorem zip_rows_len {W : List (List Nat)} {ow : List (Option Nat)} {n m : Nat} (R : Rows W n m) (O : Own1 ow n m) : (W.zipWith rowT ow).length = n := by
  rw [List.length_zipWith, R.len, O.len, Nat.min_self]
def readE (p : List Nat × Option Nat) : Str := rowT p.1 p.2
theorem l_law_text {o : Option Nat} {a0 a1 a2 a3 : Option M} {De : EndW} : ∀ (r pre : List Nat) (a6 : Option M), (∀ t ∈ r, t < 8) → pre.length + r.length ≤ 100 → (∀ a6, De.nx [a0, a1, a2, a3, some (.d (oD o)), some (.fl .o (((pre ++ r).map (wordT o)).map RT.D.str)), a6]) →
    wLoop (gNm 6) b__law_text_1 De (nL r) [a0, a1, a2, a3, some (.d (oD o)), some (.fl .o ((pre.map (wordT o)).map RT.D.str)), a6]
  | [], pre, a6, _, _, h => by
    have h := h a6
    rw [List.append_nil] at h
    exact loop_n h
  | t :: r, pre, a6, ht, hl, h => by
    have t8 := ht t List.mem_cons_self
    rw [List.length_cons] at hl
    rw [nL_cons]
    refine loop_c fun nx hnx => ?_
    have ih := fun a6 => l_law_text (De := De) (a0 := a0) (a1 := a1) (a2 := a2) (a3 := a3) (o := o) r (pre ++ [t]) a6 (fun x hx => ht x (List.mem_cons_of_mem _ hx)) (by rw [List.length_append, List.length_singleton]; omega) (by rw [List.append_assoc]; exact h)
    walk_at "gs"
    unfold b__law_text_1
    walk_at "gs"
    refine ⟨by rw [sizeLine_eq]; decide, _, let_at t8, ?_⟩
    refine ⟨rfl, ok_oD o, ?_⟩
    rw [eqb_nO]
    have app : ((pre.map (wordT o)).map RT.D.str) ++ [RT.D.str (wordT o t)] = (((pre ++ [t]).map (wordT o)).map RT.D.str) := by rw [List.map_append, List.map_append]; rfl
    by_cases c : o = some t
    · rw [decide_eq_true c]
      have ew : (⟨#[65 + t]⟩ : Str) ++ repT ("*" : Str) ((if true = true then (1 : Int) else 0)).toNat = wordT o t := by
        unfold wordT; rw [if_pos c]; exact let_star _
      rw [ew, app]
      exact ⟨by decide, by decide, by decide, (by rw [sizeLine_eq]; exact (by decide : 1 + 1 ≤ 16777216)), by omega, hnx _ (ih _)⟩
    · rw [decide_eq_false c]
      have ew : (⟨#[65 + t]⟩ : Str) ++ repT ("*" : Str) ((if false = true then (1 : Int) else 0)).toNat = wordT o t := by
        unfold wordT; rw [if_neg c]; exact TL.ext_tl (by rw [TL.tl_append]; rfl)
      rw [ew, app]
      exact ⟨by decide, by decide, by decide, (by rw [sizeLine_eq]; exact (by decide : 1 + 0 ≤ 16777216)), by omega, hnx _ (ih _)⟩
theorem l_law_texts {m : Nat} {a0 a1 : Option M} {De : EndW} (hm : m ≤ 8) : ∀ (ps pre : List (List Nat × Option Nat)) (a3 a4 a5 a6 : Option M), (∀ p ∈ ps, p.1.Perm (List.range m)) → pre.length + ps.length ≤ 100 → (∀ a3 a4 a5 a6, De.nx [a0, a1, some (.fl .o (((pre ++ ps).map readE).map RT.D.str)), a3, a4, a5, a6]) →
    wLoop (gTpD 2 (gConsD (gNm 3) (gConsD (gNm 4) gNilD))) b__law_text_4 De (ps.map fun p => RT.D.tup [.tup (nL p.1), oD p.2]) [a0, a1, some (.fl .o ((pre.map readE).map RT.D.str)), a3, a4, a5, a6]
  | [], pre, a3, a4, a5, a6, _, _, h => by
    have h := h a3 a4 a5 a6
    rw [List.append_nil] at h
    exact loop_n h
  | p :: ps, pre, a3, a4, a5, a6, hp, hl, h => by
    have p1 := hp p List.mem_cons_self
    rw [List.length_cons] at hl
    rw [List.map_cons]
    refine loop_c fun nx hnx => ?_
    have ih := fun a3 a4 a5 a6 => l_law_texts (De := De) (a0 := a0) (a1 := a1) hm ps (pre ++ [p]) a3 a4 a5 a6 (fun x hx => hp x (List.mem_cons_of_mem _ hx)) (by rw [List.length_append, List.length_singleton]; omega) (by rw [List.append_assoc]; exact h)
    have app : ((pre.map readE).map RT.D.str) ++ [RT.D.str (readE p)] = (((pre ++ [p]).map readE).map RT.D.str) := by rw [List.map_append, List.map_append]; rfl
    have pl : p.1.length = m := by rw [p1.length_eq, List.length_range]
    walk_at "gs"
    unfold b__law_text_4
    walk_at "gs"
    refine ⟨by decide, ?_⟩
    unfold k__law_text_3
    walk_at "gs"
    refine l_law_text p.1 [] _ (fun t ht => ?_) (by rw [List.length_nil]; omega) fun a6 => ?_
    · have := List.mem_range.mp (p1.subset ht)
      omega
    rw [List.nil_append]
    unfold k__law_text_2
    walk_at "gs"
    refine ⟨_, rfl, _, strsD_map _, ?_, ?_⟩
    · have h2 := sum_len (k := 2) (l := p.1.map (wordT p.2)) fun y hy => by
        obtain ⟨t, _, e⟩ := List.mem_map.mp hy
        rw [← e]; exact word_len _ t
      have e1 : ((" " : Str)).length = 1 := rfl
      rw [List.length_map] at h2 ⊢
      rw [e1]
      omega
    walk_at "gs"
    refine ⟨by omega, ?_⟩
    have e1 : Txt.join (" " : Str) (p.1.map (wordT p.2)) = readE p := rfl
    rw [e1, app]
    exact hnx _ (ih _ _ _ _)
theorem x__law_text {W : List (List Nat)} {ow : List (Option Nat)} {n m : Nat} {Q : M → Prop} {E : XP} (R : Rows W n m) (O : Own1 ow n m) (hn : n ≤ 10) (hm : m ≤ 8) (h : Q (.d (.str (rowsT W ow)))) : T__law_text [.d (wD W), .d (owD ow)] Q E := by
  refine ⟨rfl, rfl, ?_⟩
  show w__law_text _ [_, _, _, _, _, _, _]
  have ez : W.zipWith rowT ow = (W.zip ow).map readE := (List.map_uncurry_zip_eq_zipWith ..).symm
  have zl2 : (W.zip ow).length = n := by rw [List.length_zip, R.len, O.len, Nat.min_self]
  unfold w__law_text wD owD
  walk_at "gs"
  refine ⟨by decide, ?_⟩
  unfold k__law_text_6
  walk_at "gs"
  rw [zipD_rows]
  refine l_law_texts (m := m) hm (W.zip ow) [] _ _ _ _ (fun p hp => R.mem (List.of_mem_zip hp).1) (by rw [List.length_nil]; omega) fun a3 a4 a5 a6 => ?_
  rw [List.nil_append]
  unfold k__law_text_5
  walk_at "gs"
  refine ⟨_, rfl, _, strsD_map _, ?_, ?_⟩
  · rw [← ez]; exact Nat.le_trans (rows_bound R hn (by omega)) (by decide)
  rw [← ez]
  exact ⟨rfl, h⟩
theorem rows_tok {W : List (List Nat)} {ow : List (Option Nat)} {n m : Nat} (R : Rows W n m) (hm : m ≤ 8) : TOk (rowsT W ow) := fun c h => by
  rcases join_mem h with h | ⟨p, hp, h⟩
  · have : c = 59 ∨ c = 32 := by simpa [show TL.tl ("; " : Str) = [59, 32] from rfl] using h
    omega
  · rw [← List.map_uncurry_zip_eq_zipWith] at hp
    obtain ⟨q, hq, e⟩ := List.mem_map.mp hp
    subst e
    refine row_tok (fun t ht => ?_) c h
    have := List.mem_range.mp ((R.mem (List.of_mem_zip hq).1).subset ht)
    omega
/-! ### texts cut into parts and words -/
theorem spl_mem {S : List Nat} : ∀ (l acc : List Nat) (k : Nat) (p : List Nat), p ∈ TL.spl S k acc l → p.length ≤ acc.length + l.length ∧ ∀ c ∈ p, c ∈ acc ∨ c ∈ l
  | [], acc, k, p, h => by
    rw [TL.spl_nil] at h
    rw [List.mem_singleton.mp h]
    exact ⟨by simp, fun c hc => .inl hc⟩
  | x :: l, acc, 0, p, h => by
    unfold TL.spl at h
    split at h
    · rcases List.mem_cons.mp h with e | h
      · rw [e]; exact ⟨Nat.le_add_right _ _, fun c hc => .inl hc⟩
      · obtain ⟨h1, h2⟩ := spl_mem l [] _ p h
        rw [List.length_nil] at h1
        refine ⟨by rw [List.length_cons]; omega, fun c hc => ?_⟩
        rcases h2 c hc with z | z
        · cases z
        · exact .inr (List.mem_cons_of_mem _ z)
    · obtain ⟨h1, h2⟩ := spl_mem l (acc ++ [x]) _ p h
      rw [List.length_append, List.length_singleton] at h1
      refine ⟨by rw [List.length_cons]; omega, fun c hc => ?_⟩
      rcases h2 c hc with z | z
      · rcases List.mem_append.mp z with z | z
        · exact .inl z
        · exact .inr (by rw [List.mem_singleton.mp z]; exact List.mem_cons_self)
      · exact .inr (List.mem_cons_of_mem _ z)
  | x :: l, acc, k + 1, p, h => by
    unfold TL.spl at h
    obtain ⟨h1, h2⟩ := spl_mem l acc k p h
    refine ⟨by rw [List.length_cons]; omega, fun c hc => ?_⟩
    rcases h2 c hc with z | z
    · exact .inl z
    · exact .inr (List.mem_cons_of_mem _ z)
/-- a short text of plain signs -/
def TA (x : Str) : Prop := x.length ≤ 1000 ∧ ∀ c ∈ TL.tl x, c < 256
theorem TA.tok {x : Str} (h : TA x) : TOk x := fun c hc => Nat.lt_trans (h.2 c hc) (by decide)
theorem TA.part {x y : Str} (h : TA x) (hy : TL.tl y ≠ []) (hk : y.cps.all (· < 256) = true) {p : Str} (hp : p ∈ Txt.split x y) : TA p := by
  have e := TL.split_spl x y hy (TL.kind_ok hk)
  have hm : TL.tl p ∈ TL.spl (TL.tl y) 0 [] (TL.tl x) := by rw [← e]; exact List.mem_map.mpr ⟨p, hp, rfl⟩
  obtain ⟨h1, h2⟩ := spl_mem _ _ _ _ hm
  have l1 := TL.len_tl p
  have l2 := TL.len_tl x
  rw [List.length_nil] at h1
  refine ⟨by have := h.1; omega, fun c hc => ?_⟩
  rcases h2 c hc with z | z
  · cases z
  · exact h.2 c z
theorem split_few {x y : Str} (h : TA x) : (Txt.split x y).length ≤ 1002 := by
  have := PyProof.Rows.split_le x y
  have := h.1
  omega
def wordP (w : Str) : Option (Nat × Bool) := match TL.tl w with
  | [c] => if 65 ≤ c ∧ c ≤ 72 then some (c - 65, false) else none
  | [c, d] => if d = 42 ∧ 65 ≤ c ∧ c ≤ 72 then some (c - 65, true) else none
  | _ => none
def wordsP : List Str → Option (List (Nat × Bool))
  | [] => some []
  | w :: ws => match wordP w with
    | none => none
    | some p => (wordsP ws).map (p :: ·)
def ownsP (l : List (Nat × Bool)) : List Nat := (l.filter (·.2)).map (·.1)
def partR (p : Str) : Option (List Nat × List Nat) := match wordsP (Txt.split p " ") with
  | none => none
  | some l => if 1 < (ownsP l).length then none else some (l.map (·.1), ownsP l)
theorem ownsP_snoc (l : List (Nat × Bool)) (p : Nat × Bool) : ownsP (l ++ [p]) = if p.2 = true then ownsP l ++ [p.1] else ownsP l := by
  unfold ownsP
  rw [List.filter_append, List.map_append]
  by_cases c : p.2 = true
  · rw [if_pos c, List.filter_cons_of_pos c]; rfl
  · rw [if_neg c, List.filter_cons_of_neg c, List.filter_nil, List.map_nil, List.append_nil]
theorem ownsP_le (l : List (Nat × Bool)) : (ownsP l).length ≤ l.length := by
  unfold ownsP; rw [List.length_map]; exact List.length_filter_le _ _
theorem let_nat (c : Nat) : inT ⟨#[c]⟩ ("ABCDEFGH" : Str) = decide (65 ≤ c ∧ c ≤ 72) := by
  rw [inT_sign]
  refine decide_eq_decide.mpr ?_
  show c ∈ [65, 66, 67, 68, 69, 70, 71, 72] ↔ _
  simp only [List.mem_cons, List.not_mem_nil, or_false]
  omega
theorem let_occ2 {c : Nat} (h : 65 ≤ c ∧ c ≤ 72) : Builtin.Str.occurrences ("ABCDEFGH" : Str) ⟨#[c]⟩ 0 ("ABCDEFGH" : Str).length 1 = [c - 65] := by
  have e : c = 65 + (c - 65) := by omega
  conv => lhs; rw [e]
  exact let_occ (by omega)
theorem str_eq {w : Str} {l : List Nat} (h : TL.tl w = l) : w = ⟨l.toArray⟩ := TL.ext_tl h
theorem at_end (pre : List Nat) (t : Nat) : atI (nL (pre ++ [t])) (-1) = some (nD t) := by
  unfold atI ixN
  rw [if_neg (by decide), if_pos (by rw [nL_length, List.length_append, List.length_singleton]; omega)]
  have e : ((-1 : Int) + ((nL (pre ++ [t])).length : Int)).toNat = pre.length := by rw [nL_length, List.length_append, List.length_singleton]; omega
  rw [e]
  show (nL (pre ++ [t]))[pre.length]? = _
  unfold nL
  rw [List.map_append, List.getElem?_append_right (by rw [List.length_map]; exact Nat.le_refl _), List.length_map, Nat.sub_self]; rfl
/-! ### rows that are rows -/
def isRowL (m : Nat) : List Int → List RT.D → Bool
  | _, [] => true
  | met, .int i :: xs => if (0 ≤ i ∧ i < m) ∧ i ∉ met then isRowL m (met ++ [i]) xs else false
  | _, _ :: _ => false
theorem isRowL_int {m : Nat} {i : Int} {met : List Int} {xs : List RT.D} : isRowL m met (.int i :: xs) = if (0 ≤ i ∧ i < m) ∧ i ∉ met then isRowL m (met ++ [i]) xs else false := by conv => lhs; unfold isRowL
theorem isRowL_bl {m : Nat} {b : Bool} {met : List Int} {xs : List RT.D} : isRowL m met (.bl b :: xs) = false := by unfold isRowL; rfl
theorem isRowL_non {m : Nat} {met : List Int} {xs : List RT.D} : isRowL m met (.non :: xs) = false := by unfold isRowL; rfl
theorem isRowL_str {m : Nat} {s : Str} {met : List Int} {xs : List RT.D} : isRowL m met (.str s :: xs) = false := by unfold isRowL; rfl
def rowB (m : Nat) (r : List RT.D) : Bool := decide (r.length = m) && isRowL m [] r
theorem int_app (met : List Int) (i : Int) : met.map RT.D.int ++ [RT.D.int i] = (met ++ [i]).map RT.D.int := by rw [List.map_append]; rfl
def sqD (b : Bool) (r : List RT.D) : RT.D := if b = true then .tup r else .lst r
theorem l_isrow {m : Nat} {x0 : M} {De : EndW} : ∀ (l : List RT.D) (met : List Int) (a : Option M), (∀ x ∈ l, It x) → met.length + l.length ≤ 5000 →
    (isRowL m met l = true → ∀ r2 r3, De.nx [some x0, some (.d (nD m)), r2, r3]) → (isRowL m met l = false → De.rt (.d (.bl false))) →
    wLoop (gNm 3) b_is_row_2 De l [some x0, some (.d (nD m)), some (.fl .o (met.map .int)), a]
  | [], met, a, _, _, h1, h2 => loop_n (h1 rfl _ _)
  | x :: xs, met, a, hx, hl, h1, h2 => by
    have h0 : It x := hx x List.mem_cons_self
    have hxs : ∀ y ∈ xs, It y := fun y hy => hx y (List.mem_cons_of_mem _ hy)
    rw [List.length_cons] at hl
    refine loop_c fun nx hnx => ?_
    walk_at "rt"
    unfold b_is_row_2
    walk_at "rt"
    refine x_is_below h0 ?_
    walk_at "rt"
    rcases h0 with rfl | ⟨i, rfl⟩ | rfl | rfl
    · refine ifp (by rfl) ?_
      exact h2 isRowL_non
    · rw [isRowL_int] at h1 h2
      by_cases c1 : 0 ≤ i ∧ i < (m : Int)
      · have e : belowB m (.int i) = true := by show (decide (0 ≤ i) && decide (i < (m : Int))) = true; simp [c1.1, c1.2]
        rw [e]
        refine ifn (by decide) ⟨rfl, iL_flat _, ?_⟩
        rw [iL_mem]
        by_cases c2 : i ∈ met
        · refine ifp (by simpa using c2) ?_
          exact h2 (by rw [if_neg (fun z => z.2 c2)])
        · refine ifn (by simpa using c2) ?_
          rw [if_pos ⟨c1, c2⟩] at h1 h2
          unfold k_is_row_1
          walk_at "rt"
          refine ⟨by first | omega | (rw [List.length_map]; omega), ?_⟩
          rw [int_app]
          exact hnx _ (l_isrow xs (met ++ [i]) _ hxs (by rw [List.length_append, List.length_singleton]; omega) h1 h2)
      · have e : belowB m (.int i) = false := by
          show (decide (0 ≤ i) && decide (i < (m : Int))) = false
          rw [← Bool.not_eq_true, Bool.and_eq_true, decide_eq_true_iff, decide_eq_true_iff]; exact c1
        rw [e]
        refine ifp (by decide) ?_
        exact h2 (by rw [if_neg (fun z => c1 z.1)])
    · refine ifp (by rfl) ?_
      exact h2 isRowL_bl
    · refine ifp (by rfl) ?_
      exact h2 isRowL_str
theorem x_is_row5a {m : Nat} {b : Bool} {l : List RT.D} {Q : M → Prop} {E : XP} (hx : ∀ x ∈ l, It x) (hz : l.length ≤ 5000) (h : Q (.d (.bl (rowB m l)))) : T_is_row [.d (sqD b l), .d (nD m)] Q E := by
  have fin : ∀ x0 : M, (isRowL m [] l = true → Q (.d (.bl true))) → (isRowL m [] l = false → Q (.d (.bl false))) → wLoop (gNm 3) b_is_row_2 { nx := k_is_row_3 { nx := fun _ => Q (.d .non), rt := Q, ex := fun _ => E }, rt := Q, ex := fun _ => E } l [some x0, some (.d (nD m)), some (.fl .o []), none] := fun x0 h1 h2 => by
    refine l_isrow (De := { nx := k_is_row_3 { nx := fun _ => Q (.d .non), rt := Q, ex := fun _ => E }, rt := Q, ex := fun _ => E }) l [] none hx (by simpa using hz) (fun e r2 r3 => ?_) h2
    unfold k_is_row_3
    walk_at "rt"
    exact h1 e
  unfold rowB at h
  cases b with
  | true =>
    refine ⟨rfl, rfl, ?_⟩
    show w_is_row _ [_, _, _, _]
    unfold w_is_row sqD
    walk_at "rt"
    refine ⟨rfl, rfl, ?_⟩
    rw [eqb_int]
    by_cases c : l.length = m
    · refine ifn (by simp [c]) ?_
      unfold k_is_row_5
      walk_at "rt"
      refine ⟨by decide, ?_⟩
      unfold k_is_row_4
      walk_at "rt"
      rw [decide_eq_true c, Bool.true_and] at h
      exact fin _ (fun e => by rw [e] at h; exact h) (fun e => by rw [e] at h; exact h)
    · refine ifp (by rw [Bool.not_eq_true', decide_eq_false_iff_not]; omega) ?_
      rw [decide_eq_false c, Bool.false_and] at h
      exact h
  | false =>
    refine ⟨rfl, rfl, ?_⟩
    show w_is_row _ [_, _, _, _]
    unfold w_is_row sqD
    walk_at "rt"
    refine ⟨rfl, rfl, ?_⟩
    rw [eqb_int]
    by_cases c : l.length = m
    · refine ifn (by simp [c]) ?_
      unfold k_is_row_5
      walk_at "rt"
      refine ⟨by decide, ?_⟩
      unfold k_is_row_4
      walk_at "rt"
      rw [decide_eq_true c, Bool.true_and] at h
      exact fin _ (fun e => by rw [e] at h; exact h) (fun e => by rw [e] at h; exact h)
    · refine ifp (by rw [Bool.not_eq_true', decide_eq_false_iff_not]; omega) ?_
      rw [decide_eq_false c, Bool.false_and] at h
      exact h
theorem x_is_row5 {m : Nat} {l : List RT.D} {Q : M → Prop} {E : XP} (hx : ∀ x ∈ l, It x) (hz : l.length ≤ 2000) (h : Q (.d (.bl (rowB m l)))) : T_is_row [.d (.lst l), .d (nD m)] Q E := x_is_row5a (b := false) hx (by omega) h
/-! ### a part is read -/
theorem cutS_d (w : Str) : cutS w (some 1) none = ⟨((TL.tl w).drop 1).toArray⟩ := by
  unfold cutS
  have e1 : HT.sIx w.length 0 (some 1) = min 1 w.length := HT.sIx_nat _ _ 1
  rw [e1, HT.sIx_none]
  have hl := TL.len_tl w
  have : ((w.cps.toList.drop (min 1 w.length)).take (w.length - min 1 w.length)) = (TL.tl w).drop 1 := by
    show ((TL.tl w).drop (min 1 w.length)).take _ = _
    by_cases c : 1 ≤ w.length
    · rw [Nat.min_eq_left c]
      exact List.take_of_length_le (by rw [List.length_drop]; omega)
    · have : TL.tl w = [] := List.length_eq_zero_iff.mp (by omega)
      rw [this]; simp
  rw [this]
theorem cutS_t (w : Str) : cutS w none (some 1) = ⟨((TL.tl w).take 1).toArray⟩ := by
  unfold cutS
  have e1 : HT.sIx w.length w.length (some 1) = min 1 w.length := HT.sIx_nat _ _ 1
  rw [e1, HT.sIx_none, List.drop_zero]
  have hl := TL.len_tl w
  have : (w.cps.toList.take (min 1 w.length - 0)) = (TL.tl w).take 1 := by
    show (TL.tl w).take _ = _
    by_cases c : 1 ≤ w.length
    · rw [Nat.min_eq_left c]
    · have : TL.tl w = [] := List.length_eq_zero_iff.mp (by omega)
      rw [this]; simp
  rw [this]
theorem l_row_read {k : Nat} {a0 : Option M} {De : EndW} : ∀ (ws : List Str) (pre : List (Nat × Bool)) (a4 a5 : Option M), (∀ w ∈ ws, TA w) → pre.length + ws.length ≤ 2000 →
    (∀ l, wordsP ws = some l → ∀ a4 a5, De.nx [a0, some (.d (nD k)), some (.fl .o (nL ((pre ++ l).map (·.1)))), some (.fl .o (nL (ownsP (pre ++ l)))), a4, a5]) →
    (wordsP ws = none → ∀ r1 r2 r3 r4, De.ex [a0, some (.d (nD k)), r1, r2, r3, r4] ⟨"NoText", [("at", nD k)]⟩) →
    wLoop (gNm 4) b_row_read_6 De (ws.map RT.D.str) [a0, some (.d (nD k)), some (.fl .o (nL (pre.map (·.1)))), some (.fl .o (nL (ownsP pre))), a4, a5]
  | [], pre, a4, a5, _, _, h, _ => by
    have h := h [] rfl a4 a5
    rw [List.append_nil] at h
    exact loop_n h
  | w :: ws, pre, a4, a5, hw, hl, h, hE => by
    have ta := hw w List.mem_cons_self
    have ok1 := ok_str ta.tok
    rw [List.length_cons] at hl
    rw [List.map_cons]
    refine loop_c fun nx hnx => ?_
    have sz := sizeLine_eq
    have wl := ta.1
    have ol := ownsP_le pre
    unfold wordsP at h hE
    walk_at "gs"
    unfold b_row_read_6
    walk_at "gs"
    unfold k_row_read_5
    walk_at "gs"
    rw [cutS_d, cutS_t]
    have okd : TOk (⟨((TL.tl w).drop 1).toArray⟩ : Str) := fun c hc => ta.tok c (List.mem_of_mem_drop (show c ∈ (TL.tl w).drop 1 from hc))
    have okt : TOk (⟨((TL.tl w).take 1).toArray⟩ : Str) := fun c hc => ta.tok c (List.mem_of_mem_take (show c ∈ (TL.tl w).take 1 from hc))
    have star : TOk ("*" : Str) := fun c h => by
      have : c = 42 := by simpa [show TL.tl ("*" : Str) = [42] from rfl] using h
      omega
    have rest : ∀ (x : Str) (b : Bool), TOk x → x.length ≤ 1000 → decide (x = w) = !b → wordP w = (match TL.tl x with | [c] => if 65 ≤ c ∧ c ≤ 72 then some (c - 65, b) else none | _ => none) →
        k_row_read_4 { nx := nx, rt := De.rt, bk := De.nx, ct := nx, ex := De.ex } [a0, some (.d (nD k)), some (.fl .o (nL (pre.map (·.1)))), some (.fl .o (nL (ownsP pre))), some (.d (.str w)), some (.d (.str x))] := fun x b hx1 hx2 hb hP => by
      have no : wordP w = none → ∀ r1 r2 r3 r4, De.ex [a0, some (.d (nD k)), r1, r2, r3, r4] ⟨"NoText", [("at", nD k)]⟩ := fun e => hE (by rw [e])
      have len := TL.len_tl x
      unfold k_row_read_4
      walk_at "gs"
      refine ⟨x.length, if_pos (by omega), rfl, rfl, ?_⟩
      cases q : TL.tl x with
      | nil =>
        rw [q] at hP len
        refine ifp (by rw [len]; decide) ?_
        exact no hP _ _ _ _
      | cons c r =>
        cases r with
        | cons d r =>
          rw [q] at hP len
          refine ifp (by rw [len, List.length_cons, List.length_cons, Bool.not_eq_true', decide_eq_false_iff_not]; omega) ?_
          exact no hP _ _ _ _
        | nil =>
          rw [q] at hP len
          have hP : wordP w = if 65 ≤ c ∧ c ≤ 72 then some (c - 65, b) else none := hP
          have ex : x = ⟨#[c]⟩ := str_eq q
          refine ifn (by rw [len, List.length_singleton]; decide) ?_
          rw [ex, let_nat]
          by_cases cc : 65 ≤ c ∧ c ≤ 72
          · rw [if_pos cc] at hP
            refine ifn (by rw [decide_eq_true cc]; decide) ?_
            have ih := fun a4 a5 => l_row_read (k := k) (De := De) (a0 := a0) ws (pre ++ [(c - 65, b)]) a4 a5 (fun y hy => hw y (List.mem_cons_of_mem _ hy)) (by rw [List.length_append, List.length_singleton]; omega)
              (fun l e a4 a5 => by have := h ((c - 65, b) :: l) (by rw [hP]; show (wordsP ws).map _ = _; rw [e]; rfl) a4 a5; rw [List.append_assoc]; exact this) (fun e => hE (by rw [hP]; show (wordsP ws).map _ = _; rw [e]; rfl))
            rw [ownsP_snoc, List.map_append] at ih
            unfold k_row_read_3
            walk_at "gs"
            refine ⟨_, _, _, rfl, let_occ2 cc, ?_⟩
            refine ⟨_, rfl, by omega, ?_⟩
            have en : nL (pre.map (·.1)) ++ [RT.D.int ((c - 65 : Nat) : Int)] = nL (pre.map (·.1) ++ [c - 65]) := by unfold nL; rw [List.map_append]; rfl
            rw [en]
            unfold k_row_read_2
            walk_at "gs"
            rw [← ex]
            refine ⟨ok_str hx1, ok1, ?_⟩
            rw [eqb_str, hb]
            cases b with
            | true =>
              refine ifp (by decide) ?_
              refine ⟨_, at_end _ _, ?_⟩
              walk_at "gs"
              refine ⟨by omega, ?_⟩
              have eo : nL (ownsP pre) ++ [nD (c - 65)] = nL (ownsP pre ++ [c - 65]) := by unfold nL; rw [List.map_append]; rfl
              first | rw [eo] | (have eo' : nL (ownsP pre) ++ [RT.D.int ((c - 65 : Nat) : Int)] = nL (ownsP pre ++ [c - 65]) := eo; rw [eo'])
              exact hnx _ (ih _ _)
            | false =>
              refine ifn (by decide) ?_
              exact hnx _ (ih _ _)
          · rw [if_neg cc] at hP
            refine ifp (by rw [decide_eq_false cc]; decide) ?_
            exact no hP _ _ _ _
    refine ⟨by omega, ok_str okd, ok_str star, ?_⟩
    rw [eqb_str]
    by_cases cc : (TL.tl w).drop 1 = [42]
    · refine ifp (by rw [decide_eq_true_iff, cc]; rfl) ⟨by omega, ?_⟩
      obtain ⟨c, ew⟩ : ∃ c, TL.tl w = [c, 42] := by
        cases q : TL.tl w with
        | nil => rw [q] at cc; cases cc
        | cons c r =>
          rw [q] at cc
          exact ⟨c, by rw [show r = [42] from cc]⟩
      refine rest _ true okt ?_ ?_ ?_
      · have := TL.len_tl (⟨((TL.tl w).take 1).toArray⟩ : Str)
        rw [this, TL.tl_mk, ew]; show 1 ≤ 1000; decide
      · rw [ew]
        rw [decide_eq_false (fun z => by
          have := congrArg (fun x => (TL.tl x).length) z
          rw [ew] at this
          exact absurd this (by decide : ¬ (1 = 2)))]; rfl
      · rw [TL.tl_mk]
        unfold wordP
        rw [ew]
        show (if 42 = 42 ∧ 65 ≤ c ∧ c ≤ 72 then _ else _) = if 65 ≤ c ∧ c ≤ 72 then _ else _
        by_cases z : 65 ≤ c ∧ c ≤ 72
        · rw [if_pos ⟨rfl, z⟩, if_pos z]
        · rw [if_neg (fun y => z y.2), if_neg z]
    · refine ifn (by
        rw [decide_eq_true_iff]
        intro z
        have := congrArg TL.tl z
        rw [TL.tl_mk] at this
        exact cc this) ?_
      refine rest _ false ta.tok wl (by rw [decide_eq_true rfl]; rfl) ?_
      unfold wordP
      cases q : TL.tl w with
      | nil => rfl
      | cons c r =>
        cases r with
        | nil => rfl
        | cons d r =>
          cases r with
          | nil =>
            show (if d = 42 ∧ _ then _ else _) = none
            rw [if_neg]
            intro z
            rw [q] at cc
            exact cc (by rw [z.1]; rfl)
          | cons e r => rfl
theorem x_row_read {p : Str} {k : Nat} {Q : M → Prop} {E : XP} (ta : TA p) (h : ∀ r o, partR p = some (r, o) → Q (.d (.tup [.lst (nL r), oD o.head?]))) (hE : partR p = none → E ⟨"NoText", [("at", nD k)]⟩) : T_row_read [.d (.str p), .d (nD k)] Q E := by
  refine ⟨rfl, rfl, ?_⟩
  show w_row_read _ [_, _, _, _, _, _]
  have few := split_few (y := " ") ta
  have l1 := ta.1
  have hw : ∀ w ∈ Txt.split p " ", TA w := fun w hw => ta.part (y := " ") (by show ([32] : List Nat) ≠ []; decide) (by decide +kernel) hw
  unfold partR at h hE
  unfold w_row_read
  walk_at "gs"
  refine ⟨by decide, ?_⟩
  unfold k_row_read_9
  walk_at "gs"
  refine ⟨by decide, ?_⟩
  unfold k_row_read_8
  walk_at "gs"
  refine ⟨_, rfl, by decide, by rw [sizeLine_eq]; omega, ?_⟩
  walk_at "gs"
  refine l_row_read (k := k) (Txt.split p " ") [] _ _ hw (by rw [List.length_nil]; omega) (fun l e a4 a5 => ?_) (fun e _ _ _ _ => hE (by rw [e]))
  rw [List.nil_append]
  rw [e] at h hE
  have h : ∀ r o, (if 1 < (ownsP l).length then none else some (l.map (·.1), ownsP l)) = some (r, o) → _ := h
  have hE : (if 1 < (ownsP l).length then none else some (l.map (·.1), ownsP l)) = none → _ := hE
  unfold k_row_read_7
  walk_at "gs"
  by_cases c : 1 < (ownsP l).length
  · refine ifp (by rw [decide_eq_true_iff]; omega) ?_
    exact hE (if_pos c)
  · refine ifn (by rw [decide_eq_true_iff]; omega) ?_
    have q := h _ _ (if_neg c)
    unfold k_row_read_1
    walk_at "gs"
    have hd : atI (nL (ownsP l) ++ [RT.D.non]) 0 = some (oD (ownsP l).head?) := by
      cases ownsP l with
      | nil => exact at_0
      | cons x r => exact at_0
    exact ⟨by decide, by rw [sizeLine_eq]; omega, _, hd, by decide, q⟩
/-! ### a part as the law reads it -/
def partD : Option (List Nat × List Nat) → RT.D
  | none => .non
  | some (r, o) => .tup [.lst (nL r), .lst (nL o)]
theorem mem_str2 (x a b : Str) : D.mem (.str x) [.str a, .str b] = (decide (a = x) || decide (b = x)) := by
  have e : ∀ a : Str, (a == x) = decide (a = x) := fun a => by
    by_cases h : a = x
    · subst h; rw [decide_eq_true rfl]; exact beq_self_eq_true a
    · rw [decide_eq_false h]; exact beq_eq_false_iff_ne.mpr h
  show ((a == x) || ((b == x) || false)) = _
  rw [e, e, Bool.or_false]
theorem l_law_part {a0 : Option M} {De : EndW} : ∀ (ws : List Str) (pre : List (Nat × Bool)) (a3 : Option M), (∀ w ∈ ws, TA w) → pre.length + ws.length ≤ 2000 →
    (∀ l, wordsP ws = some l → ∀ a3, De.nx [a0, some (.fl .o (nL ((pre ++ l).map (·.1)))), some (.fl .o (nL (ownsP (pre ++ l)))), a3]) →
    (wordsP ws = none → De.rt (.d .non)) →
    wLoop (gNm 3) b__law_part_4 De (ws.map RT.D.str) [a0, some (.fl .o (nL (pre.map (·.1)))), some (.fl .o (nL (ownsP pre))), a3]
  | [], pre, a3, _, _, h, _ => by
    have h := h [] rfl a3
    rw [List.append_nil] at h
    exact loop_n h
  | w :: ws, pre, a3, hw, hl, h, hE => by
    have ta := hw w List.mem_cons_self
    have ok1 := ok_str ta.tok
    rw [List.length_cons] at hl
    rw [List.map_cons]
    refine loop_c fun nx hnx => ?_
    have sz := sizeLine_eq
    have wl := ta.1
    have ol := ownsP_le pre
    have len := TL.len_tl w
    unfold wordsP at h hE
    have okd : TOk (⟨((TL.tl w).drop 1).toArray⟩ : Str) := fun c hc => ta.tok c (List.mem_of_mem_drop (show c ∈ (TL.tl w).drop 1 from hc))
    have star : TOk ("*" : Str) := fun c h => by
      have : c = 42 := by simpa [show TL.tl ("*" : Str) = [42] from rfl] using h
      omega
    have emp : TOk ("" : Str) := fun c h => by
      have : c ∈ ([] : List Nat) := h
      cases this
    have no : wordP w = none → De.rt (.d .non) := fun e => hE (by rw [e])
    walk_at "gs"
    unfold b__law_part_4
    walk_at "gs"
    refine ⟨ok1, ok_str emp, ?_⟩
    rw [eqb_str]
    cases q : TL.tl w with
    | nil =>
      have ew : w = ("" : Str) := str_eq q
      refine ifp (by rw [decide_eq_true ew]) ?_
      exact no (by unfold wordP; rw [q])
    | cons c r =>
      have nw : ¬ w = ("" : Str) := fun z => by
        have := congrArg TL.tl z
        rw [q] at this
        cases (show c :: r = [] from this)
      refine ifn (by rw [decide_eq_false nw]; decide) ?_
      rw [cutS_d, q]
      have at0 : atI w.cps.toList 0 = some c := by
        have : w.cps.toList = c :: r := q
        rw [this]
        exact atI_nat (j := 0) rfl
      refine ⟨by omega, c, at0, ?_⟩
      walk_at "gs"
      rw [let_nat]
      by_cases cc : 65 ≤ c ∧ c ≤ 72
      · refine ifn (by rw [decide_eq_true cc]; decide) ?_
        refine ⟨by omega, by decide, rfl, rfl, ?_⟩
        rw [mem_str2]
        have go : ∀ b : Bool, wordP w = some (c - 65, b) → (decide ((⟨(((TL.tl w).drop 1)).toArray⟩ : Str) = "*") = b) → k__law_part_3 { nx := nx, rt := De.rt, bk := De.nx, ct := nx, ex := De.ex } [a0, some (.fl .o (nL (pre.map (·.1)))), some (.fl .o (nL (ownsP pre))), some (.d (.str w))] := fun b hP hb => by
          have ih := fun a3 => l_law_part (De := De) (a0 := a0) ws (pre ++ [(c - 65, b)]) a3 (fun y hy => hw y (List.mem_cons_of_mem _ hy)) (by rw [List.length_append, List.length_singleton]; omega)
            (fun l e a3 => by have := h ((c - 65, b) :: l) (by rw [hP]; show (wordsP ws).map _ = _; rw [e]; rfl) a3; rw [List.append_assoc]; exact this) (fun e => hE (by rw [hP]; show (wordsP ws).map _ = _; rw [e]; rfl))
          rw [ownsP_snoc, List.map_append] at ih
          unfold k__law_part_3
          walk_at "gs"
          refine ⟨by omega, c, at0, ?_⟩
          refine ⟨_, _, _, rfl, let_occ2 cc, ?_⟩
          refine ⟨_, rfl, by omega, ?_⟩
          have en : nL (pre.map (·.1)) ++ [RT.D.int ((c - 65 : Nat) : Int)] = nL (pre.map (·.1) ++ [c - 65]) := by unfold nL; rw [List.map_append]; rfl
          rw [en]
          unfold k__law_part_2
          walk_at "gs"
          rw [cutS_d]
          refine ⟨by omega, ok_str okd, ok_str star, ?_⟩
          rw [eqb_str, hb]
          cases b with
          | true =>
            refine ifp rfl ?_
            refine ⟨_, at_end _ _, ?_⟩
            walk_at "gs"
            refine ⟨by omega, ?_⟩
            have eo : nL (ownsP pre) ++ [nD (c - 65)] = nL (ownsP pre ++ [c - 65]) := by unfold nL; rw [List.map_append]; rfl
            first | rw [eo] | (have eo' : nL (ownsP pre) ++ [RT.D.int ((c - 65 : Nat) : Int)] = nL (ownsP pre ++ [c - 65]) := eo; rw [eo'])
            exact hnx _ (ih _)
          | false =>
            refine ifn (by decide) ?_
            exact hnx _ (ih _)
        cases r with
        | nil =>
          refine ifn (by show ¬ (!(decide (("" : Str) = ⟨#[]⟩) || decide (("*" : Str) = ⟨#[]⟩))) = true; decide) ?_
          refine go false (by unfold wordP; rw [q]; show (if _ then _ else _) = _; rw [if_pos cc]) ?_
          rw [q]; show decide ((⟨#[]⟩ : Str) = "*") = false; decide
        | cons d r =>
          cases r with
          | nil =>
            by_cases dd : d = 42
            · subst dd
              refine ifn (by show ¬ (!(decide (("" : Str) = ⟨#[42]⟩) || decide (("*" : Str) = ⟨#[42]⟩))) = true; decide) ?_
              refine go true (by unfold wordP; rw [q]; show (if _ then _ else _) = _; rw [if_pos ⟨rfl, cc⟩]) ?_
              rw [q]; show decide ((⟨#[42]⟩ : Str) = "*") = true; decide
            · have e1 : ¬ ("" : Str) = ⟨#[d]⟩ := fun z => by
                have := congrArg Str.length z
                exact absurd this (by decide : ¬ (0 = 1))
              have e2 : ¬ ("*" : Str) = ⟨#[d]⟩ := fun z => by
                have : ([42] : List Nat) = [d] := congrArg TL.tl z
                cases this; exact dd rfl
              refine ifp (by
                show (!(decide (("" : Str) = ⟨#[d]⟩) || decide (("*" : Str) = ⟨#[d]⟩))) = true
                rw [decide_eq_false e1, decide_eq_false e2]; rfl) ?_
              refine no ?_
              unfold wordP; rw [q]; show (if _ then _ else _) = _
              rw [if_neg (fun z => dd z.1)]
          | cons e r =>
            have e1 : ¬ ("" : Str) = ⟨(d :: e :: r).toArray⟩ := fun z => by
              have : ([] : List Nat) = d :: e :: r := congrArg TL.tl z
              cases this
            have e2 : ¬ ("*" : Str) = ⟨(d :: e :: r).toArray⟩ := fun z => by
              have : ([42] : List Nat) = d :: e :: r := congrArg TL.tl z
              cases this
            refine ifp (by
              show (!(decide (("" : Str) = ⟨(d :: e :: r).toArray⟩) || decide (("*" : Str) = ⟨(d :: e :: r).toArray⟩))) = true
              rw [decide_eq_false e1, decide_eq_false e2]; rfl) ?_
            refine no ?_
            unfold wordP; rw [q]
      · refine ifp (by rw [decide_eq_false cc]; decide) ?_
        refine no ?_
        unfold wordP; rw [q]
        cases r with
        | nil => show (if _ then _ else _) = _; rw [if_neg cc]
        | cons d r =>
          cases r with
          | nil => show (if _ then _ else _) = _; rw [if_neg (fun z => cc z.2)]
          | cons e r => rfl
theorem x__law_part {p : Str} {Q : M → Prop} {E : XP} (ta : TA p) (h : Q (.d (partD (partR p)))) : T__law_part [.d (.str p)] Q E := by
  refine ⟨rfl, rfl, ?_⟩
  show w__law_part _ [_, _, _, _]
  have few := split_few (y := " ") ta
  have l1 := ta.1
  have hw : ∀ w ∈ Txt.split p " ", TA w := fun w hw => ta.part (y := " ") (by show ([32] : List Nat) ≠ []; decide) (by decide +kernel) hw
  unfold partR at h
  unfold w__law_part
  walk_at "gs"
  refine ⟨by decide, ?_⟩
  unfold k__law_part_7
  walk_at "gs"
  refine ⟨by decide, ?_⟩
  unfold k__law_part_6
  walk_at "gs"
  refine ⟨_, rfl, by decide, by rw [sizeLine_eq]; omega, ?_⟩
  walk_at "gs"
  refine l_law_part (Txt.split p " ") [] _ hw (by rw [List.length_nil]; omega) (fun l e a3 => ?_) (fun e => by rw [e] at h; exact h)
  rw [List.nil_append]
  rw [e] at h
  have h : Q (.d (partD (if 1 < (ownsP l).length then none else some (l.map (·.1), ownsP l)))) := h
  unfold k__law_part_5
  walk_at "gs"
  by_cases c : 1 < (ownsP l).length
  · refine ifp (by rw [decide_eq_true_iff]; omega) ?_
    rw [if_pos c] at h
    exact h
  · refine ifn (by rw [decide_eq_true_iff]; omega) ?_
    rw [if_neg c] at h
    unfold k__law_part_1
    walk_at "gs"
    exact ⟨by decide, h⟩
/-! ### sorted naturals -/
def sN (l : List Nat) : List Nat := l.mergeSort (fun a b => decide (a ≤ b))
theorem sN_perm (l : List Nat) : (sN l).Perm l := List.mergeSort_perm _ _
theorem srt_nat (l : List Nat) : (srt (l.map fun n : Nat => (n : Int))).map D.int = nL (sN l) := by
  have e : srt (l.map fun n : Nat => (n : Int)) = (sN l).map fun n : Nat => (n : Int) := by
    unfold srt sN
    refine (List.map_mergeSort (f := fun n : Nat => (n : Int)) (r := fun a b => decide (a ≤ b)) (s := fun x y : Int => decide (x ≤ y)) (fun a _ b _ => ?_)).symm
    show decide (a ≤ b) = decide ((a : Int) ≤ (b : Int))
    congr 1
    exact propext ⟨fun h => by omega, fun h => by omega⟩
  rw [e]
  unfold nL
  rw [List.map_map]; rfl
theorem sN_eq5 {a b : List Nat} (h : a.Perm b) : sN a = sN b := by
  unfold sN
  refine List.Perm.eq_of_pairwise (le := fun x y => decide (x ≤ y) = true) (fun x y _ _ h1 h2 => ?_) (List.pairwise_mergeSort (fun a b c h1 h2 => ?_) (fun a b => ?_) a) (List.pairwise_mergeSort (fun a b c h1 h2 => ?_) (fun a b => ?_) b) ((List.mergeSort_perm a _).trans (h.trans (List.mergeSort_perm b _).symm))
  · rw [decide_eq_true_iff] at h1 h2; omega
  · rw [decide_eq_true_iff] at h1 h2 ⊢; omega
  · rw [Bool.or_eq_true, decide_eq_true_iff, decide_eq_true_iff]; omega
  · rw [decide_eq_true_iff] at h1 h2 ⊢; omega
  · rw [Bool.or_eq_true, decide_eq_true_iff, decide_eq_true_iff]; omega
/-! ### rows and owned things that are due -/
theorem isRowL_true {m : Nat} : ∀ (l met : List Nat), isRowL m (met.map fun x : Nat => (x : Int)) (nL l) = true → met.Nodup → (met ++ l).Nodup ∧ ∀ t ∈ l, t < m
  | [], met, _, nd => ⟨by rw [List.append_nil]; exact nd, fun t h => nomatch h⟩
  | t :: l, met, h, nd => by
    rw [nL_cons] at h
    have h : isRowL m (met.map fun x : Nat => (x : Int)) (RT.D.int (t : Int) :: nL l) = true := h
    rw [isRowL_int] at h
    split at h
    · rename_i c
      have tn : t ∉ met := fun z => c.2 (List.mem_map.mpr ⟨t, z, rfl⟩)
      have e : (met.map fun x : Nat => (x : Int)) ++ [(t : Int)] = (met ++ [t]).map fun x : Nat => (x : Int) := by rw [List.map_append]; rfl
      rw [e] at h
      obtain ⟨h1, h2⟩ := isRowL_true l (met ++ [t]) h (List.nodup_append.mpr ⟨nd, (by simp), fun x hx y hy z => tn (by rw [List.mem_singleton.mp hy] at z; rw [← z]; exact hx)⟩)
      rw [List.append_assoc] at h1
      refine ⟨h1, fun x hx => ?_⟩
      rcases List.mem_cons.mp hx with rfl | hx
      · have := c.1.2; omega
      · exact h2 x hx
    · cases h
theorem isRowL_good {m : Nat} : ∀ (l met : List Nat), (met ++ l).Nodup → (∀ t ∈ l, t < m) → isRowL m (met.map fun x : Nat => (x : Int)) (nL l) = true
  | [], met, _, _ => rfl
  | t :: l, met, nd, h => by
    rw [nL_cons]
    show isRowL m _ (RT.D.int (t : Int) :: nL l) = true
    rw [isRowL_int]
    have tm := h t List.mem_cons_self
    have tn : t ∉ met := fun z => (List.nodup_append.mp nd).2.2 t z t List.mem_cons_self rfl
    rw [if_pos ⟨⟨by omega, by omega⟩, fun z => by
      obtain ⟨x, hx, e⟩ := List.mem_map.mp z
      have : x = t := by omega
      exact tn (by rw [← this]; exact hx)⟩]
    have e : (met.map fun x : Nat => (x : Int)) ++ [(t : Int)] = (met ++ [t]).map fun x : Nat => (x : Int) := by rw [List.map_append]; rfl
    rw [e]
    exact isRowL_good l (met ++ [t]) (by rw [List.append_assoc]; exact nd) fun x hx => h x (List.mem_cons_of_mem _ hx)
/-- the row is one of m things -/
def rowG (m : Nat) (r : List Nat) : Bool := decide (r.length = m) && decide (r.Nodup) && r.all fun t => decide (t < m)
theorem rowG_perm {m : Nat} {r : List Nat} : rowG m r = true ↔ r.Perm (List.range m) := by
  unfold rowG
  rw [Bool.and_eq_true, Bool.and_eq_true, decide_eq_true_iff, decide_eq_true_iff, List.all_eq_true]
  constructor
  · rintro ⟨⟨h1, h2⟩, h3⟩
    have lt : ∀ t ∈ r, t < m := fun t ht => by simpa using h3 t ht
    refine (List.perm_ext_iff_of_nodup h2 List.nodup_range).mpr fun t => ⟨fun ht => List.mem_range.mpr (lt t ht), fun ht => ?_⟩
    by_cases c : t ∈ r
    · exact c
    · exfalso
      have := (List.nodup_cons.mpr ⟨c, h2⟩).length_le_of_subset (l₂ := List.range m) fun x hx => by
        rcases List.mem_cons.mp hx with rfl | hx
        · exact ht
        · exact List.mem_range.mpr (lt x hx)
      rw [List.length_cons, List.length_range] at this
      omega
  · intro h
    exact ⟨⟨by rw [h.length_eq, List.length_range], h.nodup_iff.mpr List.nodup_range⟩, fun t ht => by simpa using List.mem_range.mp (h.subset ht)⟩
theorem rowB_G (m : Nat) (r : List Nat) : rowB m (nL r) = rowG m r := by
  rw [Bool.eq_iff_iff]
  unfold rowB rowG
  rw [Bool.and_eq_true, Bool.and_eq_true, Bool.and_eq_true, decide_eq_true_iff, decide_eq_true_iff, decide_eq_true_iff, List.all_eq_true, nL_length]
  constructor
  · rintro ⟨h1, h2⟩
    obtain ⟨h3, h4⟩ := isRowL_true r [] h2 List.nodup_nil
    rw [List.nil_append] at h3
    exact ⟨⟨h1, h3⟩, fun t ht => by simpa using h4 t ht⟩
  · rintro ⟨⟨h1, h2⟩, h3⟩
    exact ⟨h1, isRowL_good r [] (by rw [List.nil_append]; exact h2) fun t ht => by simpa using h3 t ht⟩
theorem srt_range (m : Nat) : sN (List.range m) = List.range m := by
  unfold sN
  refine List.mergeSort_of_pairwise ?_
  refine List.Pairwise.imp ?_ List.pairwise_lt_range
  intro a b h
  rw [decide_eq_true_iff]; omega
theorem sN_range {m : Nat} {r : List Nat} : sN r = List.range m ↔ r.Perm (List.range m) := by
  constructor
  · intro h
    have := sN_perm r
    rw [h] at this
    exact this.symm
  · intro h
    rw [sN_eq5 h, srt_range]
/-- the first row that is none -/
def badRow (m : Nat) : Nat → List (List Nat) → Option Nat
  | _, [] => none
  | k, r :: rs => if rowG m r = true then badRow m (k + 1) rs else some k
theorem it_nL5 {r : List Nat} : ∀ x ∈ nL r, It x := fun x hx => by
  obtain ⟨t, _, e⟩ := List.mem_map.mp hx
  exact .inr (.inl ⟨_, e.symm⟩)
def lsT (r : List Nat) : RT.D := .lst (nL r)
theorem l_wishes_of {m : Nat} {a0 : Option M} {De : EndW} : ∀ (W : List (List Nat)) (k : Nat) (a2 a3 : Option M), (∀ r ∈ W, r.length ≤ 2000) → (badRow m k W = none → ∀ a2 a3, De.nx [a0, some (.d (nD m)), a2, a3]) → (∀ i, badRow m k W = some i → ∀ r2 r3, De.ex [a0, some (.d (nD m)), r2, r3] ⟨"NoRow", [("hand", nD i)]⟩) →
    wLoop (gTpD 2 (gConsD (gNm 2) (gConsD (gNm 3) gNilD))) b_wishes_of_2 De (enumF k (W.map lsT)) [a0, some (.d (nD m)), a2, a3]
  | [], k, a2, a3, _, h, _ => loop_n (h rfl _ _)
  | r :: W, k, a2, a3, hr, h, hE => by
    rw [List.map_cons]
    unfold enumF
    refine loop_c fun nx hnx => ?_
    unfold lsT
    walk_at "gs"
    unfold b_wishes_of_2
    walk_at "gs"
    refine x_is_row5 it_nL5 (by rw [nL_length]; exact hr r List.mem_cons_self) ?_
    rw [rowB_G]
    unfold badRow at h hE
    by_cases c : rowG m r = true
    · rw [if_pos c] at h hE
      rw [c]
      walk_at "gs"
      exact hnx _ (l_wishes_of W (k + 1) _ _ (fun x hx => hr x (List.mem_cons_of_mem _ hx)) h hE)
    · rw [if_neg c] at h hE
      rw [Bool.not_eq_true] at c
      rw [c]
      walk_at "gs"
      exact hE k rfl _ _
theorem x_things {W : List (List Nat)} {n m : Nat} {Q : M → Prop} {E : XP} (R : Rows W n m) (h0 : 0 < n) (h : Q (.d (nD m))) : T_things_in [.d (wD W)] Q E := by
  refine ⟨rfl, rfl, ?_⟩
  show w_things_in _ [_]
  obtain ⟨r0, hr0, hp0⟩ := R.get h0
  have e0 : r0.length = m := by rw [hp0.length_eq, List.length_range]
  unfold w_things_in wD
  walk_at "gs"
  refine ⟨_, atI_map (i := 0) hr0, ?_⟩
  walk_at "gs"
  rw [e0]; exact h
/-! ### what comes of a text -/
inductive Out where
  | told | text (i : Int) | many | row (i : Nat) | own (i : Nat)
def outD : Out → RT.D
  | .told => .tup [.str "told", .non]
  | .text i => .tup [.str "text", .int i]
  | .many => .tup [.str "many", .non]
  | .row i => .tup [.str "row", nD i]
  | .own i => .tup [.str "own", nD i]
def outX : Out → Option XV
  | .told => none
  | .text i => some ⟨"NoText", [("at", .int i)]⟩
  | .many => some ⟨"TooMany", []⟩
  | .row i => some ⟨"NoRow", [("hand", nD i)]⟩
  | .own i => some ⟨"NoOwn", [("hand", nD i)]⟩
def badPart : Nat → List Str → Option Nat
  | _, [] => none
  | k, p :: ps => match partR p with
    | none => some k
    | some _ => badPart (k + 1) ps
def badOwn : List (List Nat) → List (List Nat) → Option Nat
  | _, [] => none
  | pre, o :: l => if o ≠ [] ∧ o ∈ pre then some pre.length else badOwn (pre ++ [o]) l
def outR (W os : List (List Nat)) : Out :=
  if 7 < W.length ∨ (W.headD []).length < W.length ∨ 8 < (W.headD []).length then .many else match badRow (W.headD []).length 0 W with
    | some i => .row i
    | none => match badOwn [] os with
      | some i => .own i
      | none => .told
def gsOf (ps : List Str) : List (List Nat × List Nat) := ps.filterMap partR
def outT (x : Str) : Out := match badPart 0 (Txt.split x "; ") with
  | some i => .text i
  | none => outR ((gsOf (Txt.split x "; ")).map (·.1)) ((gsOf (Txt.split x "; ")).map (·.2))
theorem headT {W : List (List Nat)} (h : W ≠ []) : atI (W.map lsT) 0 = some (lsT (W.headD [])) := by
  cases W with
  | nil => exact absurd rfl h
  | cons r W => exact at_0
theorem x_wishes_of {W : List (List Nat)} {Q : M → Prop} {E : XP} (h0 : W ≠ []) (hz : W.length ≤ 2000) (hr : ∀ r ∈ W, r.length ≤ 2000) (h : ¬ (7 < W.length ∨ (W.headD []).length < W.length ∨ 8 < (W.headD []).length) → badRow (W.headD []).length 0 W = none → Q (.d (wD W)))
    (h1 : (7 < W.length ∨ (W.headD []).length < W.length ∨ 8 < (W.headD []).length) → E ⟨"TooMany", []⟩) (h2 : ¬ (7 < W.length ∨ (W.headD []).length < W.length ∨ 8 < (W.headD []).length) → ∀ i, badRow (W.headD []).length 0 W = some i → E ⟨"NoRow", [("hand", nD i)]⟩) : T_wishes_of [.fl .p (W.map lsT)] Q E := by
  refine ⟨rfl, rfl, ?_⟩
  show w_wishes_of _ [_, _, _, _]
  have lw : 0 < W.length := List.length_pos_iff.mpr h0
  unfold w_wishes_of
  walk_at "gs"
  refine ifn (by rw [decide_eq_true_iff]; omega) ?_
  by_cases c1 : 7 < W.length
  · exact ifp (by rw [decide_eq_true_iff]; omega) (h1 (.inl c1))
  refine ifn (by rw [decide_eq_true_iff]; omega) ?_
  unfold k_wishes_of_6
  walk_at "gs"
  refine ⟨_, headT h0, ?_⟩
  unfold lsT
  walk_at "gs"
  generalize hm : (W.headD []).length = m at h h1 h2
  unfold k_wishes_of_5
  walk_at "gs"
  by_cases c2 : m < W.length
  · exact ifp (by rw [decide_eq_true_iff]; omega) (h1 (.inr (.inl c2)))
  refine ifn (by rw [decide_eq_true_iff]; omega) ?_
  by_cases c3 : 8 < m
  · exact ifp (by rw [decide_eq_true_iff]; omega) (h1 (.inr (.inr c3)))
  refine ifn (by rw [decide_eq_true_iff]; omega) ?_
  have nc : ¬ (7 < W.length ∨ m < W.length ∨ 8 < m) := by omega
  unfold k_wishes_of_4
  walk_at "gs"
  rw [enumD_F]
  refine l_wishes_of (m := m) W 0 _ _ hr (fun e a2 a3 => ?_) (fun i e _ _ => h2 nc i e)
  unfold k_wishes_of_3
  walk_at "gs"
  refine cmp_map (inj := lsT) (f := fun r => RT.D.tup (nL r)) (fun p hp P hP => ?_) ?_
  · unfold e_wishes_of_1 lsT
    walk_at "gs"
    exact hP _ rfl
  · walk_at "gs"
    exact h nc e
def metO (pre : List (List Nat)) : List Nat := pre.filterMap List.head?
theorem metO_mem {pre : List (List Nat)} (h1 : ∀ o ∈ pre, o.length ≤ 1) {t : Nat} : t ∈ metO pre ↔ [t] ∈ pre := by
  unfold metO
  rw [List.mem_filterMap]
  constructor
  · rintro ⟨o, ho, e⟩
    have := h1 o ho
    cases o with
    | nil => cases e
    | cons x r =>
      have : r = [] := List.length_eq_zero_iff.mp (by rw [List.length_cons] at this; omega)
      subst this
      cases e; exact ho
  · intro h; exact ⟨[t], h, rfl⟩
theorem l_owns_of {W : List (List Nat)} {n m : Nat} {a1 : Option M} {De : EndW} (R : Rows W n m) (h0 : 0 < n) : ∀ (l pre : List (List Nat)) (a3 a4 : Option M), (∀ o ∈ pre ++ l, o.length ≤ 1 ∧ ∀ t ∈ o, t < m) → (pre ++ l).length ≤ 100 →
    (badOwn pre l = none → ∀ a2 a3 a4, De.nx [some (.d (wD W)), a1, a2, a3, a4]) → (∀ i, badOwn pre l = some i → ∀ r2 r3 r4, De.ex [some (.d (wD W)), a1, r2, r3, r4] ⟨"NoOwn", [("hand", nD i)]⟩) →
    wLoop (gTpD 2 (gConsD (gNm 3) (gConsD (gNm 4) gNilD))) b_owns_of_2 De (enumF pre.length (l.map fun o => oD o.head?)) [some (.d (wD W)), a1, some (.fl .o (nL (metO pre))), a3, a4]
  | [], pre, a3, a4, _, _, h, _ => loop_n (h rfl _ _ _)
  | o :: l, pre, a3, a4, ho, hz, h, hE => by
    obtain ⟨o1, o2⟩ := ho o (List.mem_append_right _ List.mem_cons_self)
    have pre1 : ∀ o ∈ pre, o.length ≤ 1 := fun x hx => (ho x (List.mem_append_left _ hx)).1
    rw [List.map_cons]
    unfold enumF
    refine loop_c fun nx hnx => ?_
    have ih := fun a3 a4 => l_owns_of (De := De) (a1 := a1) R h0 l (pre ++ [o]) a3 a4 (by rw [List.append_assoc]; exact ho) (by rw [List.append_assoc]; exact hz)
    rw [List.length_append, List.length_singleton] at ih
    have ml : (metO pre).length ≤ pre.length := List.length_filterMap_le _ _
    rw [List.length_append] at hz
    unfold badOwn at h hE
    walk_at "gs"
    unfold b_owns_of_2
    cases o with
    | nil =>
      rw [if_neg (fun z => z.1 rfl)] at h hE
      rw [show oD (List.head? ([] : List Nat)) = RT.D.non from rfl]
      walk_at "gs"
      have em : metO (pre ++ [[]]) = metO pre := by unfold metO; rw [List.filterMap_append]; simp
      rw [em] at ih
      exact hnx _ (ih _ _ h hE)
    | cons t r =>
      have : r = [] := List.length_eq_zero_iff.mp (by rw [List.length_cons] at o1; omega)
      subst this
      have tm := o2 t List.mem_cons_self
      rw [show oD (List.head? [t]) = nD t from rfl]
      walk_at "gs"
      refine x_things R h0 ?_
      walk_at "gs"
      refine x_is_below (.inr (.inl ⟨_, rfl⟩)) ?_
      have e : belowB m (nD t) = true := by show (decide (0 ≤ (t : Int)) && decide ((t : Int) < (m : Int))) = true; simp; omega
      rw [e]
      walk_at "gs"
      refine ⟨rfl, nL_flat _, ?_⟩
      rw [nL_mem]
      by_cases c : t ∈ metO pre
      · rw [if_pos ⟨by simp, (metO_mem pre1).mp c⟩] at h hE
        refine ifp (by rw [decide_eq_true_iff]; exact c) ?_
        exact hE _ rfl _ _ _
      · rw [if_neg (fun z => c ((metO_mem pre1).mpr z.2))] at h hE
        refine ifn (by rw [decide_eq_true_iff]; exact c) ?_
        unfold k_owns_of_1
        walk_at "gs"
        refine ⟨by omega, ?_⟩
        have en : nL (metO pre) ++ [RT.D.int (t : Int)] = nL (metO (pre ++ [[t]])) := by unfold metO; rw [List.filterMap_append]; unfold nL; rw [List.map_append]; rfl
        rw [en]
        exact hnx _ (ih _ _ h hE)
theorem x_owns_of {W os : List (List Nat)} {n m : Nat} {Q : M → Prop} {E : XP} (R : Rows W n m) (h0 : 0 < n) (hn : n ≤ 50) (hl : os.length = n) (ho : ∀ o ∈ os, o.length ≤ 1 ∧ ∀ t ∈ o, t < m) (h : badOwn [] os = none → ∀ x, Q (.d x)) (hE : ∀ i, badOwn [] os = some i → E ⟨"NoOwn", [("hand", nD i)]⟩) : T_owns_of [.d (wD W), .fl .p (os.map fun o => oD o.head?)] Q E := by
  refine ⟨rfl, rfl, ?_⟩
  show w_owns_of _ [_, _, _, _, _]
  have lw := R.len
  unfold w_owns_of
  rw [show wD W = RT.D.tup (W.map fun r => RT.D.tup (nL r)) from rfl]
  walk_at "gs"
  rw [lw, hl]
  refine ⟨rfl, rfl, ?_⟩
  refine ifn (by rw [eqb_int, decide_eq_true rfl]; decide) ?_
  rw [show RT.D.tup (W.map fun r => RT.D.tup (nL r)) = wD W from rfl]
  unfold k_owns_of_5
  walk_at "gs"
  refine ⟨by decide, ?_⟩
  unfold k_owns_of_4
  walk_at "gs"
  rw [enumD_F]
  refine l_owns_of R h0 os [] _ _ (by rw [List.nil_append]; exact ho) (by rw [List.nil_append]; omega) (fun e a2 a3 a4 => ?_) (fun i e _ _ _ => hE i e)
  unfold k_owns_of_3
  walk_at "gs"
  exact h e _
/-! ### the text is read, or refused -/
theorem part_small {p : Str} (ta : TA p) {r o : List Nat} (h : partR p = some (r, o)) : r.length ≤ 1002 ∧ o.length ≤ 1 ∧ (∀ t ∈ o, t ∈ r) := by
  unfold partR at h
  have wl : ∀ (ws : List Str) (l : List (Nat × Bool)), wordsP ws = some l → l.length = ws.length := fun ws => by
    induction ws with
    | nil => intro l e; cases e; rfl
    | cons w ws ih =>
      intro l e
      unfold wordsP at e
      split at e
      · cases e
      · cases q : wordsP ws with
        | none => rw [q] at e; cases e
        | some l' => rw [q] at e; cases e; rw [List.length_cons, List.length_cons, ih _ q]
  split at h
  · cases h
  · rename_i l e
    split at h
    · cases h
    · rename_i c
      cases h
      have := wl _ _ e
      have := split_few (y := " ") ta
      refine ⟨by rw [List.length_map]; omega, by omega, fun t ht => ?_⟩
      unfold ownsP at ht
      obtain ⟨q, hq, e⟩ := List.mem_map.mp ht
      exact List.mem_map.mpr ⟨q, (List.mem_filter.mp hq).1, e⟩
theorem l_rows_read {a0 : Option M} {De : EndW} : ∀ (ps : List Str) (pre : List (List Nat × List Nat)) (k : Nat) (a3 a4 a5 a6 : Option M), (∀ p ∈ ps, TA p) → pre.length + ps.length ≤ 3000 →
    (badPart k ps = none → ∀ a3 a4 a5 a6, De.nx [a0, some (.fl .o ((pre ++ gsOf ps).map fun g => lsT g.1)), some (.fl .o ((pre ++ gsOf ps).map fun g => oD g.2.head?)), a3, a4, a5, a6, none]) →
    (∀ i, badPart k ps = some i → ∀ r1 r2 r3 r4 r5 r6 r7, De.ex [a0, r1, r2, r3, r4, r5, r6, r7] ⟨"NoText", [("at", nD i)]⟩) →
    wLoop (gTpD 2 (gConsD (gNm 3) (gConsD (gNm 4) gNilD))) b_rows_read_4 De (enumF k (ps.map RT.D.str)) [a0, some (.fl .o (pre.map fun g => lsT g.1)), some (.fl .o (pre.map fun g => oD g.2.head?)), a3, a4, a5, a6, none]
  | [], pre, k, a3, a4, a5, a6, _, _, h, _ => by
    have h := h rfl a3 a4 a5 a6
    rw [show gsOf [] = [] from rfl, List.append_nil] at h
    exact loop_n h
  | p :: ps, pre, k, a3, a4, a5, a6, hp, hl, h, hE => by
    have ta := hp p List.mem_cons_self
    rw [List.length_cons] at hl
    rw [List.map_cons]
    unfold enumF
    refine loop_c fun nx hnx => ?_
    walk_at "gs"
    unfold b_rows_read_4
    walk_at "gs"
    unfold badPart at h hE
    refine x_row_read ta (fun r o e => ?_) fun e => ?_
    · rw [e] at h hE
      have eg : gsOf (p :: ps) = (r, o) :: gsOf ps := by unfold gsOf; rw [List.filterMap_cons, e]
      rw [eg] at h
      have ih := fun a3 a4 a5 a6 => l_rows_read (De := De) (a0 := a0) ps (pre ++ [(r, o)]) (k + 1) a3 a4 a5 a6 (fun x hx => hp x (List.mem_cons_of_mem _ hx)) (by rw [List.length_append, List.length_singleton]; omega) (fun e2 a3 a4 a5 a6 => by rw [List.append_assoc]; exact h e2 a3 a4 a5 a6) (fun i e2 => hE i e2)
      rw [List.map_append, List.map_append] at ih
      walk_at "gs"
      unfold k_rows_read_3
      walk_at "gs"
      refine ⟨by omega, ?_⟩
      unfold k_rows_read_2
      walk_at "gs"
      refine ⟨by omega, ?_⟩
      exact hnx _ (ih _ _ _ _)
    · rw [e] at hE
      exact hE k rfl _ _ _ _ _ _ _
theorem split_ne (x y : Str) (hy : TL.tl y ≠ []) (hk : y.cps.all (· < 256) = true) : Txt.split x y ≠ [] := fun h => by
  have e := TL.split_spl x y hy (TL.kind_ok hk)
  rw [h] at e
  have ne : ∀ (l acc : List Nat) (k : Nat), TL.spl (TL.tl y) k acc l ≠ [] := fun l => by
    induction l with
    | nil => intro acc k z; rw [TL.spl_nil] at z; cases z
    | cons c l ih =>
      intro acc k z
      cases k with
      | zero =>
        unfold TL.spl at z
        split at z
        · cases z
        · exact ih _ _ z
      | succ k => unfold TL.spl at z; exact ih _ _ z
  exact ne _ _ _ e.symm
theorem gsOf_len : ∀ (k : Nat) (ps : List Str), badPart k ps = none → (gsOf ps).length = ps.length
  | _, [], _ => rfl
  | k, p :: ps, h => by
    unfold badPart at h
    split at h
    · cases h
    · rename_i g e
      unfold gsOf
      rw [List.filterMap_cons, e, List.length_cons, List.length_cons]
      have := gsOf_len (k + 1) ps h
      unfold gsOf at this
      rw [this]
theorem gsOf_mem {ps : List Str} {g : List Nat × List Nat} (h : g ∈ gsOf ps) : ∃ p ∈ ps, partR p = some g := List.mem_filterMap.mp h
theorem badRow_all {m : Nat} : ∀ (W : List (List Nat)) (k : Nat), badRow m k W = none → ∀ r ∈ W, r.Perm (List.range m)
  | [], _, _, r, h => nomatch h
  | x :: W, k, e, r, h => by
    unfold badRow at e
    split at e
    · rename_i c
      rcases List.mem_cons.mp h with rfl | h
      · exact rowG_perm.mp c
      · exact badRow_all W (k + 1) e r h
    · cases e
theorem x_rows_read {x : Str} {Q : M → Prop} {E : XP} (ta : TA x) (h : outT x = .told → ∀ y, Q (.d y)) (hE : ∀ v, outX (outT x) = some v → E v) : T_rows_read [.d (.str x)] Q E := by
  refine ⟨rfl, rfl, ?_⟩
  show w_rows_read _ [_, _, _, _, _, _, _, _]
  have l1 := ta.1
  have few := split_few (y := "; ") ta
  have hp : ∀ p ∈ Txt.split x "; ", TA p := fun p hp => ta.part (y := "; ") (by show ([59, 32] : List Nat) ≠ []; decide) (by decide +kernel) hp
  have nes := split_ne x "; " (by show ([59, 32] : List Nat) ≠ []; decide) (by decide +kernel)
  unfold outT at h hE
  unfold w_rows_read
  walk_at "gs"
  refine ⟨by decide, ?_⟩
  refine ifn (by decide) ?_
  unfold k_rows_read_8
  walk_at "gs"
  refine ⟨by decide, ?_⟩
  unfold k_rows_read_7
  walk_at "gs"
  refine ⟨by decide, ?_⟩
  unfold k_rows_read_6
  walk_at "gs"
  refine ⟨_, rfl, by decide, by rw [sizeLine_eq]; omega, ?_⟩
  walk_at "gs"
  rw [enumD_F]
  refine l_rows_read (Txt.split x "; ") [] 0 _ _ _ _ hp (by rw [List.length_nil]; omega) (fun e a3 a4 a5 a6 => ?_) (fun i e _ _ _ _ _ _ _ => hE _ (by rw [e]; rfl))
  rw [List.nil_append]
  rw [e] at h hE
  have gl := gsOf_len 0 _ e
  have gm := fun g hg => gsOf_mem (ps := Txt.split x "; ") (g := g) hg
  generalize Txt.split x "; " = ps at h hE gl gm few hp nes
  have h : outR ((gsOf ps).map (·.1)) ((gsOf ps).map (·.2)) = .told → ∀ y, Q (.d y) := h
  have hE : ∀ v, outX (outR ((gsOf ps).map (·.1)) ((gsOf ps).map (·.2))) = some v → E v := hE
  have sm : ∀ g ∈ gsOf ps, g.1.length ≤ 1002 ∧ g.2.length ≤ 1 ∧ (∀ t ∈ g.2, t ∈ g.1) := fun g hg => by
    obtain ⟨p, h1, h2⟩ := gm g hg
    exact part_small (hp p h1) h2
  have g0 : gsOf ps ≠ [] := fun z => by
    rw [z] at gl
    exact nes (List.length_eq_zero_iff.mp gl.symm)
  generalize gsOf ps = gs at h hE gl sm g0
  have e1 : (gs.map fun g => lsT g.1) = (gs.map (·.1)).map lsT := by rw [List.map_map]; rfl
  have e2 : (gs.map fun g => oD g.2.head?) = (gs.map (·.2)).map fun o => oD o.head? := by rw [List.map_map]; rfl
  rw [e1, e2]
  have hW0 : gs.map (·.1) ≠ [] := fun z => g0 (List.map_eq_nil_iff.mp z)
  have hWl : (gs.map (·.1)).length ≤ 2000 := by rw [List.length_map]; omega
  have hol : (gs.map (·.2)).length = (gs.map (·.1)).length := by rw [List.length_map, List.length_map]
  have hWr : ∀ r ∈ gs.map (·.1), r.length ≤ 2000 := fun r hr => by
    obtain ⟨g, hg, e⟩ := List.mem_map.mp hr
    have := (sm g hg).1
    rw [← e]; omega
  have hown : ∀ m, (∀ r ∈ gs.map (·.1), r.Perm (List.range m)) → ∀ o ∈ gs.map (·.2), o.length ≤ 1 ∧ ∀ t ∈ o, t < m := fun m hm o ho => by
    obtain ⟨g, hg, e⟩ := List.mem_map.mp ho
    obtain ⟨s1, s2, s3⟩ := sm g hg
    rw [← e]
    exact ⟨s2, fun t ht => List.mem_range.mp ((hm g.1 (List.mem_map.mpr ⟨g, hg, rfl⟩)).subset (s3 t ht))⟩
  generalize gs.map (·.1) = W at h hE hW0 hWl hWr hol hown
  generalize gs.map (·.2) = os at h hE hol hown
  unfold outR at h hE
  unfold k_rows_read_5
  walk_at "gs"
  refine x_wishes_of hW0 hWl hWr (fun nc e => ?_) (fun c => hE _ (by rw [if_pos c]; rfl)) (fun nc i e => hE _ (by rw [if_neg nc, e]; rfl))
  rw [if_neg nc, e] at h hE
  have h : (match badOwn [] os with | some i => Out.own i | none => .told) = .told → ∀ y, Q (.d y) := h
  have hE : ∀ v, outX (match badOwn [] os with | some i => Out.own i | none => .told) = some v → E v := hE
  have all := badRow_all W 0 e
  have Wl : 0 < W.length := List.length_pos_iff.mpr hW0
  have R : Rows W W.length (W.headD []).length := ⟨rfl, all⟩
  walk_at "gs"
  unfold k_rows_read_1
  walk_at "gs"
  refine x_owns_of R Wl (by omega) hol (hown _ all) (fun eo y => ?_) (fun i eo => hE _ (by rw [eo]; rfl))
  walk_at "gs"
  rw [eo] at h
  exact ⟨by decide, h rfl _⟩
/-! ### what the law wants -/
theorem okL (r : List Nat) : (lsT r).ok := ok_lst r
theorem part_few {p : Str} {r o : List Nat} (h : partR p = some (r, o)) : r.length ≤ p.length + 2 := by
  unfold partR at h
  have wl : ∀ (ws : List Str) (l : List (Nat × Bool)), wordsP ws = some l → l.length = ws.length := fun ws => by
    induction ws with
    | nil => intro l e; cases e; rfl
    | cons w ws ih =>
      intro l e
      unfold wordsP at e
      split at e
      · cases e
      · cases q : wordsP ws with
        | none => rw [q] at e; cases e
        | some l' => rw [q] at e; cases e; rw [List.length_cons, List.length_cons, ih _ q]
  split at h
  · cases h
  · rename_i l e
    split at h
    · cases h
    · cases h
      have := wl _ _ e
      have := PyProof.Rows.split_le p " "
      rw [List.length_map]; omega
/-- .. all of whose parts are short -/
def TB (x : Str) : Prop := TA x ∧ ∀ p ∈ Txt.split x "; ", p.length ≤ 60
theorem l_due_rows {m : Nat} {W : List (List Nat)} {a1 : Option M} {De : EndW} (h0 : W ≠ []) (hm : (W.headD []).length = m) (hm2 : m ≤ 100) : ∀ (rs : List (List Nat)) (k : Nat) (a2 a3 : Option M), (∀ r ∈ rs, r.length < 64) → (badRow m k rs = none → ∀ a2 a3, De.nx [some (.fl .p (W.map lsT)), a1, a2, a3, none]) → (∀ i, badRow m k rs = some i → De.rt (.d (outD (.row i)))) →
    wLoop (gTpD 2 (gConsD (gNm 2) (gConsD (gNm 3) gNilD))) b__law_rows_due_3 De (enumF k (rs.map lsT)) [some (.fl .p (W.map lsT)), a1, a2, a3, none]
  | [], k, a2, a3, _, h, _ => loop_n (h rfl _ _)
  | r :: rs, k, a2, a3, hr, h, hE => by
    rw [List.map_cons]
    unfold enumF
    refine loop_c fun nx hnx => ?_
    have er : lsT r = RT.D.lst (nL r) := rfl
    rw [er]
    have hd : atI (W.map lsT) 0 = some (RT.D.lst (nL (W.headD []))) := headT h0
    have rl := hr r List.mem_cons_self
    walk_at "gs"
    unfold b__law_rows_due_3
    walk_at "gs"
    refine ⟨_, nL_ints r, by rw [List.length_map]; exact rl, _, hd, _, rfl, by rw [nL_length]; omega, by omega, ?_⟩
    rw [srt_nat, nL_length, hm]
    refine ⟨okL _, okL _, ?_⟩
    rw [eqb_lst]
    unfold badRow at h hE
    by_cases c : rowG m r = true
    · rw [if_pos c] at h hE
      refine ifn (by rw [decide_eq_true (sN_range.mpr (rowG_perm.mp c))]; decide) ?_
      exact hnx _ (l_due_rows h0 hm hm2 rs (k + 1) _ _ (fun x hx => hr x (List.mem_cons_of_mem _ hx)) h hE)
    · rw [if_neg c] at h hE
      refine ifp (by rw [decide_eq_false (fun z => c (rowG_perm.mpr (sN_range.mp z)))]; rfl) ?_
      exact ⟨by decide, hE k rfl⟩
theorem l_due_own {a0 a3 : Option M} {os : List (List Nat)} {De : EndW} : ∀ (l pre : List (List Nat)) (a2 a4 : Option M), pre ++ l = os → os.length ≤ 100 → (badOwn pre l = none → ∀ a2 a4, De.nx [a0, some (.fl .p (os.map lsT)), a2, a3, a4]) → (∀ i, badOwn pre l = some i → De.rt (.d (outD (.own i)))) →
    wLoop (gTpD 2 (gConsD (gNm 2) (gConsD (gNm 4) gNilD))) b__law_rows_due_1 De (enumF pre.length (l.map lsT)) [a0, some (.fl .p (os.map lsT)), a2, a3, a4]
  | [], pre, a2, a4, _, _, h, _ => loop_n (h rfl _ _)
  | o :: l, pre, a2, a4, e, hz, h, hE => by
    rw [List.map_cons]
    unfold enumF
    refine loop_c fun nx hnx => ?_
    have er : lsT o = RT.D.lst (nL o) := rfl
    rw [er]
    have ih := fun a2 a4 => l_due_own (De := De) (a0 := a0) (a3 := a3) (os := os) l (pre ++ [o]) a2 a4 (by rw [List.append_assoc]; exact e) hz
    rw [List.length_append, List.length_singleton] at ih
    unfold badOwn at h hE
    walk_at "gs"
    unfold b__law_rows_due_1
    walk_at "gs"
    have ec : cut (os.map lsT) none (some (pre.length : Int)) = pre.map lsT := by
      rw [cut_upto, ← List.map_take, ← e, List.take_left]
    rw [ec]
    have okp : (RT.D.lst (pre.map lsT)).ok := ok_dp (Nat.le_trans (dp_lst (k := 1) (dps_le fun x hx => by
      obtain ⟨r, _, e⟩ := List.mem_map.mp hx
      rw [← e]; exact dp_lst (k := 0) (dp_nL r))) (by decide))
    have e0 : D.eqb (.lst (nL o)) (.lst []) = decide (o = []) := eqb_lst o []
    have eany : ((pre.map lsT).any fun z => z.eqb (.lst (nL o))) = decide (o ∈ pre) := by
      rw [Bool.eq_iff_iff, List.any_eq_true, decide_eq_true_iff]
      constructor
      · rintro ⟨x, hx, hz⟩
        obtain ⟨r, hr, e⟩ := List.mem_map.mp hx
        subst e
        have : decide (r = o) = true := by rw [← eqb_lst]; exact hz
        rw [decide_eq_true_iff] at this
        rw [← this]; exact hr
      · intro hm
        refine ⟨lsT o, List.mem_map.mpr ⟨o, hm, rfl⟩, ?_⟩
        show D.eqb (.lst (nL o)) (.lst (nL o)) = true
        rw [eqb_lst, decide_eq_true rfl]
    refine ⟨by decide, okL o, okL [], ?_⟩
    rw [e0]
    by_cases c : o = []
    · rw [if_neg (fun z => z.1 c)] at h hE
      refine ifn (by rw [decide_eq_true c]; decide) ?_
      exact hnx _ (ih _ _ h hE)
    · refine ifp (by rw [decide_eq_false c]; rfl) ⟨okL o, okp, ?_⟩
      rw [eany]
      by_cases c2 : o ∈ pre
      · rw [if_pos ⟨c, c2⟩] at h hE
        refine ifp (by rw [decide_eq_true c2]) ⟨by decide, hE _ rfl⟩
      · rw [if_neg (fun z => c2 z.2)] at h hE
        refine ifn (by rw [decide_eq_true_iff]; exact c2) ?_
        exact hnx _ (ih _ _ h hE)
theorem x__law_rows_due {W os : List (List Nat)} {Q : M → Prop} {E : XP} (h0 : W ≠ []) (hr : ∀ r ∈ W, r.length < 64) (hz : W.length ≤ 2000) (hl : os.length = W.length) (h : Q (.d (outD (outR W os)))) : T__law_rows_due [.fl .p (W.map lsT), .fl .p (os.map lsT)] Q E := by
  refine ⟨rfl, rfl, ?_⟩
  show w__law_rows_due _ [_, _, _, _, _]
  have hd : atI (W.map lsT) 0 = some (RT.D.lst (nL (W.headD []))) := headT h0
  unfold outR at h
  unfold w__law_rows_due
  walk_at "gs"
  by_cases c1 : 7 < W.length
  · rw [if_pos (.inl c1)] at h
    exact ifp (by rw [decide_eq_true_iff]; omega) ⟨by decide, h⟩
  refine ifn (by rw [decide_eq_true_iff]; omega) ?_
  refine ⟨_, hd, ?_⟩
  refine ⟨_, rfl, ?_⟩
  rw [nL_length]
  generalize hm : (W.headD []).length = m at h
  by_cases c2 : m < W.length
  · rw [if_pos (.inr (.inl c2))] at h
    exact ifp (by rw [decide_eq_true_iff]; omega) ⟨by decide, h⟩
  refine ifn (by rw [decide_eq_true_iff]; omega) ?_
  refine ⟨_, hd, ?_⟩
  refine ⟨_, rfl, ?_⟩
  rw [nL_length, hm]
  by_cases c3 : 8 < m
  · rw [if_pos (.inr (.inr c3))] at h
    exact ifp (by rw [decide_eq_true_iff]; omega) ⟨by decide, h⟩
  refine ifn (by rw [decide_eq_true_iff]; omega) ?_
  rw [if_neg (by omega)] at h
  unfold k__law_rows_due_5
  walk_at "gs"
  rw [enumD_F]
  refine l_due_rows h0 hm (by omega) W 0 _ _ hr (fun e a2 a3 => ?_) (fun i e => by rw [e] at h; exact h)
  rw [e] at h
  have h : Q (.d (outD (match badOwn [] os with | some i => Out.own i | none => .told))) := h
  unfold k__law_rows_due_4
  walk_at "gs"
  rw [enumD_F]
  refine l_due_own os [] _ _ (List.nil_append _) (by omega) (fun e a2 a4 => ?_) (fun i e => by rw [e] at h; exact h)
  rw [e] at h
  unfold k__law_rows_due_2
  walk_at "gs"
  exact ⟨by decide, h⟩
theorem l_due_parts {a0 a1 : Option M} {De : EndW} : ∀ (ps : List Str) (k : Nat) (a2 a3 : Option M), (badPart k ps = none → ∀ a2 a3, De.nx [a0, a1, a2, a3]) → (∀ i, badPart k ps = some i → De.rt (.d (outD (.text i)))) →
    wLoop (gTpD 2 (gConsD (gNm 2) (gConsD (gNm 3) gNilD))) b__law_due_3 De (enumF k (ps.map fun p => partD (partR p))) [a0, a1, a2, a3]
  | [], k, a2, a3, h, _ => loop_n (h rfl _ _)
  | p :: ps, k, a2, a3, h, hE => by
    rw [List.map_cons]
    unfold enumF
    refine loop_c fun nx hnx => ?_
    unfold badPart at h hE
    walk_at "gs"
    unfold b__law_due_3
    cases e : partR p with
    | none =>
      rw [e] at h hE
      rw [show partD none = RT.D.non from rfl]
      walk_at "gs"
      exact ⟨by decide, hE k rfl⟩
    | some g =>
      rw [e] at h hE
      obtain ⟨r, o⟩ := g
      rw [show partD (some (r, o)) = RT.D.tup [.lst (nL r), .lst (nL o)] from rfl]
      walk_at "gs"
      exact hnx _ (l_due_parts ps (k + 1) _ _ h hE)
theorem x__law_due {x : Str} {Q : M → Prop} {E : XP} (tb : TB x) (h : Q (.d (outD (outT x)))) : T__law_due [.d (.str x)] Q E := by
  refine ⟨rfl, rfl, ?_⟩
  show w__law_due _ [_, _, _, _]
  obtain ⟨ta, short⟩ := tb
  have l1 := ta.1
  have few := split_few (y := "; ") ta
  have hp : ∀ p ∈ Txt.split x "; ", TA p := fun p hp => ta.part (y := "; ") (by show ([59, 32] : List Nat) ≠ []; decide) (by decide +kernel) hp
  have nes := split_ne x "; " (by show ([59, 32] : List Nat) ≠ []; decide) (by decide +kernel)
  unfold outT at h
  unfold w__law_due
  walk_at "gs"
  refine ⟨by decide, ?_⟩
  refine ifn (by decide) ?_
  unfold k__law_due_7
  walk_at "gs"
  refine ⟨_, rfl, by decide, by rw [sizeLine_eq]; omega, ?_⟩
  walk_at "gs"
  refine cmp_map (inj := RT.D.str) (f := fun p => partD (partR p)) (fun p hm P hP => ?_) ?_
  · unfold e__law_due_5
    walk_at "gs"
    exact x__law_part (hp p hm) (hP _ rfl)
  unfold k__law_due_6
  walk_at "gs"
  rw [enumD_F]
  refine l_due_parts (Txt.split x "; ") 0 _ _ (fun e a2 a3 => ?_) (fun i e => by rw [e] at h; exact h)
  rw [e] at h
  have gl := gsOf_len 0 _ e
  have gm := fun g hg => gsOf_mem (ps := Txt.split x "; ") (g := g) hg
  have eps : ∀ (k : Nat) (ps : List Str), badPart k ps = none → ps.map (fun p => partD (partR p)) = (gsOf ps).map fun g => RT.D.tup [lsT g.1, lsT g.2] := fun k ps => by
    induction ps generalizing k with
    | nil => intro _; rfl
    | cons p ps ih =>
      intro e
      unfold badPart at e
      cases q : partR p with
      | none => rw [q] at e; cases e
      | some g =>
        rw [q] at e
        unfold gsOf
        rw [List.map_cons, q, List.filterMap_cons, q, List.map_cons]
        have := ih (k + 1) e
        unfold gsOf at this
        rw [this]; rfl
  rw [eps 0 _ e]
  generalize Txt.split x "; " = ps at h gl gm few hp nes short
  have h : Q (.d (outD (outR ((gsOf ps).map (·.1)) ((gsOf ps).map (·.2))))) := h
  have sm : ∀ g ∈ gsOf ps, g.1.length < 64 := fun g hg => by
    obtain ⟨p, h1, h2⟩ := gm g hg
    have := part_few h2
    have := short p h1
    omega
  have g0 : gsOf ps ≠ [] := fun z => by
    rw [z] at gl
    exact nes (List.length_eq_zero_iff.mp gl.symm)
  unfold k__law_due_4
  walk_at "gs"
  refine cmp_map (inj := fun g : List Nat × List Nat => RT.D.tup [lsT g.1, lsT g.2]) (f := fun g => lsT g.1) (fun g hg P hP => ?_) ?_
  · unfold e__law_due_2
    walk_at "gs"
    exact ⟨_, at_0, hP _ rfl⟩
  walk_at "gs"
  refine cmp_map (inj := fun g : List Nat × List Nat => RT.D.tup [lsT g.1, lsT g.2]) (f := fun g => lsT g.2) (fun g hg P hP => ?_) ?_
  · unfold e__law_due_1
    walk_at "gs"
    exact ⟨_, at_1, hP _ rfl⟩
  walk_at "gs"
  have e1 : ((gsOf ps).map fun g => lsT g.1) = ((gsOf ps).map (·.1)).map lsT := by rw [List.map_map]; rfl
  have e2 : ((gsOf ps).map fun g => lsT g.2) = ((gsOf ps).map (·.2)).map lsT := by rw [List.map_map]; rfl
  rw [e1, e2]
  refine x__law_rows_due (fun z => g0 (List.map_eq_nil_iff.mp z)) (fun r hr => ?_) (by rw [List.length_map]; omega) (by rw [List.length_map, List.length_map]) ⟨rfl, h⟩
  obtain ⟨g, hg, e⟩ := List.mem_map.mp hr
  rw [← e]; exact sm g hg
/-! ### what was raised is told -/
theorem x__law_kinds {o : Out} {v : XV} {Q : M → Prop} {E : XP} (e : outX o = some v) (h : Q (.fl .o [outD o])) : T__law_kinds [.d (.exc v.cls (v.fs.map (·.1)) (v.fs.map (·.2)))] Q E := by
  refine ⟨rfl, rfl, ?_⟩
  show w__law_kinds _ [_, _]
  cases o with
  | told => cases e
  | text i =>
    cases e
    unfold w__law_kinds
    walk_at "gs"
    unfold k__law_kinds_6
    walk_at "gs"
    refine ⟨by decide, _, rfl, ?_⟩
    walk_at "gs"
    refine ⟨by decide, _, rfl, by decide, by decide, ?_⟩
    unfold k__law_kinds_5
    walk_at "gs"
    refine ⟨_, rfl, ?_⟩
    walk_at "gs"
    unfold k__law_kinds_4
    walk_at "gs"
    refine ⟨_, rfl, ?_⟩
    walk_at "gs"
    unfold k__law_kinds_3
    walk_at "gs"
    refine ⟨_, rfl, ?_⟩
    walk_at "gs"
    unfold k__law_kinds_2
    walk_at "gs"
    refine ⟨_, rfl, ?_⟩
    walk_at "gs"
    unfold k__law_kinds_1
    walk_at "gs"
    exact h
  | many =>
    cases e
    unfold w__law_kinds
    walk_at "gs"
    unfold k__law_kinds_6
    walk_at "gs"
    refine ⟨by decide, _, rfl, ?_⟩
    walk_at "gs"
    unfold k__law_kinds_5
    walk_at "gs"
    refine ⟨_, rfl, ?_⟩
    walk_at "gs"
    refine ⟨by decide, by decide, ?_⟩
    unfold k__law_kinds_4
    walk_at "gs"
    refine ⟨_, rfl, ?_⟩
    walk_at "gs"
    unfold k__law_kinds_3
    walk_at "gs"
    refine ⟨_, rfl, ?_⟩
    walk_at "gs"
    unfold k__law_kinds_2
    walk_at "gs"
    refine ⟨_, rfl, ?_⟩
    walk_at "gs"
    unfold k__law_kinds_1
    walk_at "gs"
    exact h
  | row i =>
    cases e
    unfold w__law_kinds
    walk_at "gs"
    unfold k__law_kinds_6
    walk_at "gs"
    refine ⟨by decide, _, rfl, ?_⟩
    walk_at "gs"
    unfold k__law_kinds_5
    walk_at "gs"
    refine ⟨_, rfl, ?_⟩
    walk_at "gs"
    unfold k__law_kinds_4
    walk_at "gs"
    refine ⟨_, rfl, ?_⟩
    walk_at "gs"
    refine ⟨by decide, _, rfl, by decide, by decide, ?_⟩
    unfold k__law_kinds_3
    walk_at "gs"
    refine ⟨_, rfl, ?_⟩
    walk_at "gs"
    unfold k__law_kinds_2
    walk_at "gs"
    refine ⟨_, rfl, ?_⟩
    walk_at "gs"
    unfold k__law_kinds_1
    walk_at "gs"
    exact h
  | own i =>
    cases e
    unfold w__law_kinds
    walk_at "gs"
    unfold k__law_kinds_6
    walk_at "gs"
    refine ⟨by decide, _, rfl, ?_⟩
    walk_at "gs"
    unfold k__law_kinds_5
    walk_at "gs"
    refine ⟨_, rfl, ?_⟩
    walk_at "gs"
    unfold k__law_kinds_4
    walk_at "gs"
    refine ⟨_, rfl, ?_⟩
    walk_at "gs"
    unfold k__law_kinds_3
    walk_at "gs"
    refine ⟨_, rfl, ?_⟩
    walk_at "gs"
    refine ⟨by decide, _, rfl, by decide, by decide, ?_⟩
    unfold k__law_kinds_2
    walk_at "gs"
    refine ⟨_, rfl, ?_⟩
    walk_at "gs"
    unfold k__law_kinds_1
    walk_at "gs"
    exact h
theorem cut_to (w : Str) (i : Nat) : TL.tl (cutS w none (some (i : Int))) = (TL.tl w).take i := by
  unfold cutS
  have e1 : HT.sIx w.length w.length (some (i : Int)) = min i w.length := HT.sIx_nat _ _ i
  rw [e1, HT.sIx_none, List.drop_zero, TL.tl_mk]
  have hl := TL.len_tl w
  show (TL.tl w).take _ = _
  by_cases c : i ≤ w.length
  · rw [Nat.min_eq_left c]; rfl
  · rw [Nat.min_eq_right (by omega), Nat.sub_zero, List.take_of_length_le (by omega), List.take_of_length_le (by omega)]
theorem cut_from (w : Str) (i : Nat) : TL.tl (cutS w (some (i : Int)) none) = (TL.tl w).drop i := by
  unfold cutS
  have e1 : HT.sIx w.length 0 (some (i : Int)) = min i w.length := HT.sIx_nat _ _ i
  rw [e1, HT.sIx_none, TL.tl_mk]
  have hl := TL.len_tl w
  show ((TL.tl w).drop _).take _ = _
  by_cases c : i ≤ w.length
  · rw [Nat.min_eq_left c]
    exact List.take_of_length_le (by rw [List.length_drop]; omega)
  · rw [Nat.min_eq_right (by omega), Nat.sub_self, List.take_zero, List.drop_eq_nil_of_le (by omega)]
/-- k signs or fewer, all plain -/
def TC (k : Nat) (x : Str) : Prop := x.length ≤ k ∧ ∀ c ∈ TL.tl x, c < 256
theorem TC.tb {k : Nat} {x : Str} (h : TC k x) (hk : k ≤ 60) : TB x := by
  refine ⟨⟨by have := h.1; omega, h.2⟩, fun p hp => ?_⟩
  have e := TL.split_spl x "; " (by show ([59, 32] : List Nat) ≠ []; decide) (TL.kind_ok (by decide +kernel))
  have hm : TL.tl p ∈ TL.spl (TL.tl "; ") 0 [] (TL.tl x) := by rw [← e]; exact List.mem_map.mpr ⟨p, hp, rfl⟩
  obtain ⟨h1, _⟩ := spl_mem _ _ _ _ hm
  have l1 := TL.len_tl p
  have l2 := TL.len_tl x
  have := h.1
  rw [List.length_nil] at h1
  omega
theorem TB.long {x : Str} (h : x.length ≤ 1000) (h2 : (TL.tl x).all (· < 256) = true) (h3 : (TL.spl (TL.tl "; ") 0 [] (TL.tl x)).all (·.length ≤ 60) = true) : TB x := by
  refine ⟨⟨h, fun c hc => by have := List.all_eq_true.mp h2 c hc; exact of_decide_eq_true this⟩, fun p hp => ?_⟩
  have e := TL.split_spl x "; " (by show ([59, 32] : List Nat) ≠ []; decide) (TL.kind_ok (by decide +kernel))
  have hm : TL.tl p ∈ TL.spl (TL.tl "; ") 0 [] (TL.tl x) := by rw [← e]; exact List.mem_map.mpr ⟨p, hp, rfl⟩
  have := List.all_eq_true.mp h3 _ hm
  rw [TL.len_tl]
  exact of_decide_eq_true this
theorem x__law_changed {k : Nat} {x : Str} {c : Nat} {Q : M → Prop} {E : XP} (tc : TC k x) (hk : k ≤ 100) (h : ∀ y, TC (k + 1) y → Q (.d (.str y))) : T__law_changed [.d (.str x), .d (nD c)] Q E := by
  refine ⟨rfl, rfl, ?_⟩
  show w__law_changed _ [_, _, _, _, _]
  have sz := sizeLine_eq
  have hl := tc.1
  unfold w__law_changed
  walk_at "gs"
  unfold k__law_changed_4
  walk_at "gs"
  have key : ∀ z : Str, 0 < z.length → z.length ≤ 1000 → (TL.tl z).all (· < 256) = true → k__law_changed_3 { nx := fun _ => Q (.d .non), rt := Q, bk := fun _ => False, ct := fun _ => False, ex := fun _ => E } [some (.d (.str x)), some (.d (nD c)), some (.d (.str z)), none, none] := fun z h0 h1 h2 => by
    unfold k__law_changed_3
    walk_at "gs"
    refine ⟨⟨by decide, by decide⟩, _, if_pos (by omega), by omega, ?_⟩
    have ha : c / 6 % (x.length + 1) ≤ x.length := Nat.le_of_lt_succ (Nat.mod_lt _ (by omega))
    generalize c / 6 % (x.length + 1) = a at ha
    unfold k__law_changed_2
    walk_at "gs"
    refine ⟨⟨by decide, by decide⟩, _, if_pos (by omega), by omega, by omega, ?_⟩
    have hb : c / 600 % z.length < z.length := Nat.mod_lt _ h0
    generalize c / 600 % z.length = b at hb
    have zl := TL.len_tl z
    have hb2 : b < (TL.tl z).length := by omega
    have ea : atI z.cps.toList (b : Int) = some ((TL.tl z)[b]) := by
      show atI (TL.tl z) _ = _
      unfold atI ixN
      rw [if_pos (by omega), if_pos (by omega)]
      show (TL.tl z)[(b : Int).toNat]? = _
      rw [Int.toNat_natCast]
      exact List.getElem?_eq_getElem hb2
    refine ⟨_, ea, ?_⟩
    have hc := List.all_eq_true.mp h2 _ (List.getElem_mem hb2)
    generalize (TL.tl z)[b] = d at hc
    have hd : d < 256 := of_decide_eq_true hc
    unfold k__law_changed_1
    walk_at "gs"
    have xl := TL.len_tl x
    have la : (cutS x none (some (a : Int))).length = a := by rw [TL.len_tl, cut_to, List.length_take]; omega
    have lb : ∀ i : Nat, (cutS x (some (i : Int)) none).length = x.length - i := fun i => by rw [TL.len_tl, cut_from, List.length_drop]; omega
    have lap : ∀ u v : Str, (u ++ v).length = u.length + v.length := fun u v => by rw [TL.len_tl, TL.tl_append, List.length_append, ← TL.len_tl, ← TL.len_tl]
    have ld : (⟨#[d]⟩ : Str).length = 1 := rfl
    have ma : ∀ c ∈ TL.tl (cutS x none (some (a : Int))), c < 256 := fun c hc => by rw [cut_to] at hc; exact tc.2 c (List.mem_of_mem_take hc)
    have mb : ∀ (i : Nat), ∀ c ∈ TL.tl (cutS x (some (i : Int)) none), c < 256 := fun i c hc => by rw [cut_from] at hc; exact tc.2 c (List.mem_of_mem_drop hc)
    have md : ∀ c ∈ TL.tl (⟨#[d]⟩ : Str), c < 256 := fun c hc => by rw [List.mem_singleton.mp (show c ∈ [d] from hc)]; exact hd
    have map : ∀ u v : Str, (∀ c ∈ TL.tl u, c < 256) → (∀ c ∈ TL.tl v, c < 256) → ∀ c ∈ TL.tl (u ++ v), c < 256 := fun u v h1 h2 c hc => by
      rw [TL.tl_append] at hc
      exact (List.mem_append.mp hc).elim (h1 c) (h2 c)
    have la' := lb a
    have la1 := lb (a + 1)
    refine ⟨by omega, by omega, by omega, by rw [lap]; omega, by omega, by omega, by omega, by omega, by omega, by omega, by rw [lap]; omega, by decide, ⟨by decide, by decide⟩, by decide, ?_⟩
    have h1 := h (cutS x none (some (a : Int)) ++ ⟨#[d]⟩ ++ cutS x (some (a : Int)) none) ⟨by rw [lap, lap]; omega, map _ _ (map _ _ ma md) (mb _)⟩
    have h2 := h (cutS x none (some (a : Int)) ++ cutS x (some ((a + 1 : Nat) : Int)) none) ⟨by rw [lap]; omega, map _ _ ma (mb _)⟩
    have h3 := h (cutS x none (some (a : Int)) ++ ⟨#[d]⟩ ++ cutS x (some ((a + 1 : Nat) : Int)) none) ⟨by rw [lap, lap]; omega, map _ _ (map _ _ ma md) (mb _)⟩
    have h3l := Nat.mod_lt (c / 2) (show 0 < 3 by decide)
    generalize c / 2 % 3 = j at h3l
    have : j = 0 ∨ j = 1 ∨ j = 2 := by omega
    rcases this with rfl | rfl | rfl
    · exact ⟨_, at_0, h1⟩
    · exact ⟨_, at_1, h2⟩
    · exact ⟨_, rfl, h3⟩
  refine ⟨by decide, ok_int _, ok_int _, ?_⟩
  by_cases cc : c % 2 = 0
  · exact ifp (by rw [decide_eq_true cc]) (key _ (by decide) (by decide) (by decide +kernel))
  · exact ifn (by rw [decide_eq_true_iff]; exact cc) (key _ (by decide) (by decide) (by decide +kernel))
def oddL : List RT.D := (["", " ", "A", "A*", "A**", "*", "A *", "a", "A B; A B; A B", "A B;A B", "A B ; A B", "A B;  A B", "A B; ", "; A B", "A  B", "A* B*", "A* B; A* B", "B A; A", "A B; A C", "A A; A B", "A,B", "A B\\; A B", "I", "A B C D E F G H; H G F E D C B A*"] : List Str).map RT.D.str ++ [.non, .int 7, .lst [.str "A"], .bl true, .str (Txt.join "; " (List.replicate 8 "A B C D E F G H")), .str "A B C D E F G H A", .str (Txt.join "; " (List.replicate 7 "A B C D E F G"))]
theorem x__law_odd {c : Nat} {Q : M → Prop} {E : XP} (h : ∀ v ∈ oddL, Q (.d v)) : T__law_odd [.d (nD c)] Q E := by
  refine ⟨rfl, rfl, ?_⟩
  show w__law_odd _ [_, _]
  unfold w__law_odd
  walk_at "gs"
  unfold k__law_odd_4
  walk_at "gs"
  unfold k__law_odd_3
  walk_at "gs"
  unfold k__law_odd_2
  walk_at "gs"
  refine ⟨by decide, by decide, by rw [sizeLine_eq]; decide, by decide, by decide, _, rfl, by rw [sizeLine_eq]; decide, by decide, ?_⟩
  unfold wRep
  walk_at "gs"
  refine ⟨by decide, by decide, by decide, ?_⟩
  have e8 : (List.replicate (Int.toNat 8) [RT.D.str ("A B C D E F G H" : Str)]).flatten = (List.replicate 8 ("A B C D E F G H" : Str)).map RT.D.str := rfl
  have e7 : (List.replicate (Int.toNat 7) [RT.D.str ("A B C D E F G" : Str)]).flatten = (List.replicate 7 ("A B C D E F G" : Str)).map RT.D.str := rfl
  rw [e8, e7]
  refine ⟨_, rfl, _, strsD_map _, by decide +kernel, ?_⟩
  walk_at "gs"
  refine ⟨by decide, by decide, by decide, by decide, ?_⟩
  refine ⟨_, rfl, _, strsD_map _, by decide +kernel, ?_⟩
  walk_at "gs"
  refine ⟨by decide, ?_⟩
  refine ⟨by rw [sizeLine_eq]; decide, ?_⟩
  have key : ∀ l : List RT.D, l.length = 31 → (∀ v ∈ l, Q (.d v)) → k__law_odd_1 { nx := fun _ => Q (.d .non), rt := Q, bk := fun _ => False, ct := fun _ => False, ex := fun _ => E } [some (.d (nD c)), some (.fl .o l)] := fun l hl h => by
    unfold k__law_odd_1
    walk_at "gs"
    rw [hl]
    refine ⟨by decide, ?_⟩
    have hb : c % 31 < l.length := by rw [hl]; exact Nat.mod_lt _ (by decide)
    exact ⟨_, atI_nat (List.getElem?_eq_getElem hb), h _ (List.getElem_mem hb)⟩
  exact key oddL rfl h
/-! ### the law -/
def outV : RT.D → Out
  | .str x => outT x
  | _ => .text (-1)
def GoodV (v : RT.D) : Prop := (∃ x, v = .str x ∧ TB x) ∨ v ∈ [RT.D.non, .int 7, .lst [.str "A"], .bl true]
theorem read_odd {v : RT.D} {Q : M → Prop} {E : XP} (hv : v ∈ [RT.D.non, .int 7, .lst [.str "A"], .bl true]) (hE : E ⟨"NoText", [("at", .int (-1))]⟩) : T_rows_read [.d v] Q E := by
  refine ⟨rfl, rfl, ?_⟩
  show w_rows_read _ [_, _, _, _, _, _, _, _]
  have hv : v = .non ∨ v = .int 7 ∨ v = .lst [.str "A"] ∨ v = .bl true := by simpa using hv
  rcases hv with rfl | rfl | rfl | rfl
  · unfold w_rows_read
    walk_at "gs"
    refine ⟨by decide, ?_⟩
    refine ifp (by decide) ?_
    exact hE
  · unfold w_rows_read
    walk_at "gs"
    refine ⟨by decide, ?_⟩
    refine ifp (by decide) ?_
    exact hE
  · unfold w_rows_read
    walk_at "gs"
    refine ⟨by decide, ?_⟩
    refine ifp (by decide) ?_
    exact hE
  · unfold w_rows_read
    walk_at "gs"
    refine ⟨by decide, ?_⟩
    refine ifp (by decide) ?_
    exact hE
theorem due_odd {v : RT.D} {Q : M → Prop} {E : XP} (hv : v ∈ [RT.D.non, .int 7, .lst [.str "A"], .bl true]) (h : Q (.d (outD (.text (-1))))) : T__law_due [.d v] Q E := by
  refine ⟨rfl, rfl, ?_⟩
  show w__law_due _ [_, _, _, _]
  have hv : v = .non ∨ v = .int 7 ∨ v = .lst [.str "A"] ∨ v = .bl true := by simpa using hv
  rcases hv with rfl | rfl | rfl | rfl
  · unfold w__law_due
    walk_at "gs"
    refine ⟨by decide, ?_⟩
    refine ifp (by decide) ?_
    exact ⟨by decide, h⟩
  · unfold w__law_due
    walk_at "gs"
    refine ⟨by decide, ?_⟩
    refine ifp (by decide) ?_
    exact ⟨by decide, h⟩
  · unfold w__law_due
    walk_at "gs"
    refine ⟨by decide, ?_⟩
    refine ifp (by decide) ?_
    exact ⟨by decide, h⟩
  · unfold w__law_due
    walk_at "gs"
    refine ⟨by decide, ?_⟩
    refine ifp (by decide) ?_
    exact ⟨by decide, h⟩
theorem outV_odd {v : RT.D} (hv : v ∈ [RT.D.non, .int 7, .lst [.str "A"], .bl true]) : outV v = .text (-1) := by
  have hv : v = .non ∨ v = .int 7 ∨ v = .lst [.str "A"] ∨ v = .bl true := by simpa using hv
  rcases hv with rfl | rfl | rfl | rfl <;> rfl
theorem x_read {v : RT.D} {Q : M → Prop} {E : XP} (g : GoodV v) (h : outV v = .told → ∀ y, Q (.d y)) (hE : ∀ x, outX (outV v) = some x → E x) : T_rows_read [.d v] Q E := by
  rcases g with ⟨x, rfl, tb⟩ | g
  · exact x_rows_read tb.1 h hE
  · exact read_odd g (hE _ (by rw [outV_odd g]; rfl))
theorem x_due {v : RT.D} {Q : M → Prop} {E : XP} (g : GoodV v) (h : Q (.d (outD (outV v)))) : T__law_due [.d v] Q E := by
  rcases g with ⟨x, rfl, tb⟩ | g
  · exact x__law_due tb h
  · exact due_odd g (by rw [outV_odd g] at h; exact h)
theorem odd_good : ∀ v ∈ oddL, GoodV v := by
  have st : ∀ x : Str, TB x → GoodV (.str x) := fun x h => .inl ⟨x, rfl, h⟩
  have sh : ∀ x : Str, x.length ≤ 60 → (TL.tl x).all (· < 256) = true → GoodV (.str x) := fun x h1 h2 => st x (TC.tb (k := 60) ⟨h1, fun c hc => of_decide_eq_true (List.all_eq_true.mp h2 c hc)⟩ (Nat.le_refl _))
  intro v hv
  unfold oddL at hv
  rcases List.mem_append.mp hv with hv | hv
  · obtain ⟨x, hx, e⟩ := List.mem_map.mp hv
    subst e
    have := List.all_eq_true.mp (show ((["", " ", "A", "A*", "A**", "*", "A *", "a", "A B; A B; A B", "A B;A B", "A B ; A B", "A B;  A B", "A B; ", "; A B", "A  B", "A* B*", "A* B; A* B", "B A; A", "A B; A C", "A A; A B", "A,B", "A B\\; A B", "I", "A B C D E F G H; H G F E D C B A*"] : List Str).all fun x => decide (x.length ≤ 60) && (TL.tl x).all (· < 256)) = true from by decide +kernel) x hx
    rw [Bool.and_eq_true] at this
    exact sh x (of_decide_eq_true this.1) this.2
  · rcases List.mem_cons.mp hv with e | hv
    · exact .inr (by rw [e]; simp)
    rcases List.mem_cons.mp hv with e | hv
    · exact .inr (by rw [e]; simp)
    rcases List.mem_cons.mp hv with e | hv
    · exact .inr (by rw [e]; simp)
    rcases List.mem_cons.mp hv with e | hv
    · exact .inr (by rw [e]; simp)
    rcases List.mem_cons.mp hv with e | hv
    · rw [e]; exact st _ (TB.long (by decide +kernel) (by decide +kernel) (by decide +kernel))
    rcases List.mem_cons.mp hv with e | hv
    · rw [e]; exact st _ (TB.long (by decide +kernel) (by decide +kernel) (by decide +kernel))
    rcases List.mem_cons.mp hv with e | hv
    · rw [e]; exact st _ (TB.long (by decide +kernel) (by decide +kernel) (by decide +kernel))
    cases hv
theorem ok_outD (o : Out) : (RT.D.lst [outD o]).ok := by
  have ds : ∀ (w : Str) (d : RT.D), TOk w → d.dp ≤ 1 → (RT.D.lst [.tup [.str w, d]]).ok := fun w d hw hd => by
    refine ok_dp (Nat.le_trans (dp_lst (k := 2) (dps_le fun x hx => ?_)) (by decide))
    rw [List.mem_singleton.mp hx]
    refine dp_tup (k := 1) (dps_le fun y hy => ?_)
    rcases List.mem_cons.mp hy with e | hy
    · rw [e, dp_str hw]; decide
    · rw [List.mem_singleton.mp hy]; exact hd
  have tk : ∀ w : Str, (TL.tl w).all (· < 256) = true → TOk w := fun w h c hc => Nat.lt_trans (of_decide_eq_true (List.all_eq_true.mp h c hc)) (by decide)
  cases o with
  | told => exact ds _ _ (tk _ (by decide +kernel)) (by decide)
  | text i => exact ds _ _ (tk _ (by decide +kernel)) (Nat.zero_le _)
  | many => exact ds _ _ (tk _ (by decide +kernel)) (by decide)
  | row i => exact ds _ _ (tk _ (by decide +kernel)) (Nat.zero_le _)
  | own i => exact ds _ _ (tk _ (by decide +kernel)) (Nat.zero_le _)
theorem turn5 {De : EndW} {a0 a1 a2 a3 a5 a6 a7 : Option M} {v : RT.D} (g : GoodV v) (h : ∀ a7, De.nx [a0, a1, a2, a3, some (.d v), a5, a6, a7, none]) : b_law_5 De [a0, a1, a2, a3, some (.d v), a5, a6, a7, none] := by
  unfold b_law_5
  walk_at "gs"
  have fin : k_law_3 De [a0, a1, a2, a3, some (.d v), a5, a6, some (.fl .o [outD (outV v)]), none] := by
    unfold k_law_3
    walk_at "gs"
    refine x_due g ?_
    walk_at "gs"
    refine ⟨by decide, ok_outD _, ok_outD _, ?_⟩
    rw [eqb_self (ok_outD _)]
    refine ifn (by decide) ?_
    exact h _
  unfold k_law_4
  walk_at "gs"
  refine ⟨by decide, by decide, ?_⟩
  unfold b_law_1
  walk_at "gs"
  refine x_read g (fun e y => ?_) fun x e => ?_
  · rw [e] at fin
    exact fin
  · obtain ⟨c, fs⟩ := x
    have hc : ([("TooMany", true), ("NoOwn", true), ("NoText", true), ("NoRow", true)] : List (Str × Bool)).lookup c = some true := by
      revert e
      cases outV v <;> intro e <;> cases e <;> rfl
    refine catW_t hc rfl ?_
    unfold u_law_2
    walk_at "gs"
    have e2 : outX (outV v) = some ⟨c, fs⟩ := e
    refine x__law_kinds (v := ⟨c, fs⟩) e2 ?_
    walk_at "gs"
    exact fin
theorem l_changed {ns : List Int} {a1 a2 a3 a6 a7 a8 : Option M} {De : EndW} : ∀ (N i k : Nat) (x : Str) (a5 : Option M), TC k x → k + N ≤ 60 → i + N ≤ 100 → (∀ y a5, TC (k + N) y → De.nx [some (.d (.scr (ns.map .int))), a1, a2, a3, some (.d (.str y)), a5, a6, a7, a8]) →
    wLoop (gNm 5) b_law_8 De (nL ((List.range' i N))) [some (.d (.scr (ns.map .int))), a1, a2, a3, some (.d (.str x)), a5, a6, a7, a8]
  | 0, i, k, x, a5, tc, _, _, h => loop_n (h x _ tc)
  | N + 1, i, k, x, a5, tc, hk, hi, h => by
    rw [List.range'_succ]
    refine loop_c fun nx hnx => ?_
    walk_at "gs"
    unfold b_law_8
    walk_at "gs"
    refine x__law_cell (k := 4 + i) (by omega) ?_
    walk_at "gs"
    refine x__law_changed tc (by omega) fun y ty => ?_
    walk_at "gs"
    exact hnx _ (l_changed N (i + 1) (k + 1) y _ ty (by omega) (by omega) fun y a5 hy => h y a5 (by rw [show k + (N + 1) = k + 1 + N by omega]; exact hy))
theorem rows_small {W : List (List Nat)} {ow : List (Option Nat)} {n m : Nat} (R : Rows W n m) (hn : n ≤ 3) (hm : m ≤ 4) : TC 42 (rowsT W ow) := by
  refine ⟨?_, fun c h => ?_⟩
  · have h := join_len "; " (W.zipWith rowT ow)
    have hl : (W.zipWith rowT ow).length ≤ 3 := by rw [List.length_zipWith, R.len]; omega
    have hs : ((W.zipWith rowT ow).map (·.length)).sum ≤ (W.zipWith rowT ow).length * 12 := sum_len fun y hy => by
      rw [← List.map_uncurry_zip_eq_zipWith] at hy
      obtain ⟨q, hq, e⟩ := List.mem_map.mp hy
      subst e
      have h1 := rowT_len (r := q.1) (o := q.2)
      have h2 := (R.mem (List.of_mem_zip hq).1).length_eq
      rw [List.length_range] at h2
      show (rowT q.1 q.2).length ≤ 12
      omega
    have e2 : ("; " : Str).length = 2 := rfl
    show (rowsT W ow).length ≤ 42
    unfold rowsT
    rw [e2] at h
    omega
  · rcases join_mem h with h | ⟨p, hp, h⟩
    · have : c = 59 ∨ c = 32 := by simpa [show TL.tl ("; " : Str) = [59, 32] from rfl] using h
      omega
    · rw [← List.map_uncurry_zip_eq_zipWith] at hp
      obtain ⟨q, hq, e⟩ := List.mem_map.mp hp
      subst e
      have hr : ∀ t ∈ q.1, t < m := fun t ht => List.mem_range.mp ((R.mem (List.of_mem_zip hq).1).subset ht)
      have h : c ∈ TL.tl (rowT q.1 q.2) := h
      rcases join_mem h with h | ⟨p, hp, h⟩
      · have : c = 32 := by simpa [show TL.tl (" " : Str) = [32] from rfl] using h
        omega
      · obtain ⟨t, ht, e⟩ := List.mem_map.mp hp
        subst e
        have := hr t ht
        rcases word_mem h with h | h <;> omega
theorem m_law : ∀ ns : List Int, ns.length ≤ 63 → tOf 1 9 w_law [.d (.scr (ns.map .int))] (· = .d (.bl true)) (fun _ => False) := fun ns hl => by
  refine ⟨rfl, rfl, ?_⟩
  show w_law _ [_, _, _, _, _, _, _, _, _]
  unfold w_law
  walk_at "gs"
  refine x__law_cell (k := 1) (by decide) ?_
  generalize cellN ns 1 = c
  walk_at "gs"
  unfold k_law_13
  walk_at "gs"
  refine ⟨by decide, ?_⟩
  have h0 : 0 < 1 + c % 3 := by omega
  have h2 : 1 + c % 3 ≤ 3 := by omega
  generalize 1 + c % 3 = n at h0 h2
  unfold k_law_12
  walk_at "gs"
  rw [subR (show n ≤ 5 by omega)]
  walk_at "gs"
  have hm1 : c / 3 % (5 - n) < 5 - n := Nat.mod_lt _ (by omega)
  refine ⟨⟨by decide, by decide⟩, by omega, ?_⟩
  have h3 : n + c / 3 % (5 - n) ≤ 4 := by omega
  have hnm : n ≤ n + c / 3 % (5 - n) := by omega
  generalize n + c / 3 % (5 - n) = m at h3 hnm
  unfold k_law_11
  walk_at "gs"
  refine x__law_wishes (at_ := 8) (by decide) (by omega) (by omega) fun W R => ?_
  walk_at "gs"
  refine x__law_cell (k := 2) (by decide) ?_
  walk_at "gs"
  refine x__law_owns (by omega) (by omega) (cell_lt _ _) fun ow O => ?_
  walk_at "gs"
  refine x__law_text R O (by omega) (by omega) ?_
  walk_at "gs"
  have tc := rows_small (ow := ow) R (by omega) h3
  generalize rowsT W ow = x at tc
  have fin : ∀ (v : RT.D) (a5 : Option M), GoodV v → k_law_7 { nx := fun _ => (M.d .non) = .d (.bl true), rt := (· = .d (.bl true)), bk := fun _ => False, ct := fun _ => False, ex := fun _ _ => False } [some (.d (.scr (ns.map .int))), some (.d (nD c)), some (.d (nD n)), some (.d (nD m)), some (.d v), a5, none, none, none] := fun v a5 g => by
    unfold k_law_7
    walk_at "gs"
    refine ⟨by decide, by decide, ?_⟩
    rw [show nL (List.range (Int.toNat 2)) = [nD 0, nD 1] from rfl]
    refine loop_c fun nx hnx => ?_
    walk_at "gs"
    refine turn5 g fun a7 => hnx _ ?_
    refine loop_c fun nx2 hnx2 => ?_
    walk_at "gs"
    refine turn5 g fun a7 => hnx2 _ ?_
    refine loop_n ?_
    unfold k_law_6
    walk_at "gs"
    try rfl
  unfold k_law_10
  walk_at "gs"
  have h4 : c / 36 % 4 < 4 := Nat.mod_lt _ (by decide)
  generalize c / 36 % 4 = N at h4
  refine ⟨⟨by decide, by decide⟩, by decide, by omega, by omega, ?_⟩
  rw [List.range_eq_range']
  refine l_changed N 0 42 x _ tc (by omega) (by omega) fun y a5 ty => ?_
  unfold k_law_9
  walk_at "gs"
  have gy : GoodV (.str y) := .inl ⟨y, rfl, ty.tb (by omega)⟩
  refine ⟨⟨by decide, by decide⟩, by decide, ok_int _, ok_int _, ?_⟩
  by_cases cc : c / 144 % 3 = 0
  · refine ifp (by rw [decide_eq_true cc]) ?_
    refine x__law_cell (k := 3) (by decide) ?_
    walk_at "gs"
    refine x__law_odd fun v hv => ?_
    walk_at "gs"
    exact fin v a5 (odd_good v hv)
  · refine ifn (by rw [decide_eq_true_iff]; exact cc) ?_
    exact fin _ a5 gy
end G
namespace G
open PySem PySem.Spec PyProof.Rows L2 RT
def top (i : Nat) : Stmt := PySem.Challenge.pw_ringtrade_k05_texts_refused.main.body.getD i (.Pass ⟨0, 0, 0, 0⟩)
def clB : Stmt → List Stmt
  | .ClassDef _ _ _ b _ _ _ _ _ _ _ => b
  | _ => []
def mth (i j : Nat) : Stmt := (clB (top i)).getD j (.Pass ⟨0, 0, 0, 0⟩)
def d_is_below : He.DefD := ⟨("is_below", none), "is_below", "is_below", defArgs (top 9), defBody (top 9), defScope (top 9), [], []⟩
def d_is_row : He.DefD := ⟨("is_row", none), "is_row", "is_row", defArgs (top 10), defBody (top 10), defScope (top 10), [], []⟩
def d_wishes_of : He.DefD := ⟨("wishes_of", none), "wishes_of", "wishes_of", defArgs (top 11), defBody (top 11), defScope (top 11), [], []⟩
def d_things_in : He.DefD := ⟨("things_in", none), "things_in", "things_in", defArgs (top 12), defBody (top 12), defScope (top 12), [], []⟩
def d_owns_of : He.DefD := ⟨("owns_of", none), "owns_of", "owns_of", defArgs (top 13), defBody (top 13), defScope (top 13), [], []⟩
def d_row_read : He.DefD := ⟨("row_read", none), "row_read", "row_read", defArgs (top 17), defBody (top 17), defScope (top 17), [], []⟩
def d_rows_read : He.DefD := ⟨("rows_read", none), "rows_read", "rows_read", defArgs (top 18), defBody (top 18), defScope (top 18), [], []⟩
def d__law_cell : He.DefD := ⟨("_law_cell", none), "_law_cell", "_law_cell", defArgs (top 20), defBody (top 20), defScope (top 20), [], []⟩
def d__law_row : He.DefD := ⟨("_law_row", none), "_law_row", "_law_row", defArgs (top 21), defBody (top 21), defScope (top 21), [], []⟩
def d__law_wishes : He.DefD := ⟨("_law_wishes", none), "_law_wishes", "_law_wishes", defArgs (top 22), defBody (top 22), defScope (top 22), [], []⟩
def d__law_owns : He.DefD := ⟨("_law_owns", none), "_law_owns", "_law_owns", defArgs (top 23), defBody (top 23), defScope (top 23), [], []⟩
def d__law_text : He.DefD := ⟨("_law_text", none), "_law_text", "_law_text", defArgs (top 24), defBody (top 24), defScope (top 24), [], []⟩
def d__law_changed : He.DefD := ⟨("_law_changed", none), "_law_changed", "_law_changed", defArgs (top 25), defBody (top 25), defScope (top 25), [], []⟩
def d__law_odd : He.DefD := ⟨("_law_odd", none), "_law_odd", "_law_odd", defArgs (top 26), defBody (top 26), defScope (top 26), [], []⟩
def d__law_part : He.DefD := ⟨("_law_part", none), "_law_part", "_law_part", defArgs (top 27), defBody (top 27), defScope (top 27), [], []⟩
def d__law_rows_due : He.DefD := ⟨("_law_rows_due", none), "_law_rows_due", "_law_rows_due", defArgs (top 28), defBody (top 28), defScope (top 28), [], []⟩
def d__law_due : He.DefD := ⟨("_law_due", none), "_law_due", "_law_due", defArgs (top 29), defBody (top 29), defScope (top 29), [], []⟩
def d__law_kinds : He.DefD := ⟨("_law_kinds", none), "_law_kinds", "_law_kinds", defArgs (top 30), defBody (top 30), defScope (top 30), [], []⟩
def d_law : He.DefD := ⟨("law", none), "law", "law", defArgs (top 31), defBody (top 31), defScope (top 31), [], []⟩
def di_NoOwn : He.DefD := ⟨("NoOwn", some ("__init__" : Str)), "__init__", "NoOwn.__init__", defArgs (mth 4 0), defBody (mth 4 0), defScope (mth 4 0), [], []⟩
def di_NoText : He.DefD := ⟨("NoText", some ("__init__" : Str)), "__init__", "NoText.__init__", defArgs (mth 5 0), defBody (mth 5 0), defScope (mth 5 0), [], []⟩
def di_NoRow : He.DefD := ⟨("NoRow", some ("__init__" : Str)), "__init__", "NoRow.__init__", defArgs (mth 3 0), defBody (mth 3 0), defScope (mth 3 0), [], []⟩
def fn : List He.DefD := [d_is_below, d_is_row, d_wishes_of, d_things_in, d_owns_of, d_row_read, d_rows_read, d__law_cell, d__law_row, d__law_wishes, d__law_owns, d__law_text, d__law_changed, d__law_odd, d__law_part, d__law_rows_due, d__law_due, d__law_kinds, d_law, di_NoOwn, di_NoText, di_NoRow]
def fa : List He.Fa := [.glo "is_below", .glo "is_row", .glo "wishes_of", .glo "things_in", .glo "owns_of", .glo "row_read", .glo "rows_read", .glo "_law_cell", .glo "_law_row", .glo "_law_wishes", .glo "_law_owns", .glo "_law_text", .glo "_law_changed", .glo "_law_odd", .glo "_law_part", .glo "_law_rows_due", .glo "_law_due", .glo "_law_kinds", .glo "law", .free "len", .free "range", .free "list", .free "tuple", .free "sorted", .free "int", .free "isinstance", .free "bool", .free "str", .free "enumerate", .free "zip", .free "ValueError", .int "MOST_HANDS" 7, .int "MOST_THINGS" 8, .str "LETTERS" "ABCDEFGH", .str "OWN" "*", .glo "TradeError", .glo "TooMany", .glo "NoRow", .glo "NoOwn", .glo "NoText", .exc "TooMany", .meth "NoOwn" "__init__", .noat "NoOwn" "hand", .meth "NoText" "__init__", .noat "NoText" "at", .meth "NoRow" "__init__", .noat "NoRow" "hand"]
def ex (K : PySem.W.Frag) : Bool := insTB K [.ty "ValueError"] [("TooMany", true), ("NoOwn", true), ("NoText", true), ("NoRow", true)] && (insTB K [.glo "NoOwn"] [("TooMany", false), ("NoOwn", true), ("NoText", false), ("NoRow", false)] && (xfTB K "hand" ["NoOwn", "NoRow"] && (insTB K [.glo "NoRow"] [("TooMany", false), ("NoOwn", false), ("NoText", false), ("NoRow", true)] && (insTB K [.glo "TooMany"] [("TooMany", true), ("NoOwn", false), ("NoText", false), ("NoRow", false)] && (insTB K [.glo "NoText"] [("TooMany", false), ("NoOwn", false), ("NoText", true), ("NoRow", false)] && (xfTB K "at" ["NoText"] && (exmTB K "TradeError" [("TooMany", true), ("NoOwn", true), ("NoText", true), ("NoRow", true)] && (oexB K (He.ga K "NoOwn") && (oexB K (He.ga K "NoText") && (oexB K (He.ga K "NoRow") && (tinB K (He.ga K "TradeError") && (true))))))))))))
theorem kx_0 {h : Heap} {K : PySem.W.Frag} {mg : Str → Option Value} (Z : TopX fa fn ex h K mg) : insTB K [.ty "ValueError"] [("TooMany", true), ("NoOwn", true), ("NoText", true), ("NoRow", true)] = true := (He.ba Z.e).1
theorem kx_1 {h : Heap} {K : PySem.W.Frag} {mg : Str → Option Value} (Z : TopX fa fn ex h K mg) : insTB K [.glo "NoOwn"] [("TooMany", false), ("NoOwn", true), ("NoText", false), ("NoRow", false)] = true := (He.ba (He.ba Z.e).2).1
theorem kx_2 {h : Heap} {K : PySem.W.Frag} {mg : Str → Option Value} (Z : TopX fa fn ex h K mg) : xfTB K "hand" ["NoOwn", "NoRow"] = true := (He.ba (He.ba (He.ba Z.e).2).2).1
theorem kx_3 {h : Heap} {K : PySem.W.Frag} {mg : Str → Option Value} (Z : TopX fa fn ex h K mg) : insTB K [.glo "NoRow"] [("TooMany", false), ("NoOwn", false), ("NoText", false), ("NoRow", true)] = true := (He.ba (He.ba (He.ba (He.ba Z.e).2).2).2).1
theorem kx_4 {h : Heap} {K : PySem.W.Frag} {mg : Str → Option Value} (Z : TopX fa fn ex h K mg) : insTB K [.glo "TooMany"] [("TooMany", true), ("NoOwn", false), ("NoText", false), ("NoRow", false)] = true := (He.ba (He.ba (He.ba (He.ba (He.ba Z.e).2).2).2).2).1
theorem kx_5 {h : Heap} {K : PySem.W.Frag} {mg : Str → Option Value} (Z : TopX fa fn ex h K mg) : insTB K [.glo "NoText"] [("TooMany", false), ("NoOwn", false), ("NoText", true), ("NoRow", false)] = true := (He.ba (He.ba (He.ba (He.ba (He.ba (He.ba Z.e).2).2).2).2).2).1
theorem kx_6 {h : Heap} {K : PySem.W.Frag} {mg : Str → Option Value} (Z : TopX fa fn ex h K mg) : xfTB K "at" ["NoText"] = true := (He.ba (He.ba (He.ba (He.ba (He.ba (He.ba (He.ba Z.e).2).2).2).2).2).2).1
theorem kx_7 {h : Heap} {K : PySem.W.Frag} {mg : Str → Option Value} (Z : TopX fa fn ex h K mg) : exmTB K "TradeError" [("TooMany", true), ("NoOwn", true), ("NoText", true), ("NoRow", true)] = true := (He.ba (He.ba (He.ba (He.ba (He.ba (He.ba (He.ba (He.ba Z.e).2).2).2).2).2).2).2).1
theorem kx_8 {h : Heap} {K : PySem.W.Frag} {mg : Str → Option Value} (Z : TopX fa fn ex h K mg) : oexB K (He.ga K "NoOwn") = true := (He.ba (He.ba (He.ba (He.ba (He.ba (He.ba (He.ba (He.ba (He.ba Z.e).2).2).2).2).2).2).2).2).1
theorem kx_9 {h : Heap} {K : PySem.W.Frag} {mg : Str → Option Value} (Z : TopX fa fn ex h K mg) : oexB K (He.ga K "NoText") = true := (He.ba (He.ba (He.ba (He.ba (He.ba (He.ba (He.ba (He.ba (He.ba (He.ba Z.e).2).2).2).2).2).2).2).2).2).1
theorem kx_10 {h : Heap} {K : PySem.W.Frag} {mg : Str → Option Value} (Z : TopX fa fn ex h K mg) : oexB K (He.ga K "NoRow") = true := (He.ba (He.ba (He.ba (He.ba (He.ba (He.ba (He.ba (He.ba (He.ba (He.ba (He.ba Z.e).2).2).2).2).2).2).2).2).2).2).1
theorem kx_11 {h : Heap} {K : PySem.W.Frag} {mg : Str → Option Value} (Z : TopX fa fn ex h K mg) : tinB K (He.ga K "TradeError") = true := (He.ba (He.ba (He.ba (He.ba (He.ba (He.ba (He.ba (He.ba (He.ba (He.ba (He.ba (He.ba Z.e).2).2).2).2).2).2).2).2).2).2).2).1
section
variable {h : Heap} {P : Program} {w : World} {K : PySem.W.Frag} {mg : Str → Option Value} {base : Heap}
theorem room (k : Nat) (h : k ≤ 60) : Room k callerA := (⟨rfl, by decide, by decide⟩ : Room 60 callerA).mono h
theorem Si_NoOwn : FnScope ["self", "hand"] ["self", "hand"] di_NoOwn.scope := ⟨rfl, rfl, rfl, by decide +kernel, rfl, by decide +kernel, by decide +kernel⟩
theorem ini_NoOwn (Z : TopX fa fn ex h K mg) : IniOk P w K mg base "NoOwn" "hand" 1 :=
  ini_ok (d := di_NoOwn) (k := 0) Z.toTop 19 38 41 42 Si_NoOwn (kx_8 Z) (fun fI cdv A outer s H E a C y Q hr hT hno hH q => ini_body (by rfl) (Z.toTop.glo 35) (kx_11 Z) (pe_teinit (by rfl) (Z.toTop.glo 35) (kx_11 Z) (pa_cons (pe_var (by rfl) (Or.inl rfl)) (pa_cons pe_str pa_nil))) (ps_ost (pe_var (by rfl) (Or.inl rfl)) (pe_var (by rfl) (Or.inl rfl))) (by rfl) hT hno hH q) (fun _ _ _ _ _ _ us hl => match us, hl with | [_, _], _ => rfl)
theorem Si_NoText : FnScope ["self", "at"] ["self", "at"] di_NoText.scope := ⟨rfl, rfl, rfl, by decide +kernel, rfl, by decide +kernel, by decide +kernel⟩
theorem ini_NoText (Z : TopX fa fn ex h K mg) : IniOk P w K mg base "NoText" "at" 1 :=
  ini_ok (d := di_NoText) (k := 0) Z.toTop 20 39 43 44 Si_NoText (kx_9 Z) (fun fI cdv A outer s H E a C y Q hr hT hno hH q => ini_body (by rfl) (Z.toTop.glo 35) (kx_11 Z) (pe_teinit (by rfl) (Z.toTop.glo 35) (kx_11 Z) (pa_cons (pe_var (by rfl) (Or.inl rfl)) (pa_cons pe_str pa_nil))) (ps_ost (pe_var (by rfl) (Or.inl rfl)) (pe_var (by rfl) (Or.inl rfl))) (by rfl) hT hno hH q) (fun _ _ _ _ _ _ us hl => match us, hl with | [_, _], _ => rfl)
theorem Si_NoRow : FnScope ["self", "hand"] ["self", "hand"] di_NoRow.scope := ⟨rfl, rfl, rfl, by decide +kernel, rfl, by decide +kernel, by decide +kernel⟩
theorem ini_NoRow (Z : TopX fa fn ex h K mg) : IniOk P w K mg base "NoRow" "hand" 1 :=
  ini_ok (d := di_NoRow) (k := 0) Z.toTop 21 37 45 46 Si_NoRow (kx_10 Z) (fun fI cdv A outer s H E a C y Q hr hT hno hH q => ini_body (by rfl) (Z.toTop.glo 35) (kx_11 Z) (pe_teinit (by rfl) (Z.toTop.glo 35) (kx_11 Z) (pa_cons (pe_var (by rfl) (Or.inl rfl)) (pa_cons pe_str pa_nil))) (ps_ost (pe_var (by rfl) (Or.inl rfl)) (pe_var (by rfl) (Or.inl rfl))) (by rfl) hT hno hH q) (fun _ _ _ _ _ _ us hl => match us, hl with | [_, _], _ => rfl)
theorem S_is_below : FnScope ["thing", "many"] ["thing", "many"] d_is_below.scope := ⟨rfl, rfl, rfl, by decide +kernel, rfl, by decide +kernel, by decide +kernel⟩
theorem B_is_below (Z : TopX fa fn ex h K mg) : Body P w K mg base 0 ["thing", "many"] d_is_below w_is_below := fun f cdv A outer s H E hr => ⟨_, by exact
      (ss_one (s_ret (q_and (q_isi (T := "int") (q_var 0) is_int rfl (Z.free 25) rfl (Z.free 24) rfl) (q_and (q_not (q_isi (T := "bool") (q_var 0) is_bool rfl (Z.free 25) rfl (Z.free 26) rfl)) (q_one (q_leLt q_int (q_var 0) (q_var 1)))))))⟩
theorem fx_is_below (Z : TopX fa fn ex h K mg) : Fx P w K mg base "is_below" 1 [] T_is_below :=
  fx_of (d := d_is_below) Z.toTop 0 0 S_is_below (B_is_below Z) (room _ (by decide)) (hb := fun _ _ _ _ _ _ us hl => match us, hl with | [_, _], _ => rfl)
theorem S_is_row : FnScope ["row", "many", "met", "thing"] ["row", "many"] d_is_row.scope := ⟨rfl, rfl, rfl, by decide +kernel, rfl, by decide +kernel, by decide +kernel⟩
theorem B_is_row (Z : TopX fa fn ex h K mg) : Body P w K mg base 1 ["row", "many", "met", "thing"] d_is_row w_is_row := fun f cdv A outer s H E hr => ⟨_, by exact
      (ss_c (s_if (t_ne hr.units (q_len rfl (Z.free 19) (q_var 0)) (q_var 1)) (ss_one (s_ret q_bl)) ss_nil)
      (ss_c (s_asg 2 S_is_row.nd (q_lst qa_nil))
      (ss_c (s_for rfl (fun _ _ => passes_of rfl) (qi_seq (q_var 0)) (g_nm 3 S_is_row.nd) (ss_c (s_if (t_bo (u_or (t_not (t_val (q_own ((fx_is_below Z).up (by decide)) hr rfl (qa_cons (q_var 3) (qa_cons (q_var 1) qa_nil))))) (u_or1 (t_in (q_var 3) (q_var 2))))) (ss_one (s_ret q_bl)) ss_nil)
      (ss_one (s_app 2 (q_var 3)))))
      (ss_one (s_ret q_bl)))))⟩
theorem fx_is_row (Z : TopX fa fn ex h K mg) : Fx P w K mg base "is_row" 2 [] T_is_row :=
  fx_of (d := d_is_row) Z.toTop 1 1 S_is_row (B_is_row Z) (room _ (by decide)) (hb := fun _ _ _ _ _ _ us hl => match us, hl with | [_, _], _ => rfl)
theorem S_wishes_of : FnScope ["rows", "many", "hand", "row"] ["rows"] d_wishes_of.scope := ⟨rfl, rfl, rfl, by decide +kernel, rfl, by decide +kernel, by decide +kernel⟩
theorem B_wishes_of (Z : TopX fa fn ex h K mg) : Body P w K mg base 2 ["rows", "many", "hand", "row"] d_wishes_of w_wishes_of := fun f cdv A outer s H E hr => ⟨_, by exact
      (ss_c (s_if (t_bo (u_or (t_lt (q_len rfl (Z.free 19) (q_var 0)) q_int) (u_or1 (t_gt (q_len rfl (Z.free 19) (q_var 0)) (q_kint rfl (Z.int 31)))))) (ss_one (s_raise0 (x := "TooMany") rfl (Z.toTop.glo 36) (Z.c.fact 40) rfl)) ss_nil)
      (ss_c (s_asg 1 S_wishes_of.nd (q_len rfl (Z.free 19) (q_ix (q_var 0) q_int)))
      (ss_c (s_if (t_bo (u_or (t_lt (q_var 1) (q_len rfl (Z.free 19) (q_var 0))) (u_or1 (t_gt (q_var 1) (q_kint rfl (Z.int 32)))))) (ss_one (s_raise0 (x := "TooMany") rfl (Z.toTop.glo 36) (Z.c.fact 40) rfl)) ss_nil)
      (ss_c (s_for rfl (fun _ _ => passes_of rfl) (qi_enum rfl (Z.free 28) (q_var 0)) (g_tp rfl (gs_cons (g_nm 2 S_wishes_of.nd) (gs_cons (g_nm 3 S_wishes_of.nd) gs_nil))) (ss_one (s_if (t_not (t_val (q_own ((fx_is_row Z).up (by decide)) hr rfl (qa_cons (q_var 3) (qa_cons (q_var 1) qa_nil))))) (ss_one (s_raise1 rfl (ini_NoRow Z) (hr.mono (by decide)) rfl (q_var 2))) ss_nil)))
      (ss_one (s_ret (q_tupOf rfl (Z.free 22) (q_lc s rfl S_wishes_of.nd (qi_seq (q_var 0)) (own := [("row", 3)]) (⟨rfl, by decide +kernel, by decide +kernel, by decide +kernel, by decide +kernel⟩ : BlkOk ["rows", "many", "hand", "row"] d_wishes_of.scope _ _) (fun _ _ _ _ _ => (g_nm 3 S_wishes_of.nd)) (fun _ _ _ _ _ => qts_nil) (fun _ _ _ _ _ => (q_tupOf rfl (Z.free 22) (q_var 3)))))))))))⟩
theorem fx_wishes_of (Z : TopX fa fn ex h K mg) : Fx P w K mg base "wishes_of" 3 [] T_wishes_of :=
  fx_of (d := d_wishes_of) Z.toTop 2 2 S_wishes_of (B_wishes_of Z) (room _ (by decide)) (hb := fun _ _ _ _ _ _ us hl => match us, hl with | [_], _ => rfl)
theorem S_things_in : FnScope ["wishes"] ["wishes"] d_things_in.scope := ⟨rfl, rfl, rfl, by decide +kernel, rfl, by decide +kernel, by decide +kernel⟩
theorem B_things_in (Z : TopX fa fn ex h K mg) : Body P w K mg base 0 ["wishes"] d_things_in w_things_in := fun f cdv A outer s H E hr => ⟨_, by exact
      (ss_one (s_ret (q_len rfl (Z.free 19) (q_ix (q_var 0) q_int))))⟩
theorem fx_things_in (Z : TopX fa fn ex h K mg) : Fx P w K mg base "things_in" 1 [] T_things_in :=
  fx_of (d := d_things_in) Z.toTop 3 3 S_things_in (B_things_in Z) (room _ (by decide)) (hb := fun _ _ _ _ _ _ us hl => match us, hl with | [_], _ => rfl)
theorem S_owns_of : FnScope ["wishes", "things", "met", "hand", "thing"] ["wishes", "things"] d_owns_of.scope := ⟨rfl, rfl, rfl, by decide +kernel, rfl, by decide +kernel, by decide +kernel⟩
theorem B_owns_of (Z : TopX fa fn ex h K mg) : Body P w K mg base 2 ["wishes", "things", "met", "hand", "thing"] d_owns_of w_owns_of := fun f cdv A outer s H E hr => ⟨_, by exact
      (ss_c (s_if (t_ne hr.units (q_len rfl (Z.free 19) (q_var 1)) (q_len rfl (Z.free 19) (q_var 0))) (ss_one (s_raise1 rfl (ini_NoOwn Z) (hr.mono (by decide)) rfl (q_len rfl (Z.free 19) (q_var 0)))) ss_nil)
      (ss_c (s_asg 2 S_owns_of.nd (q_lst qa_nil))
      (ss_c (s_for rfl (fun _ _ => passes_of rfl) (qi_enum rfl (Z.free 28) (q_var 1)) (g_tp rfl (gs_cons (g_nm 3 S_owns_of.nd) (gs_cons (g_nm 4 S_owns_of.nd) gs_nil))) (ss_one (s_if (t_notN (q_var 4) q_non) (ss_c (s_if (t_bo (u_or (t_not (t_val (q_own ((fx_is_below Z).up (by decide)) hr rfl (qa_cons (q_var 4) (qa_cons (q_own ((fx_things_in Z).up (by decide)) hr rfl (qa_cons (q_var 0) qa_nil)) qa_nil))))) (u_or1 (t_in (q_var 4) (q_var 2))))) (ss_one (s_raise1 rfl (ini_NoOwn Z) (hr.mono (by decide)) rfl (q_var 3))) ss_nil)
      (ss_one (s_app 2 (q_var 4)))) ss_nil)))
      (ss_one (s_ret (q_tupOf rfl (Z.free 22) (q_var 1)))))))⟩
theorem fx_owns_of (Z : TopX fa fn ex h K mg) : Fx P w K mg base "owns_of" 3 [] T_owns_of :=
  fx_of (d := d_owns_of) Z.toTop 4 4 S_owns_of (B_owns_of Z) (room _ (by decide)) (hb := fun _ _ _ _ _ _ us hl => match us, hl with | [_, _], _ => rfl)
theorem S_row_read : FnScope ["part", "at", "row", "owned", "word", "letter"] ["part", "at"] d_row_read.scope := ⟨rfl, rfl, rfl, by decide +kernel, rfl, by decide +kernel, by decide +kernel⟩
theorem B_row_read (Z : TopX fa fn ex h K mg) : Body P w K mg base 2 ["part", "at", "row", "owned", "word", "letter"] d_row_read w_row_read := fun f cdv A outer s H E hr => ⟨_, by exact
      (ss_c (s_asg 2 S_row_read.nd (q_lst qa_nil))
      (ss_c (s_asg 3 S_row_read.nd (q_lst qa_nil))
      (ss_c (s_for rfl (fun _ _ => passes_of rfl) (qi_seq (q_split (q_var 0) q_str)) (g_nm 4 S_row_read.nd) (ss_c (s_asg 5 S_row_read.nd (q_var 4))
      (ss_c (s_if (t_eq hr.units (q_slc (q_var 4) (qo_some q_int) qo_none) (q_kstr rfl (Z.str 34))) (ss_one (s_asg 5 S_row_read.nd (q_slc (q_var 4) qo_none (qo_some q_int)))) ss_nil)
      (ss_c (s_if (t_bo (u_or (t_ne hr.units (q_len rfl (Z.free 19) (q_var 5)) q_int) (u_or1 (t_ninT (q_var 5) (q_kstr rfl (Z.str 33)))))) (ss_one (s_raise1 rfl (ini_NoText Z) (hr.mono (by decide)) rfl (q_var 1))) ss_nil)
      (ss_c (s_app 2 (q_idxT (q_kstr rfl (Z.str 33)) (q_var 5)))
      (ss_one (s_if (t_ne hr.units (q_var 5) (q_var 4)) (ss_one (s_app 3 (q_ix (q_var 2) (q_neg q_int)))) ss_nil)))))))
      (ss_c (s_if (t_gt (q_len rfl (Z.free 19) (q_var 3)) q_int) (ss_one (s_raise1 rfl (ini_NoText Z) (hr.mono (by decide)) rfl (q_var 1))) ss_nil)
      (ss_frzG 2 (ss_one (s_ret (q_tup (qa_cons (q_var 2) (qa_cons (q_ix (q_add (q_var 3) (q_lst (qa_cons q_non qa_nil))) q_int) qa_nil))))))))))⟩
theorem fx_row_read (Z : TopX fa fn ex h K mg) : Fx P w K mg base "row_read" 3 [] T_row_read :=
  fx_of (d := d_row_read) Z.toTop 5 5 S_row_read (B_row_read Z) (room _ (by decide)) (hb := fun _ _ _ _ _ _ us hl => match us, hl with | [_, _], _ => rfl)
theorem S_rows_read : FnScope ["text", "rows", "things", "at", "part", "row", "own", "wishes"] ["text"] d_rows_read.scope := ⟨rfl, rfl, rfl, by decide +kernel, rfl, by decide +kernel, by decide +kernel⟩
theorem B_rows_read (Z : TopX fa fn ex h K mg) : Body P w K mg base 3 ["text", "rows", "things", "at", "part", "row", "own", "wishes"] d_rows_read w_rows_read := fun f cdv A outer s H E hr => ⟨_, by exact
      (ss_c (s_if (t_not (t_val (q_isi (T := "str") (q_var 0) is_str rfl (Z.free 25) rfl (Z.free 27) rfl))) (ss_one (s_raise1 rfl (ini_NoText Z) (hr.mono (by decide)) rfl (q_neg q_int))) ss_nil)
      (ss_c (s_asg 1 S_rows_read.nd (q_lst qa_nil))
      (ss_c (s_asg 2 S_rows_read.nd (q_lst qa_nil))
      (ss_c (s_for rfl (fun _ _ => passes_of rfl) (qi_enum rfl (Z.free 28) (q_split (q_var 0) q_str)) (g_tp rfl (gs_cons (g_nm 3 S_rows_read.nd) (gs_cons (g_nm 4 S_rows_read.nd) gs_nil))) (ss_c (s_asgG (q_own ((fx_row_read Z).up (by decide)) hr rfl (qa_cons (q_var 4) (qa_cons (q_var 3) qa_nil))) (g_tp rfl (gs_cons (g_nm 5 S_rows_read.nd) (gs_cons (g_nm 6 S_rows_read.nd) gs_nil))))
      (ss_c (s_app 1 (q_var 5))
      (ss_one (s_app 2 (q_var 6))))))
      (ss_c (s_asg 7 S_rows_read.nd (q_own ((fx_wishes_of Z).up (by decide)) hr rfl (qa_cons (q_var 1) qa_nil)))
      (ss_one (s_ret (q_tup (qa_cons (q_var 7) (qa_cons (q_own ((fx_owns_of Z).up (by decide)) hr rfl (qa_cons (q_var 7) (qa_cons (q_var 2) qa_nil))) qa_nil))))))))))⟩
theorem fx_rows_read (Z : TopX fa fn ex h K mg) : Fx P w K mg base "rows_read" 4 [] T_rows_read :=
  fx_of (d := d_rows_read) Z.toTop 6 6 S_rows_read (B_rows_read Z) (room _ (by decide)) (hb := fun _ _ _ _ _ _ us hl => match us, hl with | [_], _ => rfl)
theorem S__law_cell : FnScope ["_law_script", "_law_k", "_law_cell_here", "_law_stirred"] ["_law_script", "_law_k"] d__law_cell.scope := ⟨rfl, rfl, rfl, by decide +kernel, rfl, by decide +kernel, by decide +kernel⟩
theorem B__law_cell (Z : TopX fa fn ex h K mg) : Body P w K mg base 0 ["_law_script", "_law_k", "_law_cell_here", "_law_stirred"] d__law_cell w__law_cell := fun f cdv A outer s H E hr => ⟨_, by exact
      (ss_c (s_asg 2 S__law_cell.nd q_int)
      (ss_c (s_if (t_lt (q_var 1) (q_len rfl (Z.free 19) (q_var 0))) (ss_one (s_asg 2 S__law_cell.nd (q_mod (q_ix (q_var 0) (q_var 1)) (q_pow q_int q_int)))) ss_nil)
      (ss_c (s_if (t_bo (u_and (t_gt (q_len rfl (Z.free 19) (q_var 0)) q_int) (u_and1 (t_eq hr.units (q_mod (q_ix (q_var 0) q_int) q_int) q_int)))) (ss_one (s_retv 2)) ss_nil)
      (ss_c (s_asg 3 S__law_cell.nd (q_mod (q_mul (q_mod (q_mul (q_add (q_add (q_add (q_var 2) (q_mul (q_mul q_int (q_var 1)) (q_var 1))) (q_mul q_int (q_var 1))) q_int) q_int) q_int) q_int) q_int))
      (ss_one (s_ret (q_mod (q_mul (q_mod (q_mul (q_add (q_var 3) q_int) q_int) q_int) q_int) q_int)))))))⟩
theorem fx__law_cell (Z : TopX fa fn ex h K mg) : Fx P w K mg base "_law_cell" 1 [] T__law_cell :=
  fx_of (d := d__law_cell) Z.toTop 7 7 S__law_cell (B__law_cell Z) (room _ (by decide)) (hb := fun _ _ _ _ _ _ us hl => match us, hl with | [_, _], _ => rfl)
theorem S__law_row : FnScope ["_law_cell_here", "_law_m", "_law_row_here", "_law_thing"] ["_law_cell_here", "_law_m"] d__law_row.scope := ⟨rfl, rfl, rfl, by decide +kernel, rfl, by decide +kernel, by decide +kernel⟩
theorem B__law_row (Z : TopX fa fn ex h K mg) : Body P w K mg base 0 ["_law_cell_here", "_law_m", "_law_row_here", "_law_thing"] d__law_row w__law_row := fun f cdv A outer s H E hr => ⟨_, by exact
      (ss_c (s_asg 2 S__law_row.nd (q_lst qa_nil))
      (ss_c (s_for rfl (fun _ _ => passes_of rfl) (qi_rg1 rfl (Z.free 20) (q_var 1)) (g_nm 3 S__law_row.nd) (ss_c (s_ins 2 (q_mod (q_var 0) (q_add (q_var 3) q_int)) (q_var 3))
      (ss_one (s_asg 0 S__law_row.nd (q_fdiv (q_var 0) (q_add (q_var 3) q_int))))))
      (ss_one (s_ret (q_tupOf rfl (Z.free 22) (q_var 2))))))⟩
theorem fx__law_row (Z : TopX fa fn ex h K mg) : Fx P w K mg base "_law_row" 1 [] T__law_row :=
  fx_of (d := d__law_row) Z.toTop 8 8 S__law_row (B__law_row Z) (room _ (by decide)) (hb := fun _ _ _ _ _ _ us hl => match us, hl with | [_, _], _ => rfl)
theorem S__law_wishes : FnScope ["_law_script", "_law_at", "_law_n", "_law_m", "_law_hand"] ["_law_script", "_law_at", "_law_n", "_law_m"] d__law_wishes.scope := ⟨rfl, rfl, rfl, by decide +kernel, rfl, by decide +kernel, by decide +kernel⟩
theorem B__law_wishes (Z : TopX fa fn ex h K mg) : Body P w K mg base 1 ["_law_script", "_law_at", "_law_n", "_law_m", "_law_hand"] d__law_wishes w__law_wishes := fun f cdv A outer s H E hr => ⟨_, by exact
      (ss_one (s_ret (q_tupOf rfl (Z.free 22) (q_lc s rfl S__law_wishes.nd (qi_rg1 rfl (Z.free 20) (q_var 2)) (own := [("_law_hand", 4)]) (⟨rfl, by decide +kernel, by decide +kernel, by decide +kernel, by decide +kernel⟩ : BlkOk ["_law_script", "_law_at", "_law_n", "_law_m", "_law_hand"] d__law_wishes.scope _ _) (fun _ _ _ _ _ => (g_nm 4 S__law_wishes.nd)) (fun _ _ _ _ _ => qts_nil) (fun _ _ _ _ _ => (q_own ((fx__law_row Z).up (by decide)) hr rfl (qa_cons (q_own ((fx__law_cell Z).up (by decide)) hr rfl (qa_cons (q_var 0) (qa_cons (q_add (q_var 1) (q_var 4)) qa_nil))) (qa_cons (q_var 3) qa_nil))))))))⟩
theorem fx__law_wishes (Z : TopX fa fn ex h K mg) : Fx P w K mg base "_law_wishes" 2 [] T__law_wishes :=
  fx_of (d := d__law_wishes) Z.toTop 9 9 S__law_wishes (B__law_wishes Z) (room _ (by decide)) (hb := fun _ _ _ _ _ _ us hl => match us, hl with | [_, _, _, _], _ => rfl)
theorem S__law_owns : FnScope ["_law_cell_here", "_law_n", "_law_m", "_law_owns_here", "_law_hand", "_law_thing"] ["_law_cell_here", "_law_n", "_law_m"] d__law_owns.scope := ⟨rfl, rfl, rfl, by decide +kernel, rfl, by decide +kernel, by decide +kernel⟩
theorem B__law_owns (Z : TopX fa fn ex h K mg) : Body P w K mg base 0 ["_law_cell_here", "_law_n", "_law_m", "_law_owns_here", "_law_hand", "_law_thing"] d__law_owns w__law_owns := fun f cdv A outer s H E hr => ⟨_, by exact
      (ss_c (s_asg 3 S__law_owns.nd (q_lst qa_nil))
      (ss_c (s_for rfl (fun _ _ => passes_of rfl) (qi_rg1 rfl (Z.free 20) (q_var 1)) (g_nm 4 S__law_owns.nd) (ss_c (s_asg 5 S__law_owns.nd (q_mod (q_var 0) (q_add (q_var 2) q_int)))
      (ss_c (s_asg 0 S__law_owns.nd (q_fdiv (q_var 0) (q_add (q_var 2) q_int)))
      (ss_one (s_if (t_bo (u_or (t_eq hr.units (q_var 5) (q_var 2)) (u_or1 (t_in (q_var 5) (q_var 3))))) (ss_one (s_app 3 q_non)) (ss_one (s_app 3 (q_var 5))))))))
      (ss_one (s_ret (q_tupOf rfl (Z.free 22) (q_var 3))))))⟩
theorem fx__law_owns (Z : TopX fa fn ex h K mg) : Fx P w K mg base "_law_owns" 1 [] T__law_owns :=
  fx_of (d := d__law_owns) Z.toTop 10 10 S__law_owns (B__law_owns Z) (room _ (by decide)) (hb := fun _ _ _ _ _ _ us hl => match us, hl with | [_, _, _], _ => rfl)
theorem S__law_text : FnScope ["_law_wishes_here", "_law_owns_here", "_law_parts", "_law_row_here", "_law_own", "_law_words", "_law_thing"] ["_law_wishes_here", "_law_owns_here"] d__law_text.scope := ⟨rfl, rfl, rfl, by decide +kernel, rfl, by decide +kernel, by decide +kernel⟩
theorem B__law_text (Z : TopX fa fn ex h K mg) : Body P w K mg base 0 ["_law_wishes_here", "_law_owns_here", "_law_parts", "_law_row_here", "_law_own", "_law_words", "_law_thing"] d__law_text w__law_text := fun f cdv A outer s H E hr => ⟨_, by exact
      (ss_c (s_asg 2 S__law_text.nd (q_lst qa_nil))
      (ss_c (s_for rfl (fun _ _ => passes_of rfl) (qi_zip rfl (Z.free 29) (q_var 0) (q_var 1)) (g_tp rfl (gs_cons (g_nm 3 S__law_text.nd) (gs_cons (g_nm 4 S__law_text.nd) gs_nil))) (ss_c (s_asg 5 S__law_text.nd (q_lst qa_nil))
      (ss_c (s_for rfl (fun _ _ => passes_of rfl) (qi_seq (q_var 3)) (g_nm 6 S__law_text.nd) (ss_one (s_app 5 (q_add (q_ix q_str (q_var 6)) (q_smulX q_str (q_int1 rfl (Z.free 24) (q_eq hr.units (q_var 6) (q_var 4))))))))
      (ss_one (s_app 2 (q_join q_str (q_var 5)))))))
      (ss_one (s_ret (q_join q_str (q_var 2))))))⟩
theorem fx__law_text (Z : TopX fa fn ex h K mg) : Fx P w K mg base "_law_text" 1 [] T__law_text :=
  fx_of (d := d__law_text) Z.toTop 11 11 S__law_text (B__law_text Z) (room _ (by decide)) (hb := fun _ _ _ _ _ _ us hl => match us, hl with | [_, _], _ => rfl)
theorem S__law_changed : FnScope ["_law_text_here", "_law_cell_here", "_law_some", "_law_at", "_law_sign"] ["_law_text_here", "_law_cell_here"] d__law_changed.scope := ⟨rfl, rfl, rfl, by decide +kernel, rfl, by decide +kernel, by decide +kernel⟩
theorem B__law_changed (Z : TopX fa fn ex h K mg) : Body P w K mg base 0 ["_law_text_here", "_law_cell_here", "_law_some", "_law_at", "_law_sign"] d__law_changed w__law_changed := fun f cdv A outer s H E hr => ⟨_, by exact
      (ss_c (s_asg 2 S__law_changed.nd q_str)
      (ss_c (s_if (t_eq hr.units (q_mod (q_var 1) q_int) q_int) (ss_one (s_asg 2 S__law_changed.nd q_str)) ss_nil)
      (ss_c (s_asg 3 S__law_changed.nd (q_mod (q_fdiv (q_var 1) q_int) (q_add (q_len rfl (Z.free 19) (q_var 0)) q_int)))
      (ss_c (s_asg 4 S__law_changed.nd (q_ix (q_var 2) (q_mod (q_fdiv (q_var 1) q_int) (q_len rfl (Z.free 19) (q_var 2)))))
      (ss_one (s_ret (q_ix (q_lst (qa_cons (q_add (q_add (q_slc (q_var 0) qo_none (qo_some (q_var 3))) (q_var 4)) (q_slc (q_var 0) (qo_some (q_var 3)) qo_none)) (qa_cons (q_add (q_slc (q_var 0) qo_none (qo_some (q_var 3))) (q_slc (q_var 0) (qo_some (q_add (q_var 3) q_int)) qo_none)) (qa_cons (q_add (q_add (q_slc (q_var 0) qo_none (qo_some (q_var 3))) (q_var 4)) (q_slc (q_var 0) (qo_some (q_add (q_var 3) q_int)) qo_none)) qa_nil)))) (q_mod (q_fdiv (q_var 1) q_int) q_int))))))))⟩
theorem fx__law_changed (Z : TopX fa fn ex h K mg) : Fx P w K mg base "_law_changed" 1 [] T__law_changed :=
  fx_of (d := d__law_changed) Z.toTop 12 12 S__law_changed (B__law_changed Z) (room _ (by decide)) (hb := fun _ _ _ _ _ _ us hl => match us, hl with | [_, _], _ => rfl)
theorem S__law_odd : FnScope ["_law_cell_here", "_law_some"] ["_law_cell_here"] d__law_odd.scope := ⟨rfl, rfl, rfl, by decide +kernel, rfl, by decide +kernel, by decide +kernel⟩
theorem B__law_odd (Z : TopX fa fn ex h K mg) : Body P w K mg base 0 ["_law_cell_here", "_law_some"] d__law_odd w__law_odd := fun f cdv A outer s H E hr => ⟨_, by exact
      (ss_c (s_asg 1 S__law_odd.nd (q_lst (qa_cons q_str (qa_cons q_str (qa_cons q_str (qa_cons q_str (qa_cons q_str (qa_cons q_str (qa_cons q_str (qa_cons q_str (qa_cons q_str (qa_cons q_str (qa_cons q_str (qa_cons q_str (qa_cons q_str qa_nil)))))))))))))))
      (ss_c (s_asg 1 S__law_odd.nd (q_add (q_var 1) (q_lst (qa_cons q_str (qa_cons q_str (qa_cons q_str (qa_cons q_str (qa_cons q_str (qa_cons q_str (qa_cons q_str (qa_cons q_str (qa_cons q_str (qa_cons q_str qa_nil)))))))))))))
      (ss_c (s_asg 1 S__law_odd.nd (q_add (q_var 1) (q_lstF (qa_cons q_str (qa_cons q_non (qa_cons q_int (qa_cons (q_lst (qa_cons q_str qa_nil)) (qa_cons q_bl qa_nil))))))))
      (ss_c (s_asg 1 S__law_odd.nd (q_add (q_var 1) (q_lst (qa_cons (q_join q_str (q_rep (q_lst (qa_cons q_str qa_nil)) q_int)) (qa_cons q_str (qa_cons (q_join q_str (q_rep (q_lst (qa_cons q_str qa_nil)) q_int)) qa_nil))))))
      (ss_one (s_ret (q_ix (q_var 1) (q_mod (q_var 0) (q_len rfl (Z.free 19) (q_var 1))))))))))⟩
theorem fx__law_odd (Z : TopX fa fn ex h K mg) : Fx P w K mg base "_law_odd" 1 [] T__law_odd :=
  fx_of (d := d__law_odd) Z.toTop 13 13 S__law_odd (B__law_odd Z) (room _ (by decide)) (hb := fun _ _ _ _ _ _ us hl => match us, hl with | [_], _ => rfl)
theorem S__law_part : FnScope ["_law_part_here", "_law_row_here", "_law_owned", "_law_word"] ["_law_part_here"] d__law_part.scope := ⟨rfl, rfl, rfl, by decide +kernel, rfl, by decide +kernel, by decide +kernel⟩
theorem B__law_part (Z : TopX fa fn ex h K mg) : Body P w K mg base 0 ["_law_part_here", "_law_row_here", "_law_owned", "_law_word"] d__law_part w__law_part := fun f cdv A outer s H E hr => ⟨_, by exact
      (ss_c (s_asg 1 S__law_part.nd (q_lst qa_nil))
      (ss_c (s_asg 2 S__law_part.nd (q_lst qa_nil))
      (ss_c (s_for rfl (fun _ _ => passes_of rfl) (qi_seq (q_split (q_var 0) q_str)) (g_nm 3 S__law_part.nd) (ss_c (s_if (t_bo (u_or (t_eq hr.units (q_var 3) q_str) (u_or (t_ninT (q_ix (q_var 3) q_int) q_str) (u_or1 (t_nin (q_slc (q_var 3) (qo_some q_int) qo_none) (q_tup (qa_cons q_str (qa_cons q_str qa_nil)))))))) (ss_frzG 2 (ss_frzG 1 (ss_one (s_ret q_non)))) ss_nil)
      (ss_c (s_app 1 (q_idxT q_str (q_ix (q_var 3) q_int)))
      (ss_one (s_if (t_eq hr.units (q_slc (q_var 3) (qo_some q_int) qo_none) q_str) (ss_one (s_app 2 (q_ix (q_var 1) (q_neg q_int)))) ss_nil)))))
      (ss_c (s_if (t_gt (q_len rfl (Z.free 19) (q_var 2)) q_int) (ss_frzG 2 (ss_frzG 1 (ss_one (s_ret q_non)))) ss_nil)
      (ss_frzG 2 (ss_frzG 1 (ss_one (s_ret (q_tup (qa_cons (q_var 1) (qa_cons (q_var 2) qa_nil)))))))))))⟩
theorem fx__law_part (Z : TopX fa fn ex h K mg) : Fx P w K mg base "_law_part" 1 [] T__law_part :=
  fx_of (d := d__law_part) Z.toTop 14 14 S__law_part (B__law_part Z) (room _ (by decide)) (hb := fun _ _ _ _ _ _ us hl => match us, hl with | [_], _ => rfl)
theorem S__law_rows_due : FnScope ["_law_rows", "_law_owned", "_law_hand", "_law_row_here", "_law_one"] ["_law_rows", "_law_owned"] d__law_rows_due.scope := ⟨rfl, rfl, rfl, by decide +kernel, rfl, by decide +kernel, by decide +kernel⟩
theorem B__law_rows_due (Z : TopX fa fn ex h K mg) : Body P w K mg base 0 ["_law_rows", "_law_owned", "_law_hand", "_law_row_here", "_law_one"] d__law_rows_due w__law_rows_due := fun f cdv A outer s H E hr => ⟨_, by exact
      (ss_c (s_if (t_bo (u_or (t_gt (q_len rfl (Z.free 19) (q_var 0)) q_int) (u_or (t_lt (q_len rfl (Z.free 19) (q_ix (q_var 0) q_int)) (q_len rfl (Z.free 19) (q_var 0))) (u_or1 (t_gt (q_len rfl (Z.free 19) (q_ix (q_var 0) q_int)) q_int))))) (ss_one (s_ret (q_tup (qa_cons q_str (qa_cons q_non qa_nil))))) ss_nil)
      (ss_c (s_for rfl (fun _ _ => passes_of rfl) (qi_enum rfl (Z.free 28) (q_var 0)) (g_tp rfl (gs_cons (g_nm 2 S__law_rows_due.nd) (gs_cons (g_nm 3 S__law_rows_due.nd) gs_nil))) (ss_one (s_if (t_ne hr.units (q_sorted rfl (Z.free 23) (q_var 3)) (q_lstRg rfl rfl (Z.free 21) rfl (Z.free 20) (q_len rfl (Z.free 19) (q_ix (q_var 0) q_int)))) (ss_one (s_ret (q_tup (qa_cons q_str (qa_cons (q_var 2) qa_nil))))) ss_nil)))
      (ss_c (s_for rfl (fun _ _ => passes_of rfl) (qi_enum rfl (Z.free 28) (q_var 1)) (g_tp rfl (gs_cons (g_nm 2 S__law_rows_due.nd) (gs_cons (g_nm 4 S__law_rows_due.nd) gs_nil))) (ss_one (s_if (t_bo (u_and (t_ne hr.units (q_var 4) (q_lst qa_nil)) (u_and1 (t_inD (hu65 hr) (q_var 4) (q_slc (q_var 1) qo_none (qo_some (q_var 2))))))) (ss_one (s_ret (q_tup (qa_cons q_str (qa_cons (q_var 2) qa_nil))))) ss_nil)))
      (ss_one (s_ret (q_tup (qa_cons q_str (qa_cons q_non qa_nil))))))))⟩
theorem fx__law_rows_due (Z : TopX fa fn ex h K mg) : Fx P w K mg base "_law_rows_due" 1 [] T__law_rows_due :=
  fx_of (d := d__law_rows_due) Z.toTop 15 15 S__law_rows_due (B__law_rows_due Z) (room _ (by decide)) (hb := fun _ _ _ _ _ _ us hl => match us, hl with | [_, _], _ => rfl)
theorem S__law_due : FnScope ["_law_text_here", "_law_parts", "_law_at", "_law_part_here"] ["_law_text_here"] d__law_due.scope := ⟨rfl, rfl, rfl, by decide +kernel, rfl, by decide +kernel, by decide +kernel⟩
theorem B__law_due (Z : TopX fa fn ex h K mg) : Body P w K mg base 1 ["_law_text_here", "_law_parts", "_law_at", "_law_part_here"] d__law_due w__law_due := fun f cdv A outer s H E hr => ⟨_, by exact
      (ss_c (s_if (t_not (t_val (q_isi (T := "str") (q_var 0) is_str rfl (Z.free 25) rfl (Z.free 27) rfl))) (ss_one (s_ret (q_tup (qa_cons q_str (qa_cons (q_neg q_int) qa_nil))))) ss_nil)
      (ss_c (s_asgLc s 1 rfl S__law_due.nd (qi_seq (q_split (q_var 0) q_str)) (own := [("_law_part_here", 3)]) (⟨rfl, by decide +kernel, by decide +kernel, by decide +kernel, by decide +kernel⟩ : BlkOk ["_law_text_here", "_law_parts", "_law_at", "_law_part_here"] d__law_due.scope _ _) (fun _ _ _ _ _ => (g_nm 3 S__law_due.nd)) (fun _ _ _ _ _ => qts_nil) (fun _ _ _ _ _ => (q_own ((fx__law_part Z).up (by decide)) hr rfl (qa_cons (q_var 3) qa_nil))))
      (ss_frzG 1 (ss_c (s_for rfl (fun _ _ => passes_of rfl) (qi_enum rfl (Z.free 28) (q_var 1)) (g_tp rfl (gs_cons (g_nm 2 S__law_due.nd) (gs_cons (g_nm 3 S__law_due.nd) gs_nil))) (ss_one (s_if (t_isN (q_var 3) q_non) (ss_one (s_ret (q_tup (qa_cons q_str (qa_cons (q_var 2) qa_nil))))) ss_nil)))
      (ss_one (s_ret (q_own ((fx__law_rows_due Z).up (by decide)) hr rfl (qa_cons (q_lc s rfl S__law_due.nd (qi_seq (q_var 1)) (own := [("_law_part_here", 3)]) (⟨rfl, by decide +kernel, by decide +kernel, by decide +kernel, by decide +kernel⟩ : BlkOk ["_law_text_here", "_law_parts", "_law_at", "_law_part_here"] d__law_due.scope _ _) (fun _ _ _ _ _ => (g_nm 3 S__law_due.nd)) (fun _ _ _ _ _ => qts_nil) (fun _ _ _ _ _ => (q_ix (q_var 3) q_int))) (qa_cons (q_lc s rfl S__law_due.nd (qi_seq (q_var 1)) (own := [("_law_part_here", 3)]) (⟨rfl, by decide +kernel, by decide +kernel, by decide +kernel, by decide +kernel⟩ : BlkOk ["_law_text_here", "_law_parts", "_law_at", "_law_part_here"] d__law_due.scope _ _) (fun _ _ _ _ _ => (g_nm 3 S__law_due.nd)) (fun _ _ _ _ _ => qts_nil) (fun _ _ _ _ _ => (q_ix (q_var 3) q_int))) qa_nil)))))))))⟩
theorem fx__law_due (Z : TopX fa fn ex h K mg) : Fx P w K mg base "_law_due" 2 [] T__law_due :=
  fx_of (d := d__law_due) Z.toTop 16 16 S__law_due (B__law_due Z) (room _ (by decide)) (hb := fun _ _ _ _ _ _ us hl => match us, hl with | [_], _ => rfl)
theorem S__law_kinds : FnScope ["_law_e", "_law_kinds_here"] ["_law_e"] d__law_kinds.scope := ⟨rfl, rfl, rfl, by decide +kernel, rfl, by decide +kernel, by decide +kernel⟩
theorem B__law_kinds (Z : TopX fa fn ex h K mg) : Body P w K mg base 0 ["_law_e", "_law_kinds_here"] d__law_kinds w__law_kinds := fun f cdv A outer s H E hr => ⟨_, by exact
      (ss_c (s_asg 1 S__law_kinds.nd (q_lst qa_nil))
      (ss_c (s_if (t_val (q_isX1 (d := .glo "NoText") (pe_glob rfl (Z.toTop.glo 39) rfl) (kx_5 Z) rfl (Z.free 25) (q_var 0))) (ss_one (s_app 1 (q_tup (qa_cons q_str (qa_cons (q_xf (kx_6 Z) (q_var 0)) qa_nil))))) ss_nil)
      (ss_c (s_if (t_val (q_isX1 (d := .glo "TooMany") (pe_glob rfl (Z.toTop.glo 36) rfl) (kx_4 Z) rfl (Z.free 25) (q_var 0))) (ss_one (s_app 1 (q_tup (qa_cons q_str (qa_cons q_non qa_nil))))) ss_nil)
      (ss_c (s_if (t_val (q_isX1 (d := .glo "NoRow") (pe_glob rfl (Z.toTop.glo 37) rfl) (kx_3 Z) rfl (Z.free 25) (q_var 0))) (ss_one (s_app 1 (q_tup (qa_cons q_str (qa_cons (q_xf (kx_2 Z) (q_var 0)) qa_nil))))) ss_nil)
      (ss_c (s_if (t_val (q_isX1 (d := .glo "NoOwn") (pe_glob rfl (Z.toTop.glo 38) rfl) (kx_1 Z) rfl (Z.free 25) (q_var 0))) (ss_one (s_app 1 (q_tup (qa_cons q_str (qa_cons (q_xf (kx_2 Z) (q_var 0)) qa_nil))))) ss_nil)
      (ss_c (s_if (t_not (t_val (q_isX1 (d := .ty "ValueError") (pe_bltn rfl (Z.free 30) PyProof.Rows.Boot.«ValueError» rfl) (kx_0 Z) rfl (Z.free 25) (q_var 0)))) (ss_one (s_app 1 (q_tup (qa_cons q_str (qa_cons q_non qa_nil))))) ss_nil)
      (ss_one (s_retv 1))))))))⟩
theorem fx__law_kinds (Z : TopX fa fn ex h K mg) : Fx P w K mg base "_law_kinds" 1 [] T__law_kinds :=
  fx_of (d := d__law_kinds) Z.toTop 17 17 S__law_kinds (B__law_kinds Z) (room _ (by decide)) (hb := fun _ _ _ _ _ _ us hl => match us, hl with | [_], _ => rfl)
theorem BU__law_kinds (Z : TopX fa fn ex h K mg) : BodyU P w K mg base 0 ["_law_e", "_law_kinds_here"] d__law_kinds w__law_kinds := fun f cdv A outer s H E hr => ⟨_, by exact
      (ss_c (s_asg 1 S__law_kinds.nd (q_lst qa_nil))
      (ss_c (s_if (t_val (q_isX1 (d := .glo "NoText") (pe_glob rfl (Z.toTop.glo 39) rfl) (kx_5 Z) rfl (Z.free 25) (q_var 0))) (ss_one (s_app 1 (q_tup (qa_cons q_str (qa_cons (q_xf (kx_6 Z) (q_var 0)) qa_nil))))) ss_nil)
      (ss_c (s_if (t_val (q_isX1 (d := .glo "TooMany") (pe_glob rfl (Z.toTop.glo 36) rfl) (kx_4 Z) rfl (Z.free 25) (q_var 0))) (ss_one (s_app 1 (q_tup (qa_cons q_str (qa_cons q_non qa_nil))))) ss_nil)
      (ss_c (s_if (t_val (q_isX1 (d := .glo "NoRow") (pe_glob rfl (Z.toTop.glo 37) rfl) (kx_3 Z) rfl (Z.free 25) (q_var 0))) (ss_one (s_app 1 (q_tup (qa_cons q_str (qa_cons (q_xf (kx_2 Z) (q_var 0)) qa_nil))))) ss_nil)
      (ss_c (s_if (t_val (q_isX1 (d := .glo "NoOwn") (pe_glob rfl (Z.toTop.glo 38) rfl) (kx_1 Z) rfl (Z.free 25) (q_var 0))) (ss_one (s_app 1 (q_tup (qa_cons q_str (qa_cons (q_xf (kx_2 Z) (q_var 0)) qa_nil))))) ss_nil)
      (ss_c (s_if (t_not (t_val (q_isX1 (d := .ty "ValueError") (pe_bltn rfl (Z.free 30) PyProof.Rows.Boot.«ValueError» rfl) (kx_0 Z) rfl (Z.free 25) (q_var 0)))) (ss_one (s_app 1 (q_tup (qa_cons q_str (qa_cons q_non qa_nil))))) ss_nil)
      (ss_one (s_retv 1))))))))⟩
theorem fxu__law_kinds (Z : TopX fa fn ex h K mg) : FxU P w K mg base "_law_kinds" 1 T__law_kinds :=
  fxu_of (d := d__law_kinds) Z.toTop 17 17 S__law_kinds (BU__law_kinds Z) (B__law_kinds Z) (room _ (by decide)) (hb := fun _ _ _ _ _ _ us hl => match us, hl with | [_], _ => rfl)
theorem S_law : FnScope ["_law_script", "_law_first", "_law_n", "_law_m", "_law_text_here", "_law_k", "_law_turn", "_law_kinds_here", "_law_e"] ["_law_script"] d_law.scope := ⟨rfl, rfl, rfl, by decide +kernel, rfl, by decide +kernel, by decide +kernel⟩
theorem B_law (Z : TopX fa fn ex h K mg) : Body0 P w K mg base 4 ["_law_script", "_law_first", "_law_n", "_law_m", "_law_text_here", "_law_k", "_law_turn", "_law_kinds_here", "_law_e"] d_law w_law := fun f cdv A outer s H E hr => ⟨_, by exact
      (ss_c (s_asg 1 S_law.nd (q_own ((fx__law_cell Z).up (by decide)) hr rfl (qa_cons (q_var 0) (qa_cons q_int qa_nil))))
      (ss_c (s_asg 2 S_law.nd (q_add q_int (q_mod (q_var 1) q_int)))
      (ss_c (s_asg 3 S_law.nd (q_add (q_var 2) (q_mod (q_fdiv (q_var 1) q_int) (q_sub q_int (q_var 2)))))
      (ss_c (s_asg 4 S_law.nd (q_own ((fx__law_text Z).up (by decide)) hr rfl (qa_cons (q_own ((fx__law_wishes Z).up (by decide)) hr rfl (qa_cons (q_var 0) (qa_cons q_int (qa_cons (q_var 2) (qa_cons (q_var 3) qa_nil))))) (qa_cons (q_own ((fx__law_owns Z).up (by decide)) hr rfl (qa_cons (q_own ((fx__law_cell Z).up (by decide)) hr rfl (qa_cons (q_var 0) (qa_cons q_int qa_nil))) (qa_cons (q_var 2) (qa_cons (q_var 3) qa_nil)))) qa_nil))))
      (ss_c (s_for rfl (fun _ _ => passes_of rfl) (qi_rg1 rfl (Z.free 20) (q_mod (q_fdiv (q_var 1) q_int) q_int)) (g_nm 5 S_law.nd) (ss_one (s_asg 4 S_law.nd (q_own ((fx__law_changed Z).up (by decide)) hr rfl (qa_cons (q_var 4) (qa_cons (q_own ((fx__law_cell Z).up (by decide)) hr rfl (qa_cons (q_var 0) (qa_cons (q_add q_int (q_var 5)) qa_nil))) qa_nil))))))
      (ss_c (s_if (t_eq hr.units (q_mod (q_fdiv (q_var 1) q_int) q_int) q_int) (ss_one (s_asg 4 S_law.nd (q_own ((fx__law_odd Z).up (by decide)) hr rfl (qa_cons (q_own ((fx__law_cell Z).up (by decide)) hr rfl (qa_cons (q_var 0) (qa_cons q_int qa_nil))) qa_nil)))) ss_nil)
      (ss_c (s_for rfl (fun _ _ => passes_of rfl) (qi_rg1 rfl (Z.free 20) q_int) (g_nm 6 S_law.nd) (ss_c (s_asg 7 S_law.nd (q_lst (qa_cons (q_tup (qa_cons q_str (qa_cons q_non qa_nil))) qa_nil)))
      (ss_c (s_try (n := 9) rfl rfl S_law.nd rfl rfl rfl (Z.toTop.glo 35) (kx_7 Z) (passes_of rfl) (fun pn xe pass => (ss_one (s_exp (q_own ((fx_rows_read Z).up (by decide)) hr rfl (qa_cons (q_var 4) qa_nil))))) (fun a pn => (ss_one (s_asg 7 S_law.nd (q_ownU ((fxu__law_kinds Z).up (by decide)) (roomMark hr) rfl (qa_cons (q_var 8) qa_nil))))))
      (ss_one (s_if (t_ne hr.units (q_var 7) (q_lst (qa_cons (q_own ((fx__law_due Z).up (by decide)) hr rfl (qa_cons (q_var 4) qa_nil)) qa_nil))) (ss_one (s_ret q_bl)) ss_nil)))))
      (ss_one (s_ret q_bl)))))))))⟩
end
abbrev R : PySem.W.OpenRow := PySem.W.OpenLaw.row PySem.Challenge.rw_ringtrade_k05_texts_refused
abbrev hk : PySem.W.Hook := RT.hookR 4 fa fn ex
def ob (s : PySem.W.SharedT) : RT.AlR := RT.obsR 4 fa fn ex (HandSHeadRun.getT s)
theorem ob_eq (s : PySem.W.SharedT) : ob s = hk.obs s.abs := RT.obsR_eq (HandSHeadRun.getT_eq s)
theorem run (w : World) : HandSHeadRun.RunEq R (PySem.W.view R.prog [31]) hk ob 4000 ["TradeError", "TooMany", "NoRow", "NoOwn", "NoText", "MOST_HANDS", "MOST_THINGS", "is_below", "is_row", "wishes_of", "things_in", "owns_of", "LETTERS", "OWN", "row_read", "rows_read", "_law_cell", "_law_row", "_law_wishes", "_law_owns", "_law_text", "_law_changed", "_law_odd", "_law_part", "_law_rows_due", "_law_due", "_law_kinds"] w := by
  intro os
  kernel_rfl
end G
open PySem PySem.W PySem.Calls PyProof.Rows
theorem PySem.Challenge.cw_ringtrade_k05_texts_refused_holds : PySem.Challenge.rw_ringtrade_k05_texts_refused.Holds := by
  w_on; o_law
  refine HandSHeadRun.head_any (r := OpenLaw.row PySem.Challenge.rw_ringtrade_k05_texts_refused) (q := view (OpenLaw.row PySem.Challenge.rw_ringtrade_k05_texts_refused).prog [31]) (H := G.hk) (ob := G.ob) (M := 4000) (loose := ["TradeError", "TooMany", "NoRow", "NoOwn", "NoText", "MOST_HANDS", "MOST_THINGS", "is_below", "is_row", "wishes_of", "things_in", "owns_of", "LETTERS", "OWN", "row_read", "rows_read", "_law_cell", "_law_row", "_law_wishes", "_law_owns", "_law_text", "_law_changed", "_law_odd", "_law_part", "_law_rows_due", "_law_due", "_law_kinds"]) (d := HandSHeadRun.topDef (OpenLaw.row PySem.Challenge.rw_ringtrade_k05_texts_refused).prog 31) (kwd := []) G.ob_eq
    (by kernel_rfl) (fun s => by kernel_rfl) G.run (by kernel_rfl) (by kernel_rfl) (by kernel_rfl) (by rfl) (by first | assumption | decide +kernel) (by decide +kernel) ⟨rfl, rfl, rfl, rfl, rfl, by decide +kernel⟩ ?hw ?hc
  case hw => w_witness2
  case hc =>
    refine L2.walk_ofE (l := PySem.Challenge.rw_ringtrade_k05_texts_refused) (n := 63) (k := 5) (x := "_law_script") (CX := L2.CX0) rfl (by decide) (by kernel_rfl) (G.room _ (by decide)) ?F (fun _ _ _ _ z => z)
    case F =>
      intro w mg fa h Y GG hmg0
      obtain ⟨K, KX, c⟩ := Y
      have hmg : mg ("law" : PySem.Str) = some (.ref fa) := by
        have e : (HandSHeadRun.topDef (OpenLaw.row PySem.Challenge.rw_ringtrade_k05_texts_refused).prog 31).name = ("law" : PySem.Str) := by kernel_rfl
        rw [← e]
        exact hmg0
      exact RT.law_fn (fa := G.fa) (fn := G.fn) (d := G.d_law) ⟨KX, GG, c.d⟩ 18 18 G.S_law (fun base => G.B_law ⟨⟨KX, GG, c.d⟩, c.more⟩) hmg G.m_law (hb := fun _ _ _ _ _ _ us hl => match us, hl with | [_], _ => rfl)
