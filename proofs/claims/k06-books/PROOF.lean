import PyProof.Rows.All
import Wide.All
import OpenK.AllK
import Wide.FinOn
import OpenK.AllK
import HandS.ForMost
import HandS.TupAny
import HandS.TupMul
import HandS.Conv
import HandS.Walk
import KE.KDictKeyed
import KE.KDictWalk
import HandS.Exc
import HandS.ExcOwn
import HandS.WordsExc
import HandS.Deep
import HandS.IsInst
import HandS.Flow
import HandS.Style
import HandS.ExcInit
import HandS.ExcField
import HandS.ExcValue
import KE.KExcIs
import HandS.NoneIn
import KE.GoesMore
import HandS.More
import HandS.SetKeys
import HandS.Strs
import HandS.TryOnly
import HandS.RaiseMore
import HandS.SortOrd
import HandS.TupLe
import HandS.NamedTupSort
import HandS.SortRule
import KE.KDictPairs
import HandS.Rev
import HandS.SortInts
import PySem.Challenge.RW_graftsay_k06_books_known
set_option Elab.async false
set_option linter.all false
set_option maxRecDepth 100000
set_option maxHeartbeats 4000000
namespace L2
open PySem PySem.W PySem.Calls PySem.Spec PyProof.Rows
/-- a tuple whose object has no dict -/
def XT (H : Hp) (a : Addr) (xs : List V) : Prop := ∃ o : Obj, H a = some (.frz o (.tup xs)) ∧ o.dict = none
theorem XT.sq {K : PySem.W.Frag} {H : Hp} {a : Addr} {xs : List V} (h : XT H a xs) : SqT K H a xs := by
  obtain ⟨o, e, _⟩ := h
  exact .inl (.inr ⟨o, e⟩)
theorem XT.new {H : Hp} {a : Addr} {xs : List V} {o : Obj} (h : o.dict = none) : XT (upd H a (.frz o (.tup xs))) a xs := ⟨o, upd_same, h⟩
section
variable {X : Cx} {es : List Expr} {t : TA} {pos : Pos} {pins : List (Addr × Obj)} {s : Shared} {σ : St} {H : Hp}
/-- a new tuple laid, told exactly -/
theorem laidX {ys : List V} {us : List Value} {h1 : Heap} {tk : Nat} (J : Inv X pins σ H { s with heap := h1 }) (rv : Vals ys us) (hz : ys.length ≤ sizeLine) :
    Inv X pins σ (upd H h1.objs.size (.frz { cls := .type "tuple", data := .seq us.toArray } (.tup ys))) { s with heap := h1.push { cls := .type "tuple", data := .seq us.toArray }, toks := tk } :=
  J.laid (t' := tk) (fun _ _ z => Heap.get?_push_of_some _ z) (Nat.le_refl _) ⟨Heap.get?_push_size _ rfl, hz, us, rv, IsTup.new _ _⟩
def tTupX (t : TA) : TE := fun σ H Q => t σ H fun ys H1 => ys.length ≤ sizeLine ∧ ∀ p o, H1 p = none → o.dict = none → Q (.ref p) (upd H1 p (.frz o (.tup ys)))
theorem pe_tupX {x1} (h : PA X es t) : PE X (.Tuple es x1 pos) (tTupX t) := ⟨fun pins s σ H Q I hq => by
  refine wpAny_Tuple_spliced (thn (h.run pos pins s σ H _ I hq) ?_)
  rintro us s1 ⟨ys, H1, J, rv, z, q⟩
  refine ⟨by rw [← rv.length]; exact z, .ref s1.heap.objs.size, _, laidX (s := s1) (tk := s1.toks) J rv z, rfl, q _ _ (J.hok.fresh (Nat.le_refl _)) rfl⟩⟩
/-- a slice of a tuple -/
def rSlX (K : PySem.W.Frag) : V → Option Int → Option Int → Hp → VK → Prop := fun x lo hi H Q => ∃ a ys, x = .ref a ∧ SqT K H a ys ∧
  ((HT.sIx ys.length 0 lo = 0 ∧ HT.sIx ys.length ys.length hi = ys.length) → Q (.ref a) H) ∧ (¬ (HT.sIx ys.length 0 lo = 0 ∧ HT.sIx ys.length ys.length hi = ys.length) → ∀ p o, H p = none → o.dict = none → Q (.ref p) (upd H p (.frz o (.tup (cutV ys lo hi)))))
theorem sl_tupX : SlR X (rSlX X.K) := by
  rintro pins s σ H x v vl vu lo hi sl Q J rx hs pl pu ⟨a, ys, rfl, hy, q1, q2⟩
  by_cases w : HT.sIx ys.length 0 lo = 0 ∧ HT.sIx ys.length ys.length hi = ys.length
  · exact sl_tupA pins s σ H _ v vl vu lo hi sl Q J rx hs pl pu ⟨a, ys, rfl, hy, q1, fun n => absurd w n⟩
  · cases rx
    obtain ⟨us, rv, ht, hz⟩ := J.tuple hy
    have hl : us.toArray.size = ys.length := by rw [List.size_toArray, rv.length]
    refine ⟨"tuple", _, PyProof.Rows.slot_tuple_getitem.lookup, ht.typeIs, HT.getItem_tuple_cut ht hs pl pu (by rw [hl]; exact w) ?_ (by rw [hl]; exact hz)⟩
    rw [hl]
    refine ⟨.ref s.heap.objs.size, _, laidX (ys := cutV ys lo hi) (tk := s.toks) J ?_ (Nat.le_trans (cutV_length ys lo hi) hz), rfl, q2 w _ _ (J.hok.fresh (Nat.le_refl _)) rfl⟩
    exact (rv.drop _).take _
/-- tuples joined -/
def rCatX (K : PySem.W.Frag) : R2 := fun x y H Q => ∃ a b xs ys, x = .ref a ∧ y = .ref b ∧ SqT K H a xs ∧ SqT K H b ys ∧ xs.length + ys.length ≤ sizeLine ∧
  ((xs = [] → Q (.ref b) H) ∧ (xs ≠ [] → ys = [] → Q (.ref a) H) ∧ (xs ≠ [] → ys ≠ [] → ∀ p o, H p = none → o.dict = none → Q (.ref p) (upd H p (.frz o (.tup (xs ++ ys))))))
theorem op_catX : OpR X (binaryOp .Add) (rCatX X.K) := by
  rintro pins s σ H x y v u Q J rx ry ⟨a, b, xs, ys, rfl, rfl, ha, hb, hz, q0, q1, q2⟩
  by_cases hx : xs = []
  · exact op_catA pins s σ H _ _ v u Q J rx ry ⟨a, b, xs, ys, rfl, rfl, ha, hb, hz, q0, q1, fun n => absurd hx n⟩
  · cases rx
    cases ry
    obtain ⟨us, r1, p1, _⟩ := J.tuple ha
    obtain ⟨ws, r2, p2, _⟩ := J.tuple hb
    refine HT.cat_tup p1 p2 (fun n => hx (r1.nil_iff.mp n)) (fun n => ⟨.ref a, H, J, rfl, q1 hx (r2.nil_iff.mp n)⟩) (fun n => ?_) (by rw [← r1.length, ← r2.length]; exact hz)
    exact ⟨.ref s.heap.objs.size, _, laidX (ys := xs ++ ys) (tk := s.toks) J (r1.append r2) (by rw [List.length_append]; exact hz), rfl, q2 hx (fun e => n (r2.nil_iff.mpr e)) _ _ (J.hok.fresh (Nat.le_refl _)) rfl⟩
/-- tuple(..) of a list or a tuple -/
def rTupX (K : PySem.W.Frag) : List V → Hp → VK → Prop := fun xs H Q => ∃ p ys, xs = [.ref p] ∧ ((SqL K H p ys ∧ ∀ l o, H l = none → o.dict = none → Q (.ref l) (upd H l (.frz o (.tup ys)))) ∨ (SqT K H p ys ∧ Q (.ref p) H))
theorem call_tupX : CallR X (.type "tuple") (rTupX X.K) := by
  rintro pins s σ H xs us Q J r ⟨p, ys, rfl, h⟩
  rcases h with ⟨hq, q⟩ | ⟨hq, q⟩
  · obtain ⟨u, rfl, rx⟩ := vals1 r
    cases rx
    obtain ⟨ws, rv, pl, hz⟩ := J.list hq
    have hl := rv.length
    refine call_tuple_list pl.isList (fun h1 kp => ?_) (by simp only [List.size_toArray] <;> omega)
    have J1 : Inv X pins σ H { s with heap := h1 } := J.kept (t' := s.toks) kp
    exact ⟨.ref h1.objs.size, _, laidX (tk := s.toks) J1 rv hz, rfl, q _ _ (J1.hok.fresh (Nat.le_refl _)) rfl⟩
  · exact call_tuple_of pins s σ H _ us Q J r ⟨p, ys, rfl, .inr ⟨hq, q⟩⟩
end
mutual
/-- a value that is such a key, by what is tracked -/
inductive NK (H : Hp) : V → NestedKey → Prop
  | non : NK H .non .none
  | bl (b : Bool) : NK H (.bl b) (.num (if b then 1 else 0))
  | int (i : Int) : NK H (.int i) (.num i)
  | str (x : Str) : NK H (.str x) (.text x)
  | tup {a : Addr} {xs : List V} {ks : List NestedKey} : XT H a xs → NKs H xs ks → NK H (.ref a) (.tup ks)
inductive NKs (H : Hp) : List V → List NestedKey → Prop
  | nil : NKs H [] []
  | cons {x : V} {xs : List V} {k : NestedKey} {ks : List NestedKey} : NK H x k → NKs H xs ks → NKs H (x :: xs) (k :: ks)
end
section
variable {P : Program} {w : World} {H : Hp} {h : Heap}
mutual
theorem NK.is (ok : HOk P w H h) : ∀ {v : V} {k : NestedKey} {u : Value}, NK H v k → RelV v u → NestedIs h k u
  | _, _, u, .non, r => by cases (show u = .none from r); exact .none
  | _, _, u, .bl b, r => by cases (show u = .bool b from r); exact .bool rfl
  | _, _, u, .int i, r => by obtain ⟨t, e⟩ := (show ∃ t, u = .int i t from r); subst e; exact .int _ _
  | _, _, u, .str i, r => by obtain ⟨t, e⟩ := (show ∃ t, u = .str i t from r); subst e; exact .text _ _
  | _, _, u, .tup (a := a) q qs, r => by
    cases (show u = .ref a from r)
    obtain ⟨o, e, _⟩ := q
    obtain ⟨e1, _, its, rv, o', e2, c, n, d⟩ := ok _ _ e
    exact .tup e2 c d (by simpa using NKs.is ok qs rv)
theorem NKs.is (ok : HOk P w H h) : ∀ {vs : List V} {ks : List NestedKey} {us : List Value}, NKs H vs ks → Vals vs us → NestedAll h ks us
  | _, _, _, .nil, .nil => .nil
  | _, _, _, .cons q qs, .cons r rs => .cons (NK.is ok q r) (NKs.is ok qs rs)
end
end
/-- a dict, by its object: each key, its value, what stands there -/
def dX (w : World) (a : Addr) (ep : Nat) (xs : List (NestedKey × Value × Value)) : HO := .ext fun h => ∃ o es, h.get? a = some o ∧ o.ExactDict ∧ o.data = .dict es ep ∧ es.toList = xs.map (fun x => (⟨x.1.hash w, x.2.1, x.2.2⟩ : DictEntry)) ∧
  (xs.map (·.1)).Nodup ∧ xs.length ≤ sizeLine ∧ (a == sysModules) = false
/-- keys that are tuples -/
def refK (y : NestedKey × Addr × Value) : NestedKey × Value × Value := (y.1, .ref y.2.1, y.2.2)
def KOk (H : Hp) (ys : List (NestedKey × Addr × Value)) : Prop := ∀ y ∈ ys, NK H (.ref y.2.1) y.1 ∧ y.1.depth ≤ 8
/-- keys that are ints and texts -/
def nkK : Key → NestedKey
  | .inl i => .num i
  | .inr x => .text x
theorem nkK_inj {a b : Key} (h : nkK a = nkK b) : a = b := by cases a <;> cases b <;> simp [nkK] at h <;> rw [h]
def valK (y : Key × Value × Value) : NestedKey × Value × Value := (nkK y.1, y.2.1, y.2.2)
def SOk (ys : List (Key × Value × Value)) : Prop := ∀ y ∈ ys, keyIs y.1 y.2.1 = true
def pairK (ys : List (Key × Value × Value)) : List (Key × Value) := ys.map fun y => (y.1, y.2.2)
section
variable {P : Program} {w : World} {H : Hp} {h : Heap} {a : Addr} {ep : Nat}
theorem dX_raw {xs : List (NestedKey × Value × Value)} (ok : HOk P w H h) (e : H a = some (dX w a ep xs)) : ∃ es, h.DictRaw a es ep ∧ es.toList = xs.map (fun x => (⟨x.1.hash w, x.2.1, x.2.2⟩ : DictEntry)) ∧ xs.length ≤ sizeLine ∧ (a == sysModules) = false := by
  obtain ⟨⟨o, es, h1, h2, h3, h4, h5, h6, h7⟩, _⟩ := ok _ _ e
  exact ⟨es, ⟨o, h1, h2, h3⟩, h4, h6, h7⟩
theorem dX_mk {xs : List (NestedKey × Value × Value)} {o : Obj} {es : Array DictEntry} (h1 : h.get? a = some o) (h2 : o.ExactDict) (h3 : o.data = .dict es ep) (h4 : es.toList = xs.map (fun x => (⟨x.1.hash w, x.2.1, x.2.2⟩ : DictEntry)))
    (h5 : (xs.map (·.1)).Nodup) (h6 : xs.length ≤ sizeLine) (h7 : (a == sysModules) = false) : ObjOk P w H h a (dX w a ep xs) :=
  ⟨⟨o, es, h1, h2, h3, h4, h5, h6, h7⟩, ⟨o, h1⟩, fun g1 g2 ⟨o', es', q1, q2⟩ k => ⟨o', es', k _ q1, q2⟩⟩
theorem dX_ofT {ys : List (NestedKey × Addr × Value)} (ok : HOk P w H h) (e : H a = some (dX w a ep (ys.map refK))) (hk : KOk H ys) : h.DictOfH (nestedKind P w) a ys ∧ ys.length ≤ sizeLine ∧ (a == sysModules) = false := by
  obtain ⟨⟨o, es, h1, h2, h3, h4, h5, h6, h7⟩, _⟩ := ok _ _ e
  rw [List.map_map] at h4 h5
  rw [List.length_map] at h6
  exact ⟨⟨o, es, ep, h1, h2, h3, h4, fun x m => ⟨(hk x m).1.is ok rfl, (hk x m).2⟩, h5⟩, h6, h7⟩
theorem dX_okT {ys : List (NestedKey × Addr × Value)} (hd : h.DictOfH (nestedKind P w) a ys) (hz : ys.length ≤ sizeLine) (hs : (a == sysModules) = false) : ∃ ep, ∀ H, ObjOk P w H h a (dX w a ep (ys.map refK)) := by
  obtain ⟨o, es, ep, h1, h2, h3, h4, _, h5⟩ := hd
  exact ⟨ep, fun H => dX_mk h1 h2 h3 (by rw [List.map_map]; exact h4) (by rw [List.map_map]; exact h5) (by rw [List.length_map]; exact hz) hs⟩
theorem pairs_valK (P : Program) (w : World) : ∀ {ys : List (Key × Value × Value)}, SOk ys → Pairs (mixKind P w) (ys.map fun y => (⟨(nkK y.1).hash w, y.2.1, y.2.2⟩ : DictEntry)) (pairK ys)
  | [], _ => .nil
  | y :: ys, h => .cons (h y (by simp)) rfl (pairs_valK P w fun z m => h z (by simp [m]))
theorem hash_nkK (w : World) (k : Key) : (nkK k).hash w = keyH w k := by cases k <;> rfl
theorem dX_ofS {ys : List (Key × Value × Value)} (ok : HOk P w H h) (e : H a = some (dX w a ep (ys.map valK))) (hk : SOk ys) : h.DictOf (mixKind P w) a (pairK ys) ∧ (pairK ys).length ≤ sizeLine ∧ (a == sysModules) = false := by
  obtain ⟨⟨o, es, h1, h2, h3, h4, h5, h6, h7⟩, _⟩ := ok _ _ e
  rw [List.map_map] at h4 h5
  rw [List.length_map] at h6
  have h4 : es.toList = ys.map fun y => (⟨(nkK y.1).hash w, y.2.1, y.2.2⟩ : DictEntry) := h4
  refine ⟨⟨o, es, ep, h1, h2, h3, fun x m => ?_, by rw [h4]; exact pairs_valK P w hk, ?_⟩, by unfold pairK; rw [List.length_map]; exact h6, h7⟩
  · have m' : x ∈ es.toList := by simpa using m
    rw [h4] at m'
    obtain ⟨y, my, rfl⟩ := List.mem_map.mp m'
    exact ⟨y.1, hk y my, hash_nkK w y.1⟩
  · have h5 : (ys.map fun y => nkK y.1).Nodup := h5
    unfold pairK
    rw [List.map_map]
    have h6 : ((ys.map fun y => y.1).map nkK).Nodup := by rw [List.map_map]; exact h5
    exact (List.pairwise_map.mp h6).imp fun n e => n (by rw [e])
theorem pairs_back : ∀ {es : List DictEntry} {vs : List (Key × Value)}, Pairs (mixKind P w) es vs → (∀ e ∈ es, ∃ k, keyIs k e.key = true ∧ e.hash = keyH w k) → ∃ ys, SOk ys ∧ pairK ys = vs ∧ es = ys.map fun y => (⟨(nkK y.1).hash w, y.2.1, y.2.2⟩ : DictEntry)
  | _, _, .nil, _ => ⟨[], fun _ m => (by cases m), rfl, rfl⟩
  | _, _, .cons (e := e) (kv := kv) h1 h2 t, hk => by
    obtain ⟨ys, q1, q2, q3⟩ := pairs_back t fun e m => hk e (by simp [m])
    obtain ⟨k, r1, r2⟩ := hk e (by simp)
    have ek : k = kv.1 := (mixKind P w).inj _ _ _ r1 h1
    subst ek
    refine ⟨(kv.1, e.key, kv.2) :: ys, fun y m => ?_, by simp [pairK] at q2 ⊢; exact q2, ?_⟩
    · cases m with
      | head => exact h1
      | tail _ m => exact q1 y m
    · rw [List.map_cons, ← q3]
      congr 1
      cases e
      simp only at h2 r2
      simp [hash_nkK, r2, h2]
theorem dX_okS {vs : List (Key × Value)} (hd : h.DictOf (mixKind P w) a vs) (hz : vs.length ≤ sizeLine) (hs : (a == sysModules) = false) : ∃ ep ys, SOk ys ∧ pairK ys = vs ∧ ∀ H, ObjOk P w H h a (dX w a ep (ys.map valK)) := by
  obtain ⟨o, es, ep, h1, h2, h3, hk, hp, hn⟩ := hd
  obtain ⟨ys, q1, q2, q3⟩ := pairs_back hp fun e m => hk e (by simpa using m)
  refine ⟨ep, ys, q1, q2, fun H => dX_mk h1 h2 h3 (by rw [List.map_map]; exact q3) ?_ ?_ hs⟩
  · rw [List.map_map]
    have e : ys.map ((fun x => x.1) ∘ valK) = (vs.map (·.1)).map nkK := by rw [← q2]; unfold pairK; rw [List.map_map, List.map_map]; rfl
    rw [e]
    exact List.Pairwise.map nkK (fun a b n e => n (nkK_inj e)) hn
  · rw [List.length_map]
    have : (pairK ys).length = ys.length := by simp [pairK]
    rw [← this, q2]
    exact hz
end
def look (xs : List (NestedKey × Value × Value)) (k : NestedKey) : Option Value := (xs.find? fun x => decide (x.1 = k)).map (·.2.2)
theorem look_T (ys : List (NestedKey × Addr × Value)) (k : NestedKey) : look (ys.map refK) k = valueAt (pairsH ys) k := by
  induction ys with
  | nil => rfl
  | cons y ys ih =>
    by_cases e : y.1 = k
    · simp [look, refK, pairsH, valueAt, e]
    · simpa [look, refK, pairsH, valueAt, e] using ih
theorem look_S (ys : List (Key × Value × Value)) (k : Key) : look (ys.map valK) (nkK k) = valueAt (pairK ys) k := by
  induction ys with
  | nil => rfl
  | cons y ys ih =>
    by_cases e : y.1 = k
    · simp [look, valK, pairK, valueAt, e]
    · have n : ¬ nkK y.1 = nkK k := fun q => e (nkK_inj q)
      simpa [look, valK, pairK, valueAt, e, n] using ih
/-- a key that may be asked for -/
def KeyAt (H : Hp) (v : V) (b : Addr) (k : NestedKey) : Prop := v = .ref b ∧ NK H (.ref b) k ∧ k.depth ≤ 8
/-- y asked of the dict at a -/
def LookX (w : World) (H : Hp) (a : Addr) (y : V) (r : Option Value) : Prop := ∃ ep xs k, H a = some (dX w a ep xs) ∧ r = look xs k ∧ ((∃ b ys, xs = ys.map refK ∧ KOk H ys ∧ KeyAt H y b k) ∨ (∃ ys kk, xs = ys.map valK ∧ SOk ys ∧ y = kV kk ∧ k = nkK kk))
section
variable {X : Cx}
theorem KeyAt.is {P : Program} {w : World} {H : Hp} {h : Heap} {v : V} {b : Addr} {k : NestedKey} (ok : HOk P w H h) (q : KeyAt H v b k) : (nestedKind P w).is h k b := ⟨q.2.1.is ok rfl, q.2.2⟩
theorem roomX (hu : X.A.units + 65 < cLine) : (nestedKind X.prog X.w).room X.A.in1 := by
  show X.A.units + 1 + 8 < cLine
  omega
/-- the two sorts of asking -/
theorem LookX.cases {pins : List (Addr × Obj)} {σ : St} {H : Hp} {s : Shared} {a : Addr} {y : V} {u : Value} {r : Option Value} (g : LookX X.w H a y r) (J : Inv X pins σ H s) (ry : RelV y u) :
    (a == sysModules) = false ∧ ((∃ b ys k, u = .ref b ∧ s.heap.DictOfH (nestedKind X.prog X.w) a ys ∧ (nestedKind X.prog X.w).is s.heap k b ∧ r = valueAt (pairsH ys) k) ∨ ∃ vs kk, s.heap.DictOf (mixKind X.prog X.w) a vs ∧ (mixKind X.prog X.w).is kk u = true ∧ r = valueAt vs kk) := by
  obtain ⟨ep, xs, k, e, er, g⟩ := g
  rcases g with ⟨b, ys, rfl, hk, hy⟩ | ⟨ys, kk, rfl, hk, rfl, rfl⟩
  · obtain ⟨hm, hz, hs⟩ := dX_ofT J.hok e hk
    refine ⟨hs, .inl ⟨b, ys, k, ?_, hm, hy.is J.hok, by rw [er, look_T]⟩⟩
    obtain ⟨rfl, _⟩ := hy
    exact ry
  · obtain ⟨hm, hz, hs⟩ := dX_ofS J.hok e hk
    exact ⟨hs, .inr ⟨_, kk, hm, kV_is ry, by rw [er, look_S]⟩⟩
def rXG (w : World) : R2 := fun x y H Q => ∃ a u v, x = .ref a ∧ LookX w H a y (some u) ∧ RelV v u ∧ Q v H
theorem ix_dX (hu : X.A.units + 65 < cLine) : IxR X (rXG X.w) := by
  rintro value slice pins s σ H x y v u Q I rx ry ⟨a, uu, vv, rfl, g, rv, q⟩ hs
  obtain rfl : v = Value.ref a := rx
  obtain ⟨hsm, g⟩ := g.cases I ry
  have hT : s.TypeIs (.ref a) "dict" := by
    rcases g with ⟨b, ys, k, _, hm, _⟩ | ⟨vs, kk, hm, _⟩
    · exact hm.typeIs
    · exact hm.typeIs
  unfold subscriptTail
  refine wpAny_bind ?_
  rw [getitemInPython_of_ne hT.not_modules]
  refine wpAny_bind (wpAny_specialOf hT PySem.F.slot_dict_getitem.lookup ?_)
  have fin : wpAny (model X.prog X.w) X.A (subscripted slice false (Value.ref a) u) (fun r s₃ => wpAny (model X.prog X.w) X.A (letTemporaryGo value (Value.ref a) r >>= fun _ => pure r) (EP X pins σ Q) X.xe s₃) X.xe s := by
    rw [hs]
    refine wpAny_operating (wpAny_mono (Q := EP X pins σ Q) (E := X.xe) ?_ (fun r s₃ h₃ => wpAny_bind (wpAny_letTemporaryGo (wpAny_pure h₃))) fun _ _ x => x)
    rcases g with ⟨b, ys, k, rfl, hm, hk, e⟩ | ⟨vs, kk, hm, hk, e⟩
    · exact getItem_keyed (roomX hu) hk ⟨ys, hm, rfl⟩ e.symm ⟨vv, H, I.tok _, rv, q⟩
    · exact wpAny_getItem_of hk hm.mapOf e.symm ⟨vv, H, I.tok _, rv, q⟩
  exact wpAny_pure (wpAny_bind fin)
def rXin (neg : Bool) (w : World) : R2 := fun y x H Q => ∃ a r, x = .ref a ∧ LookX w H a y r ∧ Q (.bl (neg ^^ r.isSome)) H
theorem op_Xin (hu : X.A.units + 65 < cLine) : OpR X (compareOp .In) (rXin false X.w) := by
  rintro pins s σ H y x v u Q I ry rx ⟨a, r, rfl, g, q⟩
  obtain rfl : u = Value.ref a := rx
  obtain ⟨hsm, g⟩ := g.cases I ry
  rw [Bool.false_xor] at q
  rcases g with ⟨b, ys, k, rfl, hm, hk, rfl⟩ | ⟨vs, kk, hm, hk, rfl⟩
  · exact in_keyed (roomX hu) hk hsm ⟨ys, hm, rfl⟩ ⟨.bl _, H, I.tok _, rfl, q⟩
  · exact wpAny_in_of hk hsm hm.mapOf ⟨.bl _, H, I.tok _, rfl, q⟩
theorem op_Xni (hu : X.A.units + 65 < cLine) : OpR X (compareOp .NotIn) (rXin true X.w) := by
  rintro pins s σ H y x v u Q I ry rx ⟨a, r, rfl, g, q⟩
  obtain rfl : u = Value.ref a := rx
  obtain ⟨hsm, g⟩ := g.cases I ry
  rw [Bool.true_xor] at q
  rcases g with ⟨b, ys, k, rfl, hm, hk, rfl⟩ | ⟨vs, kk, hm, hk, rfl⟩
  · exact notIn_keyed (roomX hu) hk hsm ⟨ys, hm, rfl⟩ ⟨.bl _, H, I.tok _, rfl, q⟩
  · exact wpAny_notIn_of hk hsm hm.mapOf ⟨.bl _, H, I.tok _, rfl, q⟩
/-- d[k] = v -/
def rXS (w : World) : TSet := fun o i v H Q => ∃ a ep xs, o = .ref a ∧ H a = some (dX w a ep xs) ∧ xs.length < sizeLine ∧ ((∃ b ys k, xs = ys.map refK ∧ KOk H ys ∧ KeyAt H i b k ∧ ∀ ep u, RelV v u → Q (upd H a (dX w a ep ((storedH ys k b u).map refK)))) ∨
  (∃ ys k, xs = ys.map valK ∧ SOk ys ∧ i = kV k ∧ ∀ ep u zs, RelV v u → SOk zs → pairK zs = stored (pairK ys) k u → Q (upd H a (dX w a ep (zs.map valK)))))
theorem storedH_len (xs : List (NestedKey × Addr × Value)) (k : NestedKey) (b : Addr) (u : Value) : (storedH xs k b u).length ≤ xs.length + 1 := by
  unfold storedH
  split <;> simp
theorem stored_len (xs : List (Key × Value)) (k : Key) (u : Value) : (stored xs k u).length ≤ xs.length + 1 := by
  unfold stored
  split <;> simp
theorem set_dX (hu : X.A.units + 65 < cLine) : PSet X (rXS X.w) := by
  rintro pins s σ H o i v ov iv u Q I ro ri rv ⟨a, ep, xs, rfl, e, hz, h⟩
  obtain rfl : ov = Value.ref a := ro
  have mu : Mut (H a) := by rw [e]; exact True.intro
  rcases h with ⟨b, ys, k, rfl, hk, hi, q⟩ | ⟨ys, k, rfl, hk, rfl, q⟩
  · obtain rfl : iv = Value.ref b := by obtain ⟨rfl, _⟩ := hi; exact ri
    obtain ⟨hm, _, hsm⟩ := dX_ofT I.hok e hk
    rw [List.length_map] at hz
    refine wpAny_setItem_heap (hsz := Nat.le_of_lt hz) (roomX hu) (hi.is I.hok) hm fun h' hm' hs => ?_
    obtain ⟨ep, ok⟩ := dX_okT hm' (Nat.le_trans (storedH_len ys k b u) hz) hsm
    exact ⟨_, I.write (t' := s.toks + (nestedKind X.prog X.w).draws k) mu (.inl rfl) (fun c o nc e => (hs.2 c nc).trans e) (let ⟨o, _, _, e, _⟩ := hm'; ⟨o, e⟩) (ok _), q ep u rv⟩
  · obtain ⟨hm, hz2, hsm⟩ := dX_ofS I.hok e hk
    have lz : (pairK ys).length = ys.length := by simp [pairK]
    rw [List.length_map, ← lz] at hz
    refine wpAny_setItem_pairs (hsz := hz2) (kV_is ri) hm fun h' hm' hs => ?_
    obtain ⟨ep, zs, z1, z2, ok⟩ := dX_okS hm' (Nat.le_trans (stored_len _ _ _) hz) hsm
    exact ⟨_, I.write (t' := s.toks + 1) mu (.inl rfl) (fun c o nc e => (hs.2 c nc).trans e) (let ⟨o, _, _, e, _⟩ := hm'; ⟨o, e⟩) (ok _), q ep u zs rv z1 z2⟩
end
section
variable {X : Cx} {o e f : Expr} {apos cpos : Pos} {td ty tx : TE}
end
def tRe (w : World) (t : TE) : TE := fun σ H Q => t σ H fun v H1 => ∃ p kvs, v = .ref p ∧ H1 p = some (.dK kvs) ∧ ∀ ep ys, SOk ys → KV kvs (pairK ys) → Q v (upd H1 p (dX w p ep (ys.map valK)))
theorem pe_re {X : Cx} {e : Expr} {t : TE} (h : PE X e t) : PE X e (tRe X.w t) := ⟨fun pins s σ H Q J q => by
  refine thn (h.run pins s σ H _ J q) ?_
  rintro u s1 ⟨x, H1, J1, rx, p, kvs, rfl, e, q1⟩
  obtain ⟨hz, hs, vs, rel, hd⟩ := J1.hok _ _ e
  have hz2 : vs.length ≤ sizeLine := by rw [← rel.length]; exact hz
  obtain ⟨ep, ys, y1, y2, ok⟩ := dX_okS hd hz2 hs
  refine ⟨.ref p, _, J1.write (t' := s1.toks) (by rw [e]; exact True.intro) (.inl rfl) (fun c o _ z => z) (let ⟨o, _, _, z, _⟩ := hd; ⟨o, z⟩) (ok _), rx, q1 ep ys y1 (by rw [y2]; exact rel)⟩⟩
def Itx (w : World) (d : Addr) (ep : Nat) (xs : List (NestedKey × Value × Value)) (vs : List V) : It :=
  ⟨fun i H => H d = some (dX w d ep xs) ∧ i < vs.length, fun i H x H' => H' = H ∧ vs[i]? = some x, fun i H => H d = some (dX w d ep xs) ∧ vs.length ≤ i⟩
theorem turn_dX {P : Program} {w : World} {K : PySem.W.Frag} {tg : Expr} {d : Addr} {ep : Nat} {xs : List (NestedKey × Value × Value)} {vs : List V} (it : Addr) (rv : Vals vs (xs.map (·.2.1))) :
    Turn P w K tg (Itx w d ep xs vs) [it] it (fun i h => h.IsKeyIter it d i vs.length ep) where
  mem := List.mem_singleton.mpr rfl
  obj := fun i h st b hb => by
    obtain rfl := List.mem_singleton.mp hb
    obtain ⟨oi, e, c, dd⟩ := st
    exact ⟨oi, e, fun v z => by rw [dd] at z; cases z⟩
  keep := fun i h h' st k => st.at fun oi e => k it (List.mem_singleton.mpr rfl) oi e
  item := by
    rintro X rfl rfl rfl hc i pins s σ H E J hf st ⟨hd, hi⟩
    obtain ⟨f0, f1, f2, f3, f4, f5⟩ := hf it (List.mem_singleton.mpr rfl)
    obtain ⟨es, hm, he, _, _⟩ := dX_raw J.hok hd
    have ls : es.size = vs.length := by rw [← Array.length_toList, he, List.length_map, rv.length, List.length_map]
    obtain ⟨x, hx⟩ : ∃ x, vs[i]? = some x := ⟨vs[i], List.getElem?_eq_getElem hi⟩
    obtain ⟨u, hu, ru⟩ := rv.get hx
    rw [← ls] at st hi
    refine wpAny_pyNext_keys_item_raw st hm hi fun h' st' sb => ?_
    have ek : es[i].key = u := by
      rw [List.getElem?_map] at hu
      obtain ⟨y, hy, rfl⟩ := Option.map_eq_some_iff.mp hu
      have h1 : es.toList[i]? = some es[i] := by rw [Array.getElem?_toList, Array.getElem?_eq_getElem hi]
      rw [he, List.getElem?_map, hy] at h1
      exact (congrArg DictEntry.key (Option.some.inj h1)).symm
    have J1 : Inv X pins σ H { s with heap := h' } := J.turned (t' := s.toks) (fun b ob nb e => (sb.2 b nb).trans e) f0 f1 f3 f4 f5
    obtain ⟨oi, e, c, dd⟩ := id st'
    refine ⟨_, rfl, go_of (s := { s with heap := h' }) e c dd (by decide) ⟨x, H, J1, by rw [ek]; exact ru, ⟨rfl, hx⟩, ?_, fun b hb => (hf b hb).1⟩⟩
    show h'.IsKeyIter it d (i + 1) vs.length ep
    rw [← ls]
    exact st'
  done := by
    rintro X rfl rfl rfl hc i pins s σ H E J hf st ⟨hd, hi⟩
    obtain ⟨f0, f1, f2, f3, f4, f5⟩ := hf it (List.mem_singleton.mpr rfl)
    obtain ⟨es, hm, he, _, _⟩ := dX_raw J.hok hd
    have ls : es.size = vs.length := by rw [← Array.length_toList, he, List.length_map, rv.length, List.length_map]
    rw [← ls] at st hi
    exact wpAny_pyNext_keys_end_raw (J.ok.hd hc) st hm hi fun h' eb => ⟨rfl, J.turned (t' := s.toks) (fun b ob nb e => eb b ob nb e) f0 f1 f3 f4 f5⟩
  self := fun A i s Q E st h => wpAny_pyIter_keyiter st h
theorem walk_dX {w : World} {d : Addr} {ep : Nat} {xs : List (NestedKey × Value × Value)} {vs : List V} : Walk (Itx w d ep xs vs) vs.length (fun H => H d = some (dX w d ep xs)) (YAt vs) :=
  ⟨fun i _ hi q => ⟨q, hi⟩, fun _ q => ⟨q, Nat.le_refl _⟩, fun i H v H' _ q y => y⟩
end L2
namespace GS
open PySem L2
abbrev D := PyData
/-- the written part and the world -/
structure KW where
  fr : PySem.W.Frag
  w : World
instance : CoeOut KW PySem.W.Frag := ⟨KW.fr⟩
/-- how a slot holds its datum: shared (never changed any more), owned (the slot's own list or dict), lent by the caller -/
inductive Fl where | sh | ow | io
  deriving DecidableEq
structure Cel where
  d : D
  fl : Fl
abbrev Rho := List (Option Cel)
/-- what an expression gives: a shared datum, a new list or dict that nobody else holds, what stands in a slot -/
inductive Hd where | sh (d : D) | fr (d : D) | bw (i : Nat)
/-- an exception: its class's name, its fields -/
structure Xc where
  cls : Str
  fs : List (Str × D)
inductive RE where | stuck | ok (h : Hd) (ρ : Rho) | exc (x : Xc) (ρ : Rho)
inductive RS where | stuck | nx (ρ : Rho) | rt (h : Hd) (ρ : Rho) | bk (ρ : Rho) | ct (ρ : Rho) | exc (x : Xc) (ρ : Rho)
abbrev EF := Rho → RE
abbrev SF := Rho → RS
mutual
/-- a datum as a key -/
def nkD : D → Option NestedKey
  | .none => some .none
  | .bool b => some (.num (if b then 1 else 0))
  | .int i => some (.num i)
  | .str x => some (.text x)
  | .tuple ds => (nkL ds).map .tup
  | .list _ => none
  | .dict _ => none
def nkL : List D → Option (List NestedKey)
  | [] => some []
  | d :: ds => (nkD d).bind fun k => (nkL ds).map fun ks => k :: ks
end
/-- a tuple as a key -/
def tkD (ds : List D) : Option NestedKey := (nkL ds).bind fun ks => if (NestedKey.tup ks).depth ≤ 8 then some (.tup ks) else none
def tupB : D → Bool
  | .tuple _ => true
  | _ => false
/-- what may be a key -/
def keyD : D → Option NestedKey
  | .int i => some (.num i)
  | .str x => some (.text x)
  | .tuple ds => tkD ds
  | _ => none
def kD : Key → D
  | .inl i => .int i
  | .inr x => .str x
/-- the class of that name in the written part -/
def cvK (K : PySem.W.Frag) (c : Str) : Value := match K.find? (fun p => match p.2.data with | .cls cd => cd.name == c | _ => false) with
  | some p => .ref p.1
  | none => .none
/-- an exception object -/
def exV (a : Addr) (cls : Value) (d : Option Addr) : HO := .ext fun h => ∃ (oe : Obj) (vs : Array Value), h.get? a = some oe ∧ Zc cls d oe ∧ oe.data = .fields vs
/-- what the written part says of an own exception class -/
def xcB (K : PySem.W.Frag) (cls : Value) : Bool := match cls with
  | .ref D => (PySem.W.clsIn K D).isSome && (decide (PySem.W.findIn K (.ref D) "__getattribute__" = some (some (.builtin "BaseException.__getattribute__"))) && (decide (PySem.W.findIn K (.ref D) "__getattr__" = some none) && (decide (PySem.W.subIn K (.ref D) (.type "BaseException") = some true) &&
      (PySem.W.hasDictIn K D && (decide (PySem.W.findIn K (.ref D) "__class__" = some (some (.builtin "object.__class__"))) && (decide (PySem.W.specialIn K (.builtin "object.__class__") "__get__" = some (some (.builtin "getset_descriptor.__get__"))) &&
      (decide (PySem.W.takesIn K (.builtin "object.__class__") = some true) && (decide (PySem.W.mroIn K D (.type "object") = some true) && ["tuple", "str", "bool", "int", "list", "dict"].all fun T => decide (PySem.W.kitOne K (.ref D) (.type T) = some false)))))))))
  | _ => false
/-- an exception as a datum: its class's name, its fields' names, what they hold -/
abbrev xnD (c : Str) (ns : List Str) (ds : List D) : D := .dict [(.none, .tuple (.str c :: .tuple (ns.map PyData.str) :: ds))]
def xnB : List (D × D) → Bool
  | (.none, _) :: _ => true
  | _ => false
/-- an exception's dict -/
def XdB (B : Hp) (d : Option Addr) (fs : List (Str × V)) : Prop := (d = none ∧ fs = []) ∨ ∃ dd, d = some dd ∧ B dd = some (.xd fs)
mutual
inductive Rp (K : KW) (B : Hp) : V → D → Prop
  | non : Rp K B .non .none
  | bl (b : Bool) : Rp K B (.bl b) (.bool b)
  | int (i : Int) : Rp K B (.int i) (.int i)
  | str (x : Str) : Rp K B (.str x) (.str x)
  | lst {a : Addr} {xs : List V} {ds : List D} : SqL K B a xs → RpL K B xs ds → Rp K B (.ref a) (.list ds)
  | tup {a : Addr} {xs : List V} {ds : List D} : XT B a xs → RpL K B xs ds → Rp K B (.ref a) (.tuple ds)
  | dct {a : Addr} {ep : Nat} {b : Bool} {xs : List (NestedKey × Value × Value)} {ps : List (D × D)} : B a = some (dX K.w a ep xs) → RpX K B b xs ps → Rp K B (.ref a) (.dict ps)
  | exn {a : Addr} {c : Str} {d : Option Addr} {fs : List (Str × V)} {ds : List D} : B a = some (exV a (cvK K c) d) → xcB K (cvK K c) = true → XdB B d fs → RpL K B (fs.map (·.2)) ds → Rp K B (.ref a) (xnD c (fs.map (·.1)) ds)
inductive RpL (K : KW) (B : Hp) : List V → List D → Prop
  | nil : RpL K B [] []
  | cons {v : V} {vs : List V} {d : D} {ds : List D} : Rp K B v d → RpL K B vs ds → RpL K B (v :: vs) (d :: ds)
inductive RpK (K : KW) (B : Hp) : List (Key × V) → List (D × D) → Prop
  | nil : RpK K B [] []
  | cons {k : Key} {v : V} {kvs : List (Key × V)} {d : D} {ps : List (D × D)} : Rp K B v d → RpK K B kvs ps → RpK K B ((k, v) :: kvs) ((kD k, d) :: ps)
inductive RpX (K : KW) (B : Hp) : Bool → List (NestedKey × Value × Value) → List (D × D) → Prop
  | nil {b : Bool} : RpX K B b [] []
  | cons {b : Bool} {k : NestedKey} {kv v : V} {ku u : Value} {xs : List (NestedKey × Value × Value)} {kd d : D} {ps : List (D × D)} : keyD kd = some k → tupB kd = b → Rp K B kv kd → RelV kv ku → RelV v u → Rp K B v d → RpX K B b xs ps → RpX K B b ((k, ku, u) :: xs) ((kd, d) :: ps)
end
theorem same_rd {H H' : Hp} {a : Addr} {u : HO} (e : Same H H') (h : Rd H a u) : Rd H' a u := by
  rcases h with h | ⟨o, h⟩
  · exact .inl (e _ _ h)
  · exact .inr ⟨o, e _ _ h⟩
theorem same_l {K : KW} {H H' : Hp} {a : Addr} {xs : List V} (e : Same H H') (h : SqL K H a xs) : SqL K H' a xs := h.elim (fun h => .inl (same_rd e h)) .inr
theorem same_t {K : KW} {H H' : Hp} {a : Addr} {xs : List V} (e : Same H H') (h : SqT K H a xs) : SqT K H' a xs := h.elim (fun h => .inl (same_rd e h)) .inr
theorem same_x {H H' : Hp} {a : Addr} {xs : List V} (e : Same H H') (h : XT H a xs) : XT H' a xs := let ⟨o, h1, h2⟩ := h; ⟨o, e _ _ h1, h2⟩
theorem XdB.mono {B B' : Hp} {d : Option Addr} {fs : List (Str × V)} (e : Same B B') (h : XdB B d fs) : XdB B' d fs := h.imp id fun ⟨dd, e1, e2⟩ => ⟨dd, e1, e _ _ e2⟩
section
variable {K : KW} {B B' : Hp}
mutual
theorem Rp.mono (e : Same B B') : ∀ {v : V} {d : D}, Rp K B v d → Rp K B' v d
  | _, _, .non => .non
  | _, _, .bl b => .bl b
  | _, _, .int i => .int i
  | _, _, .str x => .str x
  | _, _, .lst h t => .lst (same_l e h) (RpL.mono e t)
  | _, _, .tup h t => .tup (same_x e h) (RpL.mono e t)
  | _, _, .dct h t => .dct (e _ _ h) (RpX.mono e t)
  | _, _, .exn h q x t => .exn (e _ _ h) q (x.mono e) (RpL.mono e t)
theorem RpL.mono (e : Same B B') : ∀ {v : List V} {d : List D}, RpL K B v d → RpL K B' v d
  | _, _, .nil => .nil
  | _, _, .cons h t => .cons (Rp.mono e h) (RpL.mono e t)
theorem RpK.mono (e : Same B B') : ∀ {v : List (Key × V)} {d : List (D × D)}, RpK K B v d → RpK K B' v d
  | _, _, .nil => .nil
  | _, _, .cons h t => .cons (Rp.mono e h) (RpK.mono e t)
theorem RpX.mono (e : Same B B') : ∀ {b : Bool} {v : List (NestedKey × Value × Value)} {d : List (D × D)}, RpX K B b v d → RpX K B' b v d
  | _, _, _, .nil => .nil
  | _, _, _, .cons h1 h2 h3 h4 h5 h6 m => .cons h1 h2 (Rp.mono e h3) h4 h5 (Rp.mono e h6) (RpX.mono e m)
end
theorem RpL.length : ∀ {vs : List V} {ds : List D}, RpL K B vs ds → vs.length = ds.length
  | _, _, .nil => rfl
  | _, _, .cons _ t => by rw [List.length_cons, List.length_cons, RpL.length t]
theorem RpL.get : ∀ {vs : List V} {ds : List D} {i : Nat} {d : D}, RpL K B vs ds → ds[i]? = some d → ∃ v, vs[i]? = some v ∧ Rp K B v d
  | _, _, _, _, .nil, e => by simp at e
  | _, _, 0, _, .cons h _, e => by simp at e; subst e; exact ⟨_, rfl, h⟩
  | _, _, i + 1, d, .cons _ t, e => by
    obtain ⟨v, h1, h2⟩ := RpL.get (i := i) (d := d) t (by simpa using e)
    exact ⟨v, by simpa using h1, h2⟩
theorem RpL.getV : ∀ {vs : List V} {ds : List D} {i : Nat} {v : V}, RpL K B vs ds → vs[i]? = some v → ∃ d, ds[i]? = some d ∧ Rp K B v d
  | _, _, _, _, .nil, e => by simp at e
  | _, _, 0, _, .cons h _, e => by simp at e; subst e; exact ⟨_, rfl, h⟩
  | _, _, i + 1, d, .cons _ t, e => by
    obtain ⟨v, h1, h2⟩ := RpL.getV (i := i) (v := d) t (by simpa using e)
    exact ⟨v, by simpa using h1, h2⟩
theorem RpL.append : ∀ {vs ws : List V} {ds es : List D}, RpL K B vs ds → RpL K B ws es → RpL K B (vs ++ ws) (ds ++ es)
  | _, _, _, _, .nil, s => s
  | _, _, _, _, .cons h t, s => .cons h (RpL.append t s)
theorem RpL.take : ∀ {vs : List V} {ds : List D} (n : Nat), RpL K B vs ds → RpL K B (vs.take n) (ds.take n)
  | _, _, 0, _ => .nil
  | _, _, _ + 1, .nil => .nil
  | _, _, n + 1, .cons h t => .cons h (RpL.take n t)
theorem RpL.drop : ∀ {vs : List V} {ds : List D} (n : Nat), RpL K B vs ds → RpL K B (vs.drop n) (ds.drop n)
  | _, _, 0, r => r
  | _, _, _ + 1, .nil => .nil
  | _, _, n + 1, .cons _ t => RpL.drop n t
theorem RpL.set {x : V} {e : D} (r : Rp K B x e) : ∀ {vs : List V} {ds : List D} (i : Nat), RpL K B vs ds → RpL K B (vs.set i x) (ds.set i e)
  | _, _, _, .nil => .nil
  | _, _, 0, .cons _ t => .cons r t
  | _, _, i + 1, .cons q t => .cons q (RpL.set r i t)
theorem RpL.reverse {vs : List V} {ds : List D} (h : RpL K B vs ds) : RpL K B vs.reverse ds.reverse := by
  induction vs generalizing ds with
  | nil => cases h; exact .nil
  | cons v vs ih =>
    cases h with
    | cons h1 h2 =>
      rw [List.reverse_cons, List.reverse_cons]
      exact (ih h2).append (.cons h1 .nil)
mutual
def plain : D → Bool
  | .none => true
  | .bool _ => true
  | .int _ => true
  | .str _ => true
  | .list ds => plainL ds
  | .tuple ds => plainL ds
  | .dict _ => false
def plainL : List D → Bool
  | [] => true
  | d :: ds => plain d && plainL ds
end
mutual
theorem Rp.dp : ∀ {v : V} (d : D), Rp K B v d → plain d = true → Dp K B v d
  | _, .none, .non, _ => .non
  | _, .bool _, .bl b, _ => .bl b
  | _, .int _, .int i, _ => .int i
  | _, .str _, .str x, _ => .str x
  | _, .list ds, .lst h t, e => .lst h (RpL.dp ds t (by unfold plain at e; exact e))
  | _, .tuple ds, .tup h t, e => .tup h.sq (RpL.dp ds t (by unfold plain at e; exact e))
  | _, .dict _, .dct h t, e => by unfold plain at e; cases e
  | _, .dict _, .exn _ _ _ _, e => by unfold plain at e; cases e
theorem RpL.dp : ∀ {vs : List V} (ds : List D), RpL K B vs ds → plainL ds = true → DpAll K B vs ds
  | _, [], .nil, _ => .nil
  | _, d :: ds, .cons h t, e => by
    unfold plainL at e
    rw [Bool.and_eq_true] at e
    exact .cons (Rp.dp d h e.1) (RpL.dp ds t e.2)
end
end
/-- the object of an owned slot -/
def Ow (K : KW) (B : Hp) (a : Addr) (o : Option HO) : D → Prop
  | .list ds => ∃ vs, o = some (.lst vs) ∧ RpL K B vs ds
  | .dict ps => ∃ ep b xs, o = some (dX K.w a ep xs) ∧ RpX K B b xs ps
  | _ => False
theorem Ow.mono {K : KW} {B B' : Hp} {a : Addr} {o : Option HO} (e : Same B B') : ∀ {d : D}, Ow K B a o d → Ow K B' a o d
  | .list _, ⟨vs, h1, h2⟩ => ⟨vs, h1, h2.mono e⟩
  | .dict _, ⟨ep, b, xs, h1, h2⟩ => ⟨ep, b, xs, h1, h2.mono e⟩
theorem Ow.some {K : KW} {B : Hp} {a : Addr} {o : Option HO} : ∀ {d : D}, Ow K B a o d → ∃ u, o = Option.some u
  | .list _, ⟨vs, h1, _⟩ => ⟨_, h1⟩
  | .dict _, ⟨_, _, _, h1, _⟩ => ⟨_, h1⟩
/-- slot i holds v by c -/
def COk (K : KW) (B H : Hp) (c : Cel) (v : V) : Prop :=
  (c.fl = .sh ∧ Rp K B v c.d) ∨ (c.fl ≠ .sh ∧ ∃ a, v = .ref a ∧ B a = none ∧ Ow K B a (H a) c.d)
def OwnA (ρ : Rho) (σ : St) (a : Addr) : Prop := ∃ (i : Nat) (c : Cel), ρ[i]? = some (some c) ∧ c.fl ≠ .sh ∧ σ[i]? = some (some (.ref a))
structure Sim (K : KW) (ρ : Rho) (σ : St) (B H : Hp) : Prop where
  bh : Same B H
  len : ρ.length = σ.length
  sl : ∀ (i : Nat) (c : Cel), ρ[i]? = some (some c) → ∃ v, σ[i]? = some (some v) ∧ COk K B H c v
  dj : ∀ (i j : Nat) (ci cj : Cel) (a : Addr), ρ[i]? = some (some ci) → ρ[j]? = some (some cj) → ci.fl ≠ .sh → cj.fl ≠ .sh → σ[i]? = some (some (.ref a)) → σ[j]? = some (some (.ref a)) → i = j
/-- what may become shared or owned: a new address, or an owned one -/
def New (ρ : Rho) (σ : St) (H : Hp) (a : Addr) : Prop := H a = none ∨ OwnA ρ σ a
/-- from one state to a later one: what is shared stays and grows by new objects (and owned ones that are given up); what was neither shared nor owned stays -/
structure Ext (ρ : Rho) (σ : St) (B H : Hp) (ρ' : Rho) (σ' : St) (B' H' : Hp) : Prop where
  bb : Same B B'
  nw : ∀ a o, B' a = some o → B a = some o ∨ New ρ σ H a
  kp : ∀ a o, H a = some o → ¬ OwnA ρ σ a → H' a = some o
  sub : ∀ a, OwnA ρ' σ' a → New ρ σ H a
  io : ∀ (i : Nat) (c : Cel), ρ[i]? = some (some c) → c.fl = .io → σ'[i]? = σ[i]? ∧ ∃ c', ρ'[i]? = some (some c') ∧ c'.fl = .io
  oi : ∀ (i : Nat) (c : Cel), ρ'[i]? = some (some c) → c.fl = .io → ∃ c', ρ[i]? = some (some c') ∧ c'.fl = .io
section
variable {K : KW} {ρ ρ1 ρ2 : Rho} {σ σ1 σ2 : St} {B B1 B2 H H1 H2 : Hp}
theorem Ext.refl : Ext ρ σ B H ρ σ B H :=
  ⟨Same.refl B, fun _ _ h => .inl h, fun _ _ h _ => h, fun _ h => .inr h, fun i c h1 h2 => ⟨rfl, c, h1, h2⟩, fun i c h1 h2 => ⟨c, h1, h2⟩⟩
/-- what is new later is new from the start -/
theorem Ext.back (a : Ext ρ σ B H ρ1 σ1 B1 H1) {x : Addr} (h : New ρ1 σ1 H1 x) : New ρ σ H x := by
  rcases h with h | h
  · by_cases ho : OwnA ρ σ x
    · exact .inr ho
    · cases e : H x with
      | none => exact .inl e
      | some u =>
        rw [a.kp x u e ho] at h
        cases h
  · exact a.sub x h
theorem Ext.trans (a : Ext ρ σ B H ρ1 σ1 B1 H1) (b : Ext ρ1 σ1 B1 H1 ρ2 σ2 B2 H2) : Ext ρ σ B H ρ2 σ2 B2 H2 where
  bb := a.bb.trans b.bb
  nw := fun x o h => (b.nw x o h).elim (fun h => a.nw x o h) fun h => .inr (a.back h)
  kp := fun x o h n => b.kp x o (a.kp x o h n) fun q => (a.sub x q).elim (fun z => by rw [h] at z; cases z) n
  sub := fun x h => a.back (b.sub x h)
  io := fun i c h1 h2 => by
    obtain ⟨e1, c1, q1, q2⟩ := a.io i c h1 h2
    obtain ⟨e2, c2, q3, q4⟩ := b.io i c1 q1 q2
    exact ⟨e2.trans e1, c2, q3, q4⟩
  oi := fun i c h1 h2 => by
    obtain ⟨c1, q1, q2⟩ := b.oi i c h1 h2
    exact a.oi i c1 q1 q2
/-- an address that is tracked, not shared and nobody's stays so -/
theorem Ext.keepN (a : Ext ρ σ B H ρ1 σ1 B1 H1) {x : Addr} {o : HO} (h : H x = some o) (hb : B x = none) (n : ¬ OwnA ρ σ x) : H1 x = some o ∧ B1 x = none ∧ ¬ OwnA ρ1 σ1 x := by
  have nn : ¬ New ρ σ H x := fun q => q.elim (fun z => by rw [h] at z; cases z) n
  refine ⟨a.kp x o h n, ?_, fun q => nn (a.sub x q)⟩
  cases e : B1 x with
  | none => rfl
  | some u =>
    rcases a.nw x u e with q | q
    · rw [hb] at q; cases q
    · exact absurd q nn
theorem Sim.ownH (S : Sim K ρ σ B H) {a : Addr} (h : OwnA ρ σ a) : B a = none ∧ ∃ o, H a = some o := by
  obtain ⟨i, c, h1, h2, h3⟩ := h
  obtain ⟨v, e, q⟩ := S.sl i c h1
  rw [h3] at e
  cases e
  rcases q with ⟨z, _⟩ | ⟨_, b, e, q1, q2⟩
  · exact absurd z h2
  · cases e
    exact ⟨q1, q2.some⟩
theorem Sim.free (S : Sim K ρ σ B H) {p : Addr} (h : H p = none) : B p = none ∧ ¬ OwnA ρ σ p :=
  ⟨S.bh.free h, fun q => by obtain ⟨_, o, e⟩ := S.ownH q; rw [h] at e; cases e⟩
theorem COk.mono {c : Cel} {v : V} (h : COk K B H c v) (e : Same B B1) (hf : ∀ a, v = .ref a → B a = none → (∃ o, H a = some o) → c.fl ≠ .sh → B1 a = none ∧ H1 a = H a) : COk K B1 H1 c v := by
  rcases h with ⟨h1, h2⟩ | ⟨h1, a, rfl, h2, h3⟩
  · exact .inl ⟨h1, h2.mono e⟩
  · obtain ⟨q1, q2⟩ := hf a rfl h2 h3.some h1
    exact .inr ⟨h1, a, rfl, q1, by rw [q2]; exact h3.mono e⟩
/-- a new object, shared -/
theorem Sim.newB (S : Sim K ρ σ B H) {p : Addr} (hp : H p = none) (o : HO) : Sim K ρ σ (upd B p o) (upd H p o) ∧ Ext ρ σ B H ρ σ (upd B p o) (upd H p o) := by
  obtain ⟨bp, np⟩ := S.free hp
  have sB : Same B (upd B p o) := fun b u e => by rw [upd_ne (ne_of_none e bp)]; exact e
  have sH : Same H (upd H p o) := fun b u e => by rw [upd_ne (ne_of_none e hp)]; exact e
  refine ⟨⟨fun b u e => ?_, S.len, fun i c h => ?_, S.dj⟩, ⟨sB, fun a u e => ?_, fun a u e _ => sH a u e, fun _ h => .inr h, fun i c h1 h2 => ⟨rfl, c, h1, h2⟩, fun i c h1 h2 => ⟨c, h1, h2⟩⟩⟩
  · by_cases hb : b = p
    · subst hb; rw [upd_same] at e ⊢; exact e
    · rw [upd_ne hb] at e ⊢; exact S.bh _ _ e
  · obtain ⟨v, e, q⟩ := S.sl i c h
    refine ⟨v, e, q.mono sB fun a hv ha ho hf => ?_⟩
    have ne : a ≠ p := fun z => by subst z; obtain ⟨_, w⟩ := ho; rw [hp] at w; cases w
    exact ⟨by rw [upd_ne ne]; exact ha, by rw [upd_ne ne]⟩
  · by_cases hb : a = p
    · subst hb; exact .inr (.inl hp)
    · rw [upd_ne hb] at e; exact .inl e
/-- a new object that nobody holds yet -/
theorem Sim.newH (S : Sim K ρ σ B H) {p : Addr} (hp : H p = none) (o : HO) : Sim K ρ σ B (upd H p o) ∧ Ext ρ σ B H ρ σ B (upd H p o) := by
  obtain ⟨bp, np⟩ := S.free hp
  have sH : Same H (upd H p o) := fun b u e => by rw [upd_ne (ne_of_none e hp)]; exact e
  refine ⟨⟨S.bh.trans sH, S.len, fun i c h => ?_, S.dj⟩, ⟨Same.refl B, fun a u e => .inl e, fun a u e _ => sH a u e, fun _ h => .inr h, fun i c h1 h2 => ⟨rfl, c, h1, h2⟩, fun i c h1 h2 => ⟨c, h1, h2⟩⟩⟩
  obtain ⟨v, e, q⟩ := S.sl i c h
  refine ⟨v, e, q.mono (Same.refl B) fun a hv ha ho hf => ?_⟩
  have ne : a ≠ p := fun z => by subst z; obtain ⟨_, w⟩ := ho; rw [hp] at w; cases w
  exact ⟨ha, by rw [upd_ne ne]⟩
/-- an object that nobody holds becomes shared -/
theorem Sim.share (S : Sim K ρ σ B H) {p : Addr} {o : HO} (hb : B p = none) (hp : H p = some o) (n : ¬ OwnA ρ σ p) : Sim K ρ σ (upd B p o) H := by
  have sB : Same B (upd B p o) := fun b u e => by rw [upd_ne (ne_of_none e hb)]; exact e
  refine ⟨fun b u e => ?_, S.len, fun i c h => ?_, S.dj⟩
  · by_cases h : b = p
    · subst h; rw [upd_same] at e; cases e; exact hp
    · rw [upd_ne h] at e; exact S.bh _ _ e
  · obtain ⟨v, e, q⟩ := S.sl i c h
    refine ⟨v, e, q.mono sB fun a hv ha ho hf => ⟨?_, rfl⟩⟩
    have ne : a ≠ p := fun z => by subst z; subst hv; exact n ⟨i, c, h, hf, e⟩
    rw [upd_ne ne]; exact ha
end
end GS
namespace GS
open PySem L2
def HdOk (K : KW) (N : Addr → Prop) (ρ : Rho) (σ : St) (B H : Hp) (v : V) : Hd → Prop
  | .sh d => Rp K B v d
  | .fr d => ∃ a, v = .ref a ∧ B a = none ∧ Ow K B a (H a) d ∧ ¬ OwnA ρ σ a ∧ N a
  | .bw i => σ[i]? = some (some v)
/-- the context of a reading: the written part, the classes' values by name, what is wanted of an exception -/
structure Ct where
  K : KW
  cv : Str → Value
  W : WX
def XcOk (C : Ct) (B : Hp) (x : Xc) (cls : Value) (dct : Option Addr) : Prop :=
  cls = C.cv x.cls ∧ ((x.fs = [] ∧ dct = none) ∨ ∃ a fs, dct = some a ∧ B a = some (.xd fs) ∧ fs.map (·.1) = x.fs.map (·.1) ∧ RpL C.K B (fs.map (·.2)) (x.fs.map (·.2)))
def GoodE (C : Ct) (ρ : Rho) (σ : St) (B H : Hp) (Q : VK) : RE → Prop
  | .stuck => False
  | .ok h ρ' => ∀ v B' H', Sim C.K ρ' σ B' H' → Ext ρ σ B H ρ' σ B' H' → HdOk C.K (New ρ σ H) ρ' σ B' H' v h → Q v H'
  | .exc x ρ' => ∀ cls dct B' H', Sim C.K ρ' σ B' H' → Ext ρ σ B H ρ' σ B' H' → XcOk C B' x cls dct → C.W cls dct σ H'
def LkE (C : Ct) (t : TE) (f : EF) : Prop := ∀ ρ σ B H Q, Sim C.K ρ σ B H → GoodE C ρ σ B H Q (f ρ) → t σ H Q
structure SE (X : Cx) (C : Ct) (e : Expr) (t : TE) (f : EF) : Prop where
  pe : PE X e t
  lk : LkE C t f
def bindE (r : RE) (k : Hd → Rho → RE) : RE := match r with
  | .stuck => .stuck
  | .ok h ρ => k h ρ
  | .exc x ρ => .exc x ρ
/-- what a slot holds -/
def slot (ρ : Rho) (i : Nat) : Option Cel := match ρ[i]? with
  | some (some c) => some c
  | _ => none
theorem slot_some {ρ : Rho} {i : Nat} {c : Cel} (h : slot ρ i = some c) : ρ[i]? = some (some c) := by
  unfold slot at h
  split at h
  · rename_i c' e; cases h; exact e
  · cases h
def getH (ρ : Rho) : Hd → Option D
  | .sh d => some d
  | .fr d => some d
  | .bw i => (slot ρ i).map (·.d)
def capH (ρ : Rho) : Hd → Option D
  | .sh d => some d
  | .fr d => some d
  | .bw i => match slot ρ i with
    | some ⟨d, .sh⟩ => some d
    | _ => none
def setl : Hd → Hd
  | .fr d => .sh d
  | h => h
/-- captured: a shared datum -/
def eCap (f : EF) : EF := fun ρ => bindE (f ρ) fun h ρ' => match capH ρ' h with
  | some d => .ok (.sh d) ρ'
  | none => .stuck
/-- looked at: what is new is shared -/
def eSet (f : EF) : EF := fun ρ => bindE (f ρ) fun h ρ' => .ok (setl h) ρ'
section
variable {C : Ct} {ρ ρ' ρ1 : Rho} {σ : St} {B B' H H' B1 H1 : Hp} {Q : VK} {t ta tb : TE} {f fa fb : EF} {N N' : Addr → Prop} {v : V}
theorem HdOk.mono {K : KW} (k : ∀ a, N a → N' a) : ∀ {h : Hd}, HdOk K N ρ σ B H v h → HdOk K N' ρ σ B H v h
  | .sh _, q => q
  | .fr _, ⟨a, h1, h2, h3, h4, h5⟩ => ⟨a, h1, h2, h3, h4, k a h5⟩
  | .bw _, q => q
/-- a step in the middle: what is good behind is good ahead -/
theorem GoodE.ext (e : Ext ρ σ B H ρ1 σ B1 H1) : ∀ {r : RE}, GoodE C ρ σ B H Q r → GoodE C ρ1 σ B1 H1 Q r
  | .stuck, h => h
  | .ok _ _, h => fun v B' H' s x y => h v B' H' s (e.trans x) (y.mono fun _ z => e.back z)
  | .exc _ _, h => fun c d B' H' s x => h c d B' H' s (e.trans x)
theorem GoodE.imp {Q' : VK} (k : ∀ v H, Q v H → Q' v H) : ∀ {r : RE}, GoodE C ρ σ B H Q r → GoodE C ρ σ B H Q' r
  | .stuck, h => h
  | .ok _ _, h => fun v B' H' s x y => k _ _ (h v B' H' s x y)
  | .exc _ _, h => h
/-- THE RULE: an expression, then what follows -/
theorem LkE.bind (l : LkE C t f) (S : Sim C.K ρ σ B H) {k : Hd → Rho → RE} {Q' : VK} (g : GoodE C ρ σ B H Q (bindE (f ρ) k))
    (h : ∀ hd ρ1 v B1 H1, Sim C.K ρ1 σ B1 H1 → Ext ρ σ B H ρ1 σ B1 H1 → HdOk C.K (New ρ σ H) ρ1 σ B1 H1 v hd → GoodE C ρ σ B H Q (k hd ρ1) → Q' v H1) : t σ H Q' := by
  refine l ρ σ B H Q' S ?_
  cases e : f ρ with
  | stuck => rw [e] at g; exact g
  | ok hd ρ1 =>
    rw [e] at g
    exact fun v B1 H1 s x y => h hd ρ1 v B1 H1 s x y g
  | exc x ρ1 =>
    rw [e] at g
    exact g
/-- a new datum that nobody holds is shared from here on -/
theorem Sim.cap (S : Sim C.K ρ1 σ B1 H1) (x : Ext ρ σ B H ρ1 σ B1 H1) {d : D} (h : HdOk C.K (New ρ σ H) ρ1 σ B1 H1 v (.fr d)) : ∃ B2, Sim C.K ρ1 σ B2 H1 ∧ Ext ρ σ B H ρ1 σ B2 H1 ∧ Rp C.K B2 v d := by
  obtain ⟨a, rfl, hb, ho, hn, hN⟩ := h
  obtain ⟨o, e⟩ := ho.some
  have sB : Same B1 (upd B1 a o) := fun b u e => by rw [upd_ne (ne_of_none e hb)]; exact e
  refine ⟨upd B1 a o, S.share hb e hn, ⟨x.bb.trans sB, fun b u e => ?_, x.kp, x.sub, x.io, x.oi⟩, ?_⟩
  · by_cases hb : b = a
    · subst hb; exact .inr hN
    · rw [upd_ne hb] at e; exact x.nw b u e
  · rw [e] at ho
    have ho := ho.mono sB
    cases d with
    | list ds =>
      obtain ⟨vs, e1, e2⟩ := ho
      cases e1
      exact .lst (.inl (.inl upd_same)) e2
    | dict ps =>
      obtain ⟨ep, b, xs, e1, e2⟩ := ho
      cases e1
      exact .dct upd_same e2
    | _ => exact ho.elim
theorem LkE.cap (l : LkE C t f) : LkE C t (eCap f) := fun ρ σ B H Q S g => by
  refine l.bind S g fun hd ρ1 v B1 H1 S1 x y g => ?_
  cases hd with
  | sh d => exact g v B1 H1 S1 x y
  | fr d =>
    obtain ⟨B2, S2, x2, r⟩ := S1.cap x y
    exact g v B2 H1 S2 x2 r
  | bw i =>
    unfold capH at g
    dsimp only at g
    split at g
    · rename_i d e
      split at e
      · rename_i d' e'
        cases e
        have e' := slot_some e'
        obtain ⟨v', q1, q2⟩ := S1.sl i _ e'
        have y' : σ[i]? = some (some v) := y
        rw [y'] at q1
        cases q1
        rcases q2 with ⟨_, q2⟩ | ⟨q, _⟩
        · exact g v B1 H1 S1 x q2
        · exact absurd rfl q
      · cases e
    · exact g.elim
theorem LkE.set (l : LkE C t f) : LkE C t (eSet f) := fun ρ σ B H Q S g => by
  refine l.bind S g fun hd ρ1 v B1 H1 S1 x y g => ?_
  cases hd with
  | sh d => exact g v B1 H1 S1 x y
  | fr d =>
    obtain ⟨B2, S2, x2, r⟩ := S1.cap x y
    exact g v B2 H1 S2 x2 r
  | bw i => exact g v B1 H1 S1 x y
theorem SE.cap {X : Cx} {e : Expr} (h : SE X C e t f) : SE X C e t (eCap f) := ⟨h.pe, h.lk.cap⟩
theorem SE.set {X : Cx} {e : Expr} (h : SE X C e t f) : SE X C e t (eSet f) := ⟨h.pe, h.lk.set⟩
def Tp (K : KW) (B H : Hp) (v : V) : D → Prop
  | .list ds => ∃ a vs, v = .ref a ∧ SqL K H a vs ∧ RpL K B vs ds
  | .dict ps => (∃ a ep b xs, v = .ref a ∧ H a = some (dX K.w a ep xs) ∧ RpX K B b xs ps) ∨ (xnB ps = true ∧ Rp K B v (.dict ps))
  | d => Rp K B v d
theorem Tp.of {K : KW} (s : Same B H) : ∀ {d : D}, Rp K B v d → Tp K B H v d
  | .list _, .lst h t => ⟨_, _, rfl, same_l s h, t⟩
  | .dict _, .dct h t => .inl ⟨_, _, _, _, rfl, s _ _ h, t⟩
  | .dict _, .exn h q x t => .inr ⟨rfl, .exn h q x t⟩
  | .none, h => h
  | .bool _, h => h
  | .int _, h => h
  | .str _, h => h
  | .tuple _, h => h
theorem Tp.rp {K : KW} (s : Same B H) : ∀ {d : D}, Tp K B H v d → Rp K H v d
  | .list _, ⟨_, _, e, h, t⟩ => by subst e; exact .lst h (t.mono s)
  | .dict _, .inl ⟨_, _, _, _, e, h, t⟩ => by subst e; exact .dct h (t.mono s)
  | .dict _, .inr ⟨_, h⟩ => Rp.mono s h
  | .none, h => Rp.mono s h
  | .bool _, h => Rp.mono s h
  | .int _, h => Rp.mono s h
  | .str _, h => Rp.mono s h
  | .tuple _, h => Rp.mono s h
theorem Sim.tp (S : Sim C.K ρ σ B H) {h : Hd} {d : D} (y : HdOk C.K N ρ σ B H v h) (g : getH ρ h = some d) : Tp C.K B H v d := by
  cases h with
  | sh e =>
    cases g
    exact Tp.of S.bh y
  | fr e =>
    cases g
    obtain ⟨a, rfl, hb, ho, _⟩ := y
    cases d with
    | list ds =>
      obtain ⟨vs, e1, e2⟩ := ho
      exact ⟨a, vs, rfl, .inl (.inl e1), e2⟩
    | dict ds =>
      obtain ⟨ep, b, xs, e1, e2⟩ := ho
      exact .inl ⟨a, ep, b, xs, rfl, e1, e2⟩
    | _ => exact ho.elim
  | bw i =>
    replace g : (slot ρ i).map (·.d) = some d := g
    cases e : slot ρ i with
    | none => rw [e] at g; cases g
    | some c =>
      rw [e] at g
      cases g
      obtain ⟨v', q1, q2⟩ := S.sl i c (slot_some e)
      have y' : σ[i]? = some (some v) := y
      rw [y'] at q1
      cases q1
      rcases q2 with ⟨_, q2⟩ | ⟨_, a, rfl, hb, ho⟩
      · exact Tp.of S.bh q2
      · obtain ⟨d, fl⟩ := c
        cases d with
        | list ds =>
          obtain ⟨vs, e1, e2⟩ := ho
          exact ⟨a, vs, rfl, .inl (.inl e1), e2⟩
        | dict ds =>
          obtain ⟨ep, b, xs, e1, e2⟩ := ho
          exact .inl ⟨a, ep, b, xs, rfl, e1, e2⟩
        | _ => exact ho.elim
/-- a looked-at operand stays good -/
theorem HdOk.ext (x : Ext ρ σ B H ρ1 σ B1 H1) {h : Hd} (y : HdOk C.K N ρ σ B H v (setl h)) : HdOk C.K N' ρ1 σ B1 H1 v (setl h) := by
  cases h with
  | sh d => exact Rp.mono x.bb y
  | fr d => exact Rp.mono x.bb y
  | bw i => exact y
def OpL (K : KW) (r : R2) (o : D → D → Option Hd) : Prop := ∀ ρ σ B H x y dx dy h Q, Sim K ρ σ B H → Tp K B H x dx → Tp K B H y dy → o dx dy = some h →
  (∀ v B' H', Sim K ρ σ B' H' → Ext ρ σ B H ρ σ B' H' → HdOk K (New ρ σ H) ρ σ B' H' v h → Q v H') → r x y H Q
def eBin (o : D → D → Option Hd) (fa fb : EF) : EF := fun ρ => bindE (eSet fa ρ) fun ha ρ1 => bindE (eSet fb ρ1) fun hb ρ2 => match getH ρ2 ha, getH ρ2 hb with
  | some da, some db => match o da db with
    | some h => .ok h ρ2
    | none => .stuck
  | _, _ => .stuck
theorem LkE.setBind (l : LkE C t f) (S : Sim C.K ρ σ B H) {k : Hd → Rho → RE} {Q' : VK} (g : GoodE C ρ σ B H Q (bindE (eSet f ρ) k))
    (h : ∀ hd ρ1 v B1 H1, Sim C.K ρ1 σ B1 H1 → Ext ρ σ B H ρ1 σ B1 H1 → HdOk C.K (New ρ σ H) ρ1 σ B1 H1 v (setl hd) → GoodE C ρ1 σ B1 H1 Q (k (setl hd) ρ1) → Q' v H1) : t σ H Q' := by
  refine l.set ρ σ B H Q' S ?_
  unfold eSet at g ⊢
  cases e : f ρ with
  | stuck => rw [e] at g; exact g
  | ok hd ρ1 =>
    rw [e] at g
    exact fun v B1 H1 s x y => h hd ρ1 v B1 H1 s x y (GoodE.ext x g)
  | exc x ρ1 =>
    rw [e] at g
    exact g
theorem lk_op {r : R2} {o : D → D → Option Hd} (hr : OpL C.K r o) (la : LkE C ta fa) (lb : LkE C tb fb) : LkE C (tOp r ta tb) (eBin o fa fb) := fun ρ σ B H Q S g => by
  refine la.setBind S g fun ha ρ1 x B1 H1 S1 e1 y1 g1 => ?_
  refine lb.setBind S1 g1 fun hb ρ2 y B2 H2 S2 e2 y2 g2 => ?_
  split at g2
  · rename_i da db ea eb
    split at g2
    · rename_i h eh
      exact hr ρ2 σ B2 H2 x y da db h Q S2 (S2.tp (N := fun _ => True) (HdOk.ext e2 y1) ea) (S2.tp y2 eb) eh g2
    · exact g2.elim
  · exact g2.elim
theorem se_bin {X : Cx} {r : R2} {o : D → D → Option Hd} {op : Operator} {a b : Expr} {pos : Pos} (hr : OpL C.K r o) (ho : OpR X (binaryOp op) r) (la : SE X C a ta fa) (lb : SE X C b tb fb) : SE X C (.BinOp a op b pos) (tOp r ta tb) (eBin o fa fb) :=
  ⟨pe_op ho la.pe lb.pe, lk_op hr la.lk lb.lk⟩
/-- two ways of one operator -/
def orO (o o' : D → D → Option Hd) : D → D → Option Hd := fun x y => match o x y with
  | some h => some h
  | none => o' x y
theorem OpL.or {K : KW} {r r' : R2} {o o' : D → D → Option Hd} (a : OpL K r o) (b : OpL K r' o') : OpL K (fun x y H Q => r x y H Q ∨ r' x y H Q) (orO o o') := fun ρ σ B H x y dx dy h Q S tx ty e k => by
  unfold orO at e
  cases q : o dx dy with
  | some h' =>
    rw [q] at e
    cases e
    exact .inl (a ρ σ B H x y dx dy _ Q S tx ty q k)
  | none =>
    rw [q] at e
    exact .inr (b ρ σ B H x y dx dy _ Q S tx ty e k)
end
end GS
namespace GS
open PySem L2 PySem.Calls
section
variable {K : KW} {ρ : Rho} {σ : St} {B H : Hp} {v x y : V} {Q : VK}
theorem Tp.int {i : Int} (h : Tp K B H v (.int i)) : v = .int i := by cases h; rfl
theorem Tp.str {i : Str} (h : Tp K B H v (.str i)) : v = .str i := by cases h; rfl
theorem Tp.bl {i : Bool} (h : Tp K B H v (.bool i)) : v = .bl i := by cases h; rfl
theorem Tp.non (h : Tp K B H v .none) : v = .non := by cases h; rfl
theorem Rp.tupE {ds : List D} (h : Rp K B v (.tuple ds)) : ∃ a vs, v = .ref a ∧ SqT K B a vs ∧ RpL K B vs ds := by
  cases h with
  | tup h t => exact ⟨_, _, rfl, h.sq, t⟩
theorem Rp.tupX {ds : List D} (h : Rp K B v (.tuple ds)) : ∃ a vs, v = .ref a ∧ XT B a vs ∧ RpL K B vs ds := by
  cases h with
  | tup h t => exact ⟨_, _, rfl, h, t⟩
theorem Rp.lstE {ds : List D} (h : Rp K B v (.list ds)) : ∃ a vs, v = .ref a ∧ SqL K B a vs ∧ RpL K B vs ds := by
  cases h with
  | lst h t => exact ⟨_, _, rfl, h, t⟩
theorem Tp.tup {ds : List D} (h : Tp K B H v (.tuple ds)) : ∃ a vs, v = .ref a ∧ SqT K B a vs ∧ RpL K B vs ds := Rp.tupE h
theorem Tp.tupX {ds : List D} (h : Tp K B H v (.tuple ds)) : ∃ a vs, v = .ref a ∧ XT B a vs ∧ RpL K B vs ds := Rp.tupX h
/-- the state as it is, a shared value -/
theorem now (S : Sim K ρ σ B H) {d : D} (h : Rp K B v d) (k : ∀ v B' H', Sim K ρ σ B' H' → Ext ρ σ B H ρ σ B' H' → HdOk K (New ρ σ H) ρ σ B' H' v (.sh d) → Q v H') : Q v H := k v B H S Ext.refl h
/-- a new tuple, shared -/
theorem newT (S : Sim K ρ σ B H) {vs : List V} {ds : List D} (h : RpL K B vs ds) (k : ∀ v B' H', Sim K ρ σ B' H' → Ext ρ σ B H ρ σ B' H' → HdOk K (New ρ σ H) ρ σ B' H' v (.sh (.tuple ds)) → Q v H') :
    ∀ p o, H p = none → o.dict = none → Q (.ref p) (upd H p (.frz o (.tup vs))) := fun p o hp ho => by
  obtain ⟨S', x⟩ := S.newB hp (.frz o (.tup vs))
  exact k _ _ _ S' x (.tup (XT.new ho) (h.mono x.bb))
/-- a new list that nobody holds -/
theorem newL (S : Sim K ρ σ B H) {vs : List V} {ds : List D} (h : RpL K B vs ds) (k : ∀ v B' H', Sim K ρ σ B' H' → Ext ρ σ B H ρ σ B' H' → HdOk K (New ρ σ H) ρ σ B' H' v (.fr (.list ds)) → Q v H') :
    ∀ p, H p = none → Q (.ref p) (upd H p (.lst vs)) := fun p hp => by
  obtain ⟨S', x⟩ := S.newH hp (.lst vs)
  obtain ⟨b, n⟩ := S.free hp
  exact k _ _ _ S' x ⟨p, rfl, b, ⟨vs, upd_same, h⟩, n, .inl hp⟩
end
section
variable {X : Cx}
def rCatL (K : PySem.W.Frag) : R2 := fun x y H Q => ∃ l b xs zs, x = .ref l ∧ y = .ref b ∧ SqL K H l xs ∧ SqL K H b zs ∧ xs.length + zs.length ≤ sizeLine ∧ ∀ p, H p = none → Q (.ref p) (upd H p (.lst (xs ++ zs)))
theorem op_catL : OpR X (binaryOp .Add) (rCatL X.K) := by
  intro pins s σ H x y v u Q I rx ry h
  obtain ⟨l, b, xs, zs, rfl, rfl, hH, hB, hz, q⟩ := h
  cases rx
  cases ry
  obtain ⟨its, r, p1, _⟩ := I.list hH
  obtain ⟨its2, r2, p2, _⟩ := I.list hB
  have l1 := r.length
  have l2 := r2.length
  obtain ⟨⟨cls, dd, data, sl⟩, ho, hc, n, hd⟩ := p1.isList
  obtain ⟨⟨cls2, dd2, data2, sl2⟩, ho2, hc2, n2, hd2⟩ := p2.isList
  simp only at hc hd hc2 hd2
  subst hc hd hc2 hd2
  refine concat_meets ⟨_, ho, rfl⟩ ⟨_, ho2, rfl⟩ noFill_list_add seq_list_add PySem.F.slot_list_add PySem.F.entry_list_add (PySem.F.args_list_add_2 _ _) (PyProof.Rows.list_addW l b its.toArray its2.toArray n n2 dd dd2 sl sl2 (by simp; omega)) ⟨ho, ho2, ?_⟩
  have e : its.toArray ++ its2.toArray = (its ++ its2).toArray := by simp
  rw [e]
  exact ⟨.ref _, _, I.lnew (t' := s.toks) (r.append r2) (by rw [List.length_append]; omega), rfl, q _ I.fresh⟩
end
theorem if_some {c : Prop} [Decidable c] {α : Type} {a h : α} (e : (if c then some a else none) = some h) : c ∧ a = h := by
  split at e
  · cases e; exact ⟨by assumption, rfl⟩
  · cases e
/-- + -/
def addD : D → D → Option Hd
  | .int i, .int j => some (.sh (.int (i + j)))
  | .str i, .str j => if i.length + j.length ≤ sizeLine then some (.sh (.str (i ++ j))) else none
  | .tuple xs, .tuple ys => if xs.length + ys.length ≤ sizeLine then some (.sh (.tuple (xs ++ ys))) else none
  | .list xs, .list ys => if xs.length + ys.length ≤ sizeLine then some (.fr (.list (xs ++ ys))) else none
  | _, _ => none
def rAddA (K : PySem.W.Frag) : R2 := fun x y H Q => (rI0 fun i j => .int (i + j)) x y H Q ∨ ((∃ i j, x = .str i ∧ y = .str j ∧ i.length + j.length ≤ sizeLine ∧ Q (.str (i ++ j)) H) ∨ (rCatX K x y H Q ∨ rCatL K x y H Q))
theorem op_addA {X : Cx} : OpR X (binaryOp .Add) (rAddA X.K) := OpR.or op_add (OpR.or op_add_str (OpR.or op_catX op_catL))
theorem ol_add {K : KW} : OpL K (rAddA K) addD := fun ρ σ B H x y dx dy h Q S tx ty e k => by
  cases dx <;> cases dy <;> first | (cases (show none = some h from e); done) | skip
  · cases e
    rw [tx.int, ty.int]
    exact .inl ⟨_, _, rfl, rfl, now S (.int _) k⟩
  · obtain ⟨c, rfl⟩ := if_some e
    rw [tx.str, ty.str]
    exact .inr (.inl ⟨_, _, rfl, rfl, c, now S (.str _) k⟩)
  · obtain ⟨c, rfl⟩ := if_some e
    obtain ⟨a, vs, rfl, ha, ra⟩ := tx
    obtain ⟨b, ws, rfl, hb, rb⟩ := ty
    exact .inr (.inr (.inr ⟨a, b, vs, ws, rfl, rfl, ha, hb, by rw [ra.length, rb.length]; exact c, newL S (ra.append rb) k⟩))
  · obtain ⟨c, rfl⟩ := if_some e
    obtain ⟨a, vs, rfl, ha, ra⟩ := tx.tupX
    obtain ⟨b, ws, rfl, hb, rb⟩ := ty.tupX
    have l1 := ra.length
    have l2 := rb.length
    refine .inr (.inr (.inl ⟨a, b, vs, ws, rfl, rfl, (same_x S.bh ha).sq, (same_x S.bh hb).sq, by omega, fun e => ?_, fun _ e => ?_, fun _ _ => newT S (ra.append rb) k⟩))
    · subst e
      cases ra
      exact now S (.tup hb rb) k
    · subst e
      cases rb
      rw [List.append_nil] at k
      exact now S (.tup ha ra) k
/-- int operators -/
def intD (c : Int → Int → Bool) (f : Int → Int → D) : D → D → Option Hd
  | .int i, .int j => if c i j then some (.sh (f i j)) else none
  | _, _ => none
theorem ol_int {K : KW} {c : Int → Int → Bool} {P : Int → Int → Prop} {f : Int → Int → D} {g : Int → Int → V} (hc : ∀ i j, c i j = true → P i j) (hg : ∀ B i j, Rp K B (g i j) (f i j)) : OpL K (rI P g) (intD c f) := fun ρ σ B H x y dx dy h Q S tx ty e k => by
  cases dx <;> cases dy <;> first | (cases (show none = some h from e); done) | skip
  obtain ⟨c, rfl⟩ := if_some e
  rw [tx.int, ty.int]
  exact ⟨_, _, rfl, rfl, hc _ _ c, now S (hg B _ _) k⟩
theorem ol_int0 {K : KW} {f : Int → Int → D} {g : Int → Int → V} (hg : ∀ B i j, Rp K B (g i j) (f i j)) : OpL K (rI0 g) (intD (fun _ _ => true) f) := fun ρ σ B H x y dx dy h Q S tx ty e k => by
  cases dx <;> cases dy <;> first | (cases (show none = some h from e); done) | skip
  cases e
  rw [tx.int, ty.int]
  exact ⟨_, _, rfl, rfl, now S (hg B _ _) k⟩
def subD : D → D → Option Hd := intD (fun _ _ => true) fun i j => .int (i - j)
theorem e64 : (2 : Int) ^ 64 = 18446744073709551616 := by decide +kernel
theorem e64n : (2 : Nat) ^ 64 = 18446744073709551616 := by decide +kernel
def cMul (i j : Int) : Bool := Nat.ble i.natAbs 18446744073709551615 || Nat.ble j.natAbs 18446744073709551615
def mulD : D → D → Option Hd := intD cMul fun i j => .int (i * j)
def divD : D → D → Option Hd := intD (fun _ j => decide (0 < j) && Nat.ble j.natAbs 1073741823) fun i j => .int (i / j)
def modD : D → D → Option Hd := intD (fun _ j => decide (0 < j)) fun i j => .int (i % j)
def powD : D → D → Option Hd := intD (fun i j => decide (0 ≤ j) && Nat.ble j.natAbs 1000000 && Nat.ble i.natAbs 18446744073709551615) fun i j => .int (i ^ j.toNat)
theorem ol_sub {K : KW} : OpL K (rI0 fun i j => .int (i - j)) subD := ol_int0 fun _ _ _ => .int _
theorem ol_mul {K : KW} : OpL K (rI CMul fun i j => .int (i * j)) mulD := ol_int (fun i j h => by
  unfold CMul
  rw [e64]
  unfold cMul at h
  rw [Bool.or_eq_true] at h
  rcases h with h | h
  · have := Nat.le_of_ble_eq_true h; exact .inl ⟨by omega, by omega⟩
  · have := Nat.le_of_ble_eq_true h; exact .inr ⟨by omega, by omega⟩) fun _ _ _ => .int _
theorem ol_div {K : KW} : OpL K (rI CDiv fun i j => .int (i / j)) divD := ol_int (fun i j h => by
  simp only [Bool.and_eq_true, decide_eq_true_eq] at h
  have := Nat.le_of_ble_eq_true h.2
  exact ⟨h.1, by omega⟩) fun _ _ _ => .int _
theorem ol_mod {K : KW} : OpL K (rI (fun _ j => 0 < j) fun i j => .int (i % j)) modD := ol_int (fun i j h => by simpa using h) fun _ _ _ => .int _
theorem ol_pow {K : KW} : OpL K (rI CPow fun i j => .int (i ^ j.toNat)) powD := ol_int (fun i j h => by
  unfold CPow
  rw [e64n]
  simp only [Bool.and_eq_true, decide_eq_true_eq] at h
  have h1 := Nat.le_of_ble_eq_true h.1.2
  have h2 := Nat.le_of_ble_eq_true h.2
  exact ⟨h.1.1, by omega, by omega⟩) fun _ _ _ => .int _
def intsT : List D → Option (List Int)
  | [] => some []
  | .int i :: r => (intsT r).map fun l => i :: l
  | _ => none
/-- < of ints, and of tuples of ints -/
def ltI (f : Int → Int → Bool) : D → D → Option Hd
  | .int i, .int j => some (.sh (.bool (f i j)))
  | .tuple xs, .tuple ys => if f 0 1 && !f 0 0 then (intsT xs).bind fun a => (intsT ys).map fun b => .sh (.bool (HT.lexLt a b)) else none
  | _, _ => none
theorem intsT_ok {K : KW} {B : Hp} : ∀ {vs : List V} {ds : List D} {ns : List Int}, RpL K B vs ds → intsT ds = some ns → vs = ns.map V.int
  | _, [], _, .nil, e => by cases e; rfl
  | _, d :: ds, ns, .cons h t, e => by
    match d, h, e with
    | .int i, h, e =>
      obtain ⟨l, e1, rfl⟩ := Option.map_eq_some_iff.mp (show (intsT ds).map (fun l => i :: l) = some ns from e)
      cases h
      rw [intsT_ok t e1, List.map_cons]
theorem ol_cmp {K : KW} {f : Int → Int → Bool} (hf : (f 0 1 && !f 0 0) = false := by rfl) : OpL K (rI0 fun i j => .bl (f i j)) (ltI f) := fun ρ σ B H x y dx dy h Q S tx ty e k => by
  cases dx <;> cases dy <;> first | (cases (show none = some h from e); done) | skip
  · cases e
    rw [tx.int, ty.int]
    exact ⟨_, _, rfl, rfl, now S (.bl _) k⟩
  · rename_i xs ys
    have e : (if f 0 1 && !f 0 0 then (intsT xs).bind fun a => (intsT ys).map fun b => Hd.sh (.bool (HT.lexLt a b)) else none) = some h := e
    rw [hf] at e
    cases e
def rLtA (K : PySem.W.Frag) : R2 := fun x y H Q => (rI0 fun i j => .bl (decide (i < j))) x y H Q ∨ rLtT K x y H Q
theorem op_ltA {X : Cx} (hu : X.A.units + 65 < cLine) : OpR X (compareOp .Lt) (rLtA X.K) := OpR.or op_lt (op_ltT (by omega))
theorem ol_ltA {K : KW} : OpL K (rLtA K) (ltI fun i j => decide (i < j)) := fun ρ σ B H x y dx dy h Q S tx ty e k => by
  cases dx <;> cases dy <;> first | (cases (show none = some h from e); done) | skip
  · cases e
    rw [tx.int, ty.int]
    exact .inl ⟨_, _, rfl, rfl, now S (.bl _) k⟩
  · rename_i xs ys
    have e : ((intsT xs).bind fun a => (intsT ys).map fun b => Hd.sh (.bool (HT.lexLt a b))) = some h := e
    obtain ⟨as, e1, e2⟩ := Option.bind_eq_some_iff.mp e
    obtain ⟨bs, e3, rfl⟩ := Option.map_eq_some_iff.mp e2
    obtain ⟨a, vs, rfl, ha, ra⟩ := tx.tup
    obtain ⟨b, ws, rfl, hb, rb⟩ := ty.tup
    have ea := intsT_ok ra e1
    have eb := intsT_ok rb e3
    subst ea eb
    exact .inr ⟨a, b, as, bs, rfl, rfl, same_t S.bh ha, same_t S.bh hb, now S (.bl _) k⟩
/-- == of data without dicts, at most 64 deep -/
def okEq (d : D) : Bool := plain d && SeqAt.shaped d
/-- is None, is True -/
def isD (neg : Bool) : D → D → Option Hd
  | .none, .none => some (.sh (.bool (!neg)))
  | .bool a, .bool b => some (.sh (.bool (neg ^^ decide (a = b))))
  | _, .none => some (.sh (.bool neg))
  | _, _ => none
def rIsA : R2 := fun x y H Q => (y = .non ∧ Q (.bl (decide (x = .non))) H) ∨ (∃ a b, x = .bl a ∧ y = .bl b ∧ Q (.bl (decide (a = b))) H)
def rNotA : R2 := fun x y H Q => (y = .non ∧ Q (.bl (!decide (x = .non))) H) ∨ (∃ a b, x = .bl a ∧ y = .bl b ∧ Q (.bl (!decide (a = b))) H)
theorem op_isA {X : Cx} : OpR X (compareOp .Is) rIsA := OpR.or op_isN op_isBl
theorem op_notA {X : Cx} : OpR X (compareOp .IsNot) rNotA := OpR.or op_notN op_notBl
theorem Tp.ne_non {K : KW} {B H : Hp} {v : V} {d : D} (h : Tp K B H v d) (hd : d ≠ .none) : v ≠ .non := by
  intro e
  subst e
  cases d with
  | none => exact hd rfl
  | bool _ => cases h
  | int _ => cases h
  | str _ => cases h
  | list _ => obtain ⟨_, _, e, _⟩ := h; cases e
  | tuple _ => cases h
  | dict _ =>
    rcases h with ⟨_, _, _, _, e, _⟩ | ⟨_, h⟩
    · cases e
    · cases h
theorem ol_is {K : KW} : OpL K rIsA (isD false) := fun ρ σ B H x y dx dy h Q S tx ty e k => by
  cases dy with
  | none =>
    rw [ty.non]
    refine .inl ⟨rfl, ?_⟩
    by_cases hn : dx = .none
    · subst hn
      cases e
      rw [tx.non]
      exact now S (.bl _) k
    · have q := tx.ne_non hn
      have e' : h = .sh (.bool false) := by cases dx <;> simp [isD] at e hn ⊢ <;> exact e.symm
      subst e'
      rw [decide_eq_false q]
      exact now S (.bl _) k
  | bool b =>
    cases dx with
    | bool a =>
      cases e
      rw [tx.bl, ty.bl]
      refine .inr ⟨a, b, rfl, rfl, ?_⟩
      have := now (v := .bl (false ^^ decide (a = b))) S (.bl _) k
      rwa [Bool.false_xor] at this
    | _ => simp [isD] at e
  | _ => cases dx <;> simp [isD] at e
theorem ol_not {K : KW} : OpL K rNotA (isD true) := fun ρ σ B H x y dx dy h Q S tx ty e k => by
  cases dy with
  | none =>
    rw [ty.non]
    refine .inl ⟨rfl, ?_⟩
    by_cases hn : dx = .none
    · subst hn
      cases e
      rw [tx.non]
      exact now S (.bl _) k
    · have q := tx.ne_non hn
      have e' : h = .sh (.bool true) := by cases dx <;> simp [isD] at e hn ⊢ <;> exact e.symm
      subst e'
      rw [decide_eq_false q]
      exact now S (.bl _) k
  | bool b =>
    cases dx with
    | bool a =>
      cases e
      rw [tx.bl, ty.bl]
      refine .inr ⟨a, b, rfl, rfl, ?_⟩
      have := now (v := .bl (true ^^ decide (a = b))) S (.bl _) k
      rwa [Bool.true_xor] at this
    | _ => simp [isD] at e
  | _ => cases dx <;> simp [isD] at e
def flatD : D → Bool
  | .none => true
  | .bool _ => true
  | .int _ => true
  | .str _ => true
  | _ => false
def inD (neg : Bool) : D → D → Option Hd
  | .str x, .str z => match x.cps.toList with
    | [c] => some (.sh (.bool (neg ^^ decide (c ∈ z.cps.toList))))
    | _ => none
  | d, .tuple ds => if flatD d && ds.all flatD then some (.sh (.bool (neg ^^ ds.any fun z => PyData.eqv z d))) else none
  | d, .list ds => if okEq d && okEq (.list ds) then some (.sh (.bool (neg ^^ ds.any fun z => PyData.eqv z d))) else none
  | _, _ => none
end GS
namespace GS
open PySem L2
def rInA (K : PySem.W.Frag) : R2 := fun x y H Q => (∃ (c : Nat) (z : Str), x = .str ⟨#[c]⟩ ∧ y = .str z ∧ Q (.bl (decide (c ∈ z.cps.toList))) H) ∨ (rIn K false x y H Q ∨ rInD K x y H Q)
def rNotInA (K : PySem.W.Frag) : R2 := fun x y H Q => (∃ (c : Nat) (z : Str), x = .str ⟨#[c]⟩ ∧ y = .str z ∧ Q (.bl (!decide (c ∈ z.cps.toList))) H) ∨ (rIn K true x y H Q ∨ rNotInD K x y H Q)
theorem op_inA {X : Cx} (hu : X.A.units + 65 < cLine) : OpR X (compareOp .In) (rInA X.K) := OpR.or op_in_sign (OpR.or op_in_seq (op_inD hu))
theorem op_notInA {X : Cx} (hu : X.A.units + 65 < cLine) : OpR X (compareOp .NotIn) (rNotInA X.K) := OpR.or op_notIn_sign (OpR.or op_notIn_seq (op_notInD hu))
section
variable {K : KW} {ρ : Rho} {σ : St} {B H : Hp} {v x y : V} {Q : VK}
theorem flat_of {d : D} (h : Rp K B v d) (f : flatD d = true) : flatV v = true := by
  cases h <;> first | rfl | cases f
theorem eqV_of {d e : D} (h : Rp K B x d) (g : Rp K B y e) (f : flatD d = true) (k : flatD e = true) : eqV x y = PyData.eqv d e := by
  cases h <;> first | (cases f; done) | (cases g <;> first | (cases k; done) | rfl | (simp [eqV, PyData.eqv]))
theorem any_of {e : D} (g : Rp K B y e) (k : flatD e = true) : ∀ {vs : List V} {ds : List D}, RpL K B vs ds → ds.all flatD = true → vs.all flatV = true ∧ inV y vs = ds.any fun z => PyData.eqv z e
  | _, _, .nil, _ => ⟨rfl, rfl⟩
  | _, _, .cons h t, a => by
    rw [List.all_cons, Bool.and_eq_true] at a
    obtain ⟨q1, q2⟩ := any_of g k t a.2
    refine ⟨by rw [List.all_cons, Bool.and_eq_true]; exact ⟨flat_of h a.1, q1⟩, ?_⟩
    show ((eqV _ y) || inV y _) = _
    rw [q2, eqV_of h g a.1 k, List.any_cons]
theorem str1 {x : Str} {c : Nat} (h : x.cps.toList = [c]) : x = ⟨#[c]⟩ := by
  obtain ⟨a⟩ := x
  congr
  exact Array.ext' (by simpa using h)
theorem ol_in : OpL K (rInA K) (inD false) := fun ρ σ B H x y dx dy h Q S tx ty e k => by
  cases dy with
  | str z =>
    cases dx with
    | str w =>
      replace e : (match w.cps.toList with | [c] => some (Hd.sh (.bool (false ^^ decide (c ∈ z.cps.toList)))) | _ => none) = some h := e
      split at e
      · rename_i c ec
        cases e
        rw [tx.str, ty.str, str1 ec]
        refine .inl ⟨c, z, rfl, rfl, ?_⟩
        have := now (v := .bl (false ^^ decide (c ∈ z.cps.toList))) S (.bl _) k
        rwa [Bool.false_xor] at this
      · cases e
    | _ => cases e
  | tuple ds =>
    have e' : (if flatD dx && ds.all flatD then some (.sh (.bool (false ^^ ds.any fun z => PyData.eqv z dx))) else none) = some h := by cases dx <;> exact e
    obtain ⟨c, rfl⟩ := if_some e'
    rw [Bool.and_eq_true] at c
    obtain ⟨a, vs, rfl, ha, ra⟩ := ty.tup
    have tx' : Rp K B x dx := by cases dx <;> first | exact tx | (cases c.1; done)
    obtain ⟨q1, q2⟩ := any_of tx' c.1 ra c.2
    refine .inr (.inl ⟨a, vs, rfl, .inr (same_t S.bh ha), flat_of tx' c.1, q1, ?_⟩)
    rw [if_neg Bool.false_ne_true, q2]
    have := now (v := .bl (false ^^ ds.any fun z => PyData.eqv z dx)) S (.bl _) k
    rwa [Bool.false_xor] at this
  | list ds =>
    have e' : (if okEq dx && okEq (.list ds) then some (.sh (.bool (false ^^ ds.any fun z => PyData.eqv z dx))) else none) = some h := by cases dx <;> exact e
    obtain ⟨c, rfl⟩ := if_some e'
    unfold okEq at c
    simp only [Bool.and_eq_true] at c
    refine .inr (.inr ⟨dx, ds, (tx.rp S.bh).dp _ c.1.1, (ty.rp S.bh).dp _ c.2.1, c.1.2, c.2.2, ?_⟩)
    have := now (v := .bl (false ^^ ds.any fun z => PyData.eqv z dx)) S (.bl _) k
    rwa [Bool.false_xor] at this
  | _ => cases dx <;> cases (show none = some h from e)
theorem ol_notIn : OpL K (rNotInA K) (inD true) := fun ρ σ B H x y dx dy h Q S tx ty e k => by
  cases dy with
  | str z =>
    cases dx with
    | str w =>
      replace e : (match w.cps.toList with | [c] => some (Hd.sh (.bool (true ^^ decide (c ∈ z.cps.toList)))) | _ => none) = some h := e
      split at e
      · rename_i c ec
        cases e
        rw [tx.str, ty.str, str1 ec]
        refine .inl ⟨c, z, rfl, rfl, ?_⟩
        have := now (v := .bl (true ^^ decide (c ∈ z.cps.toList))) S (.bl _) k
        rwa [Bool.true_xor] at this
      · cases e
    | _ => cases e
  | tuple ds =>
    have e' : (if flatD dx && ds.all flatD then some (.sh (.bool (true ^^ ds.any fun z => PyData.eqv z dx))) else none) = some h := by cases dx <;> exact e
    obtain ⟨c, rfl⟩ := if_some e'
    rw [Bool.and_eq_true] at c
    obtain ⟨a, vs, rfl, ha, ra⟩ := ty.tup
    have tx' : Rp K B x dx := by cases dx <;> first | exact tx | (cases c.1; done)
    obtain ⟨q1, q2⟩ := any_of tx' c.1 ra c.2
    refine .inr (.inl ⟨a, vs, rfl, .inr (same_t S.bh ha), flat_of tx' c.1, q1, ?_⟩)
    rw [if_pos rfl, q2]
    have := now (v := .bl (true ^^ ds.any fun z => PyData.eqv z dx)) S (.bl _) k
    rwa [Bool.true_xor] at this
  | list ds =>
    have e' : (if okEq dx && okEq (.list ds) then some (.sh (.bool (true ^^ ds.any fun z => PyData.eqv z dx))) else none) = some h := by cases dx <;> exact e
    obtain ⟨c, rfl⟩ := if_some e'
    unfold okEq at c
    simp only [Bool.and_eq_true] at c
    refine .inr (.inr ⟨dx, ds, (tx.rp S.bh).dp _ c.1.1, (ty.rp S.bh).dp _ c.2.1, c.1.2, c.2.2, ?_⟩)
    have := now (v := .bl (true ^^ ds.any fun z => PyData.eqv z dx)) S (.bl _) k
    rwa [Bool.true_xor] at this
  | _ => cases dx <;> cases (show none = some h from e)
def ixD : D → D → Option Hd
  | .list ds, .int i => (atI ds i).map Hd.sh
  | .tuple ds, .int i => (atI ds i).map Hd.sh
  | .str z, .int i => if z.length ≤ sizeLine then (atI z.cps.toList i).map fun c => Hd.sh (.str ⟨#[c]⟩) else none
  | _, _ => none
theorem RpL.atI {vs : List V} {ds : List D} (h : RpL K B vs ds) {i : Int} {d : D} (e : atI ds i = some d) : ∃ v, atI vs i = some v ∧ Rp K B v d := by
  unfold L2.atI at e ⊢
  rw [h.length]
  cases q : ixN ds.length i with
  | none => rw [q] at e; cases e
  | some j =>
    rw [q] at e
    exact h.get e
theorem ol_ix : OpL K (rIx K) ixD := fun ρ σ B H x y dx dy h Q S tx ty e k => by
  cases dy with
  | int i =>
    rw [ty.int]
    cases dx with
    | list ds =>
      obtain ⟨d, e1, rfl⟩ := Option.map_eq_some_iff.mp e
      obtain ⟨a, vs, rfl, ha, ra⟩ := tx
      obtain ⟨v, q1, q2⟩ := ra.atI e1
      exact .inl ⟨a, vs, i, v, rfl, rfl, ha, q1, now S q2 k⟩
    | tuple ds =>
      obtain ⟨d, e1, rfl⟩ := Option.map_eq_some_iff.mp e
      obtain ⟨a, vs, rfl, ha, ra⟩ := tx.tup
      obtain ⟨v, q1, q2⟩ := ra.atI e1
      exact .inr (.inl ⟨a, vs, i, v, rfl, rfl, same_t S.bh ha, q1, now S q2 k⟩)
    | str z =>
      have e' : (if z.length ≤ sizeLine then (L2.atI z.cps.toList i).map fun c => Hd.sh (.str ⟨#[c]⟩) else none) = some h := e
      split at e'
      · obtain ⟨c, e1, rfl⟩ := Option.map_eq_some_iff.mp e'
        rw [tx.str]
        exact .inr (.inr ⟨z, i, c, rfl, rfl, by assumption, e1, now S (.str _) k⟩)
      · cases e'
    | _ => cases e
  | _ => cases dx <;> cases (show none = some h from e)
end
section
variable {X : Cx} {C : Ct} {a b c e : Expr} {ta tb tc te : TE} {fa fb fc fe : EF} {pos p2 : Pos}
def cutD (ds : List D) (lo hi : Option Int) : List D := (ds.drop (HT.sIx ds.length 0 lo)).take (HT.sIx ds.length ds.length hi - HT.sIx ds.length 0 lo)
def slD (lo hi : Option Int) : D → Option Hd
  | .list ds => some (.fr (.list (cutD ds lo hi)))
  | .tuple ds => some (.sh (.tuple (cutD ds lo hi)))
  | .str z => if z.length ≤ sizeLine then some (.sh (.str (cutS z lo hi))) else none
  | _ => none
def rSlAll (K : PySem.W.Frag) : V → Option Int → Option Int → Hp → VK → Prop := fun x lo hi H Q => rSlL K x lo hi H Q ∨ (rSlX K x lo hi H Q ∨ rSlS x lo hi H Q)
theorem sl_all : SlR X (rSlAll X.K) := SlR.or sl_list (SlR.or sl_tupX sl_str)
theorem RpL.cut {K : KW} {B : Hp} {vs : List V} {ds : List D} (h : RpL K B vs ds) (lo hi : Option Int) : RpL K B (cutV vs lo hi) (cutD ds lo hi) := by
  unfold cutV cutD
  rw [h.length]
  exact (h.drop _).take _
theorem ls_all {K : KW} {ρ : Rho} {σ : St} {B H : Hp} {x : V} {Q : VK} {d : D} {h : Hd} {lo hi : Option Int} (S : Sim K ρ σ B H) (tx : Tp K B H x d) (e : slD lo hi d = some h)
    (k : ∀ v B' H', Sim K ρ σ B' H' → Ext ρ σ B H ρ σ B' H' → HdOk K (New ρ σ H) ρ σ B' H' v h → Q v H') : rSlAll K x lo hi H Q := by
  cases d with
  | list ds =>
    cases e
    obtain ⟨a, vs, rfl, ha, ra⟩ := tx
    exact .inl ⟨a, vs, rfl, ha, newL S (ra.cut lo hi) k⟩
  | tuple ds =>
    cases e
    obtain ⟨a, vs, rfl, ha, ra⟩ := tx.tupX
    refine .inr (.inl ⟨a, vs, rfl, (same_x S.bh ha).sq, fun w => ?_, fun _ => newT S (ra.cut lo hi) k⟩)
    have ec : cutD ds lo hi = ds := by
      unfold cutD
      rw [← ra.length, w.1, w.2, List.drop_zero, Nat.sub_zero, ra.length, List.take_length]
    rw [ec] at k
    exact now S (.tup ha ra) k
  | str z =>
    obtain ⟨c, rfl⟩ := if_some e
    rw [tx.str]
    exact .inr (.inr ⟨z, rfl, c, now S (.str _) k⟩)
  | _ => cases e
/-- a part of a slice: nothing, or an int -/
inductive PartOk (X : Cx) (C : Ct) : Option Expr → TO → Option EF → Prop
  | non : PartOk X C none tNoPart none
  | some {e : Expr} {t : TE} {f : EF} : SE X C e t f → PartOk X C (some e) (tPart t) (some f)
def ePart (f : Option EF) (ρ : Rho) (k : Option Int → Rho → RE) : RE := match f with
  | none => k none ρ
  | some g => bindE (eSet g ρ) fun h ρ1 => match getH ρ1 h with
    | some (.int i) => k (some i) ρ1
    | _ => .stuck
def eSl (fe : EF) (fl fh : Option EF) : EF := fun ρ => bindE (eSet fe ρ) fun h ρ1 => ePart fl ρ1 fun lo ρ2 => ePart fh ρ2 fun hi ρ3 => match (getH ρ3 h).bind (slD lo hi) with
  | some r => .ok r ρ3
  | none => .stuck
theorem PartOk.pe {o : Option Expr} {t : TO} {f : Option EF} (h : PartOk X C o t f) : PO X o t := by
  cases h with
  | non => exact po_none
  | some s => exact po_some s.pe
theorem PartOk.bind {o : Option Expr} {t : TO} {f : Option EF} (h : PartOk X C o t f) {ρ : Rho} {σ : St} {B H : Hp} {Q : VK} (S : Sim C.K ρ σ B H) {k : Option Int → Rho → RE} {Q' : Option Int → Hp → Prop} (g : GoodE C ρ σ B H Q (ePart f ρ k))
    (q : ∀ i ρ1 B1 H1, Sim C.K ρ1 σ B1 H1 → Ext ρ σ B H ρ1 σ B1 H1 → GoodE C ρ1 σ B1 H1 Q (k i ρ1) → Q' i H1) : t σ H Q' := by
  cases h with
  | non => exact q none ρ B H S Ext.refl g
  | some s =>
    refine s.lk.setBind S g fun hd ρ1 x B1 H1 S1 e1 y1 g1 => ?_
    split at g1
    · rename_i i ei
      exact ⟨i, (S1.tp y1 ei).int, q (Option.some i) ρ1 B1 H1 S1 e1 g1⟩
    · exact g1.elim
theorem se_slice {lo hi : Option Expr} {tl th : TO} {fl fh : Option EF} (le : SE X C e te fe) (hl : PartOk X C lo tl fl) (hh : PartOk X C hi th fh) (hk : X.K = C.K := by rfl) :
    SE X C (.Subscript e (.Slice lo hi none p2) pos) (tSl (rSlAll C.K) te tl th) (eSl fe fl fh) := by
  refine ⟨by rw [← hk]; exact pe_slice sl_all le.pe hl.pe hh.pe, fun ρ σ B H Q S g => ?_⟩
  refine le.lk.setBind S g fun hd ρ1 x B1 H1 S1 e1 y1 g1 => ?_
  refine hl.bind S1 g1 fun i ρ2 B2 H2 S2 e2 g2 => ?_
  refine hh.bind S2 g2 fun j ρ3 B3 H3 S3 e3 g3 => ?_
  split at g3
  · rename_i r er
    obtain ⟨d, ed, es⟩ := Option.bind_eq_some_iff.mp er
    exact ls_all S3 (S3.tp (N := fun _ => True) (HdOk.ext (e2.trans e3) y1) ed) es g3
  · exact g3.elim
def GoodT (C : Ct) (ρ : Rho) (σ : St) (B H : Hp) (Q : Bool → Hp → Prop) : RE → Prop
  | .ok (.sh (.bool b)) ρ' => ∀ B' H', Sim C.K ρ' σ B' H' → Ext ρ σ B H ρ' σ B' H' → Q b H'
  | .exc x ρ' => ∀ cls dct B' H', Sim C.K ρ' σ B' H' → Ext ρ σ B H ρ' σ B' H' → XcOk C B' x cls dct → C.W cls dct σ H'
  | _ => False
def LkT (C : Ct) (t : TT) (f : EF) : Prop := ∀ ρ σ B H Q, Sim C.K ρ σ B H → GoodT C ρ σ B H Q (f ρ) → t σ H Q
structure ST (X : Cx) (C : Ct) (e : Expr) (t : TT) (f : EF) : Prop where
  pt : PT X e t
  lk : LkT C t f
structure SW (X : Cx) (C : Ct) (e : Expr) (t : TT) (f : EF) : Prop where
  pw : PW X e t
  lk : LkT C t f
theorem SW.st {t : TT} {f : EF} (h : SW X C e t f) : ST X C e t f := ⟨h.pw.pt, h.lk⟩
theorem GoodT.ext {ρ ρ1 : Rho} {σ : St} {B H B1 H1 : Hp} {Q : Bool → Hp → Prop} (x : Ext ρ σ B H ρ1 σ B1 H1) : ∀ {r : RE}, GoodT C ρ σ B H Q r → GoodT C ρ1 σ B1 H1 Q r := fun {r} g => by
  cases r with
  | stuck => exact g
  | exc c ρ2 => exact fun cls dct B' H' s y => g cls dct B' H' s (x.trans y)
  | ok h ρ2 =>
    cases h with
    | sh d =>
      cases d with
      | bool b => exact fun B' H' s y => g B' H' s (x.trans y)
      | _ => exact g
    | _ => exact g
/-- a bool: looked at -/
def eB (f : EF) : EF := fun ρ => bindE (eSet f ρ) fun h ρ1 => match getH ρ1 h with
  | some (.bool b) => .ok (.sh (.bool b)) ρ1
  | _ => .stuck
theorem lk_B {t : TE} {f : EF} (l : LkE C t f) : LkT C (tB t) (eB f) := fun ρ σ B H Q S g => by
  refine l.set ρ σ B H _ S ?_
  unfold eB at g
  cases e : eSet f ρ with
  | stuck => rw [e] at g; exact g
  | exc c ρ1 => rw [e] at g; exact g
  | ok h ρ1 =>
    rw [e] at g
    replace g : GoodT C ρ σ B H Q (match getH ρ1 h with | some (.bool b) => .ok (.sh (.bool b)) ρ1 | _ => .stuck) := g
    intro v B1 H1 S1 x y
    split at g
    · rename_i b eb
      exact ⟨b, (S1.tp y eb).bl, g B1 H1 S1 x⟩
    · exact g.elim
theorem st_val {t : TE} {f : EF} (h : SE X C e t f) (he : ∀ whole, isTrue e X.env whole = (do let v ← whole; standAt e.pos; holding [v] (truthy v)) := by intro _; rfl) : ST X C e (tB t) (eB f) := ⟨pt_val h.pe he, lk_B h.lk⟩
theorem se_cmp {op : CmpOp} {r : R2} {o : D → D → Option Hd} (hr : OpL C.K r o) (ho : OpR X (compareOp op) r) (la : SE X C a ta fa) (lb : SE X C b tb fb) (hm : behindInMarks op b = false := by first | exact nomark _ | rfl) : SE X C (.Compare a [op] [b] pos) (tOp r ta tb) (eBin o fa fb) :=
  ⟨pe_cmpR ho la.pe lb.pe hm, lk_op hr la.lk lb.lk⟩
theorem st_cmp {op : CmpOp} {r : R2} {o : D → D → Option Hd} (hr : OpL C.K r o) (ho : OpR X (compareOp op) r) (la : SE X C a ta fa) (lb : SE X C b tb fb) (hm : behindInMarks op b = false := by first | exact nomark _ | rfl) : ST X C (.Compare a [op] [b] pos) (tTest (tOp r ta tb)) (eB (eBin o fa fb)) :=
  ⟨pt_cmpR ho la.pe lb.pe hm, lk_B (lk_op hr la.lk lb.lk)⟩
/-- a test, then what follows -/
theorem LkT.bind {t : TT} {f : EF} (l : LkT C t f) {ρ : Rho} {σ : St} {B H : Hp} (S : Sim C.K ρ σ B H) {Q' : Bool → Hp → Prop}
    (hx : ∀ x ρ1, f ρ = .exc x ρ1 → ∀ cls dct B' H', Sim C.K ρ1 σ B' H' → Ext ρ σ B H ρ1 σ B' H' → XcOk C B' x cls dct → C.W cls dct σ H')
    (h : ∀ b ρ1, f ρ = .ok (.sh (.bool b)) ρ1 → ∀ B1 H1, Sim C.K ρ1 σ B1 H1 → Ext ρ σ B H ρ1 σ B1 H1 → Q' b H1) (hs : (∃ b ρ1, f ρ = .ok (.sh (.bool b)) ρ1) ∨ ∃ x ρ1, f ρ = .exc x ρ1) : t σ H Q' := by
  refine l ρ σ B H Q' S ?_
  rcases hs with ⟨b, ρ1, e⟩ | ⟨x, ρ1, e⟩
  · rw [e]; exact h b ρ1 e
  · rw [e]; exact hx x ρ1 e
def bindB (r : RE) (k : Bool → Rho → RE) : RE := match r with
  | .ok (.sh (.bool b)) ρ => k b ρ
  | .exc x ρ => .exc x ρ
  | _ => .stuck
theorem LkT.bindE {t : TT} {f : EF} (l : LkT C t f) {ρ : Rho} {σ : St} {B H : Hp} (S : Sim C.K ρ σ B H) {Q : VK} {k : Bool → Rho → RE} {Q' : Bool → Hp → Prop} (g : GoodE C ρ σ B H Q (bindB (f ρ) k))
    (h : ∀ b ρ1 B1 H1, Sim C.K ρ1 σ B1 H1 → Ext ρ σ B H ρ1 σ B1 H1 → GoodE C ρ1 σ B1 H1 Q (k b ρ1) → Q' b H1) : t σ H Q' := by
  refine l ρ σ B H Q' S ?_
  cases e : f ρ with
  | stuck => rw [e] at g; exact g
  | exc x ρ1 => rw [e] at g; exact g
  | ok hd ρ1 =>
    rw [e] at g
    cases hd with
    | sh d =>
      cases d with
      | bool b => exact fun B1 H1 s x => h b ρ1 B1 H1 s x (GoodE.ext x g)
      | _ => exact g
    | _ => exact g
theorem LkT.bindT {t : TT} {f : EF} (l : LkT C t f) {ρ : Rho} {σ : St} {B H : Hp} (S : Sim C.K ρ σ B H) {Q : Bool → Hp → Prop} {k : Bool → Rho → RE} {Q' : Bool → Hp → Prop} (g : GoodT C ρ σ B H Q (bindB (f ρ) k))
    (h : ∀ b ρ1 B1 H1, Sim C.K ρ1 σ B1 H1 → Ext ρ σ B H ρ1 σ B1 H1 → GoodT C ρ1 σ B1 H1 Q (k b ρ1) → Q' b H1) : t σ H Q' := by
  refine l ρ σ B H Q' S ?_
  cases e : f ρ with
  | stuck => rw [e] at g; exact g
  | exc x ρ1 => rw [e] at g; exact g
  | ok hd ρ1 =>
    rw [e] at g
    cases hd with
    | sh d =>
      cases d with
      | bool b => exact fun B1 H1 s x => h b ρ1 B1 H1 s x (GoodT.ext x g)
      | _ => exact g
    | _ => exact g
def eNot (f : EF) : EF := fun ρ => bindB (f ρ) fun b ρ1 => .ok (.sh (.bool (!b))) ρ1
def eAnd (f g : EF) : EF := fun ρ => bindB (f ρ) fun b ρ1 => if b then g ρ1 else .ok (.sh (.bool false)) ρ1
def eOr (f g : EF) : EF := fun ρ => bindB (f ρ) fun b ρ1 => if b then .ok (.sh (.bool true)) ρ1 else g ρ1
def eIf (f g h : EF) : EF := fun ρ => bindB (f ρ) fun b ρ1 => if b then g ρ1 else h ρ1
variable {t u w : TT} {f g h : EF}
theorem st_not (l : ST X C a t f) : ST X C (.UnaryOp .Not a pos) (tNot t) (eNot f) := ⟨pt_not l.pt, fun ρ σ B H Q S g => l.lk.bindT S g fun b ρ1 B1 H1 S1 e1 g1 => g1 B1 H1 S1 Ext.refl⟩
theorem sw_one {op : BoolOp} (l : ST X C a t f) : SW X C (.BoolOp op [a] pos) t f := by
  cases op
  · exact ⟨pw_and1 l.pt, l.lk⟩
  · exact ⟨pw_or1 l.pt, l.lk⟩
theorem sw_and {rest : List Expr} (l : ST X C a t f) (m : SW X C (.BoolOp .And (b :: rest) pos) u g) : SW X C (.BoolOp .And (a :: b :: rest) pos) (tAnd t u) (eAnd f g) :=
  ⟨pw_and l.pt m.pw, fun ρ σ B H Q S gd => l.lk.bindT S gd fun b ρ1 B1 H1 S1 e1 g1 => by
    cases b with
    | true => exact m.lk ρ1 σ B1 H1 Q S1 g1
    | false => exact g1 B1 H1 S1 Ext.refl⟩
theorem sw_or {rest : List Expr} (l : ST X C a t f) (m : SW X C (.BoolOp .Or (b :: rest) pos) u g) : SW X C (.BoolOp .Or (a :: b :: rest) pos) (tOr t u) (eOr f g) :=
  ⟨pw_or l.pt m.pw, fun ρ σ B H Q S gd => l.lk.bindT S gd fun b ρ1 B1 H1 S1 e1 g1 => by
    cases b with
    | false => exact m.lk ρ1 σ B1 H1 Q S1 g1
    | true => exact g1 B1 H1 S1 Ext.refl⟩
theorem se_one {op : BoolOp} (l : SE X C a ta fa) : SE X C (.BoolOp op [a] pos) ta fa := ⟨pe_one l.pe, l.lk⟩
theorem se_and {rest : List Expr} (l : SE X C a ta fa) (m : SE X C (.BoolOp .And (b :: rest) pos) tb fb) : SE X C (.BoolOp .And (a :: b :: rest) pos) (tAndV ta tb) (eAnd (eB fa) fb) := ⟨pe_and l.pe m.pe, fun ρ σ B H Q S g => by
  have q : tB ta σ H fun b H1 => if b = true then tb σ H1 Q else Q (.bl false) H1 := (lk_B l.lk).bindE S g fun b ρ1 B1 H1 S1 e1 g1 => by
    cases b with
    | true => exact m.lk ρ1 σ B1 H1 Q S1 g1
    | false => exact g1 (.bl false) B1 H1 S1 Ext.refl (.bl _)
  exact q⟩
theorem se_if (l : ST X C c t f) (la : SE X C a ta fa) (lb : SE X C b tb fb) : SE X C (.IfExp c a b pos) (tIf t ta tb) (eIf f fa fb) := ⟨pe_ifExp l.pt la.pe lb.pe, fun ρ σ B H Q S g => l.lk.bindE S g fun b ρ1 B1 H1 S1 e1 g1 => by
  cases b with
  | true => exact la.lk ρ1 σ B1 H1 Q S1 g1
  | false => exact lb.lk ρ1 σ B1 H1 Q S1 g1⟩
def eChain (o o' : D → D → Option Hd) (fa fb fc : EF) : EF := fun ρ => bindE (eSet fa ρ) fun ha ρ1 => bindE (eSet fb ρ1) fun hb ρ2 => match getH ρ2 ha, getH ρ2 hb with
  | some da, some db => match o da db with
    | some (.sh (.bool b)) => if b then bindE (eSet fc ρ2) (fun hc ρ3 => match getH ρ3 hb, getH ρ3 hc with
      | some db', some dc => match o' db' dc with
        | some h => .ok h ρ3
        | none => .stuck
      | _, _ => .stuck) else .ok (.sh (.bool false)) ρ2
    | _ => .stuck
  | _, _ => .stuck
theorem lk_chain {r r' : R2} {o o' : D → D → Option Hd} (hr : OpL C.K r o) (hr' : OpL C.K r' o') (la : LkE C ta fa) (lb : LkE C tb fb) (lc : LkE C tc fc) : LkE C (tChain r r' ta tb tc) (eChain o o' fa fb fc) := fun ρ σ B H Q S g => by
  refine la.setBind S g fun ha ρ1 x B1 H1 S1 e1 y1 g1 => ?_
  refine lb.setBind S1 g1 fun hb ρ2 y B2 H2 S2 e2 y2 g2 => ?_
  split at g2
  · rename_i da db ea eb
    split at g2
    · rename_i b eh
      refine hr ρ2 σ B2 H2 x y da db _ _ S2 (S2.tp (N := fun _ => True) (HdOk.ext e2 y1) ea) (S2.tp y2 eb) eh fun v B3 H3 S3 e3 y3 => ?_
      cases (show Rp C.K B3 v (.bool b) from y3)
      refine ⟨b, rfl, ?_⟩
      cases b with
      | true =>
        rw [if_pos rfl] at g2 ⊢
        refine lc.setBind S3 (GoodE.ext e3 g2) fun hc ρ4 z B4 H4 S4 e4 y4 g4 => ?_
        split at g4
        · rename_i db' dc eb' ec
          split at g4
          · rename_i h eh'
            exact hr' ρ4 σ B4 H4 y z db' dc h Q S4 (S4.tp (N := fun _ => True) (HdOk.ext (e3.trans e4) y2) eb') (S4.tp y4 ec) eh' g4
          · exact g4.elim
        · exact g4.elim
      | false =>
        rw [if_neg Bool.false_ne_true] at g2 ⊢
        exact g2 (.bl false) B3 H3 S3 e3 (.bl _)
    · exact g2.elim
  · exact g2.elim
theorem se_chain {op op' : CmpOp} {r r' : R2} {o o' : D → D → Option Hd} (hr : OpL C.K r o) (ho : OpR X (compareOp op) r) (hr' : OpL C.K r' o') (ho' : OpR X (compareOp op') r') (la : SE X C a ta fa) (lb : SE X C b tb fb) (lc : SE X C c tc fc)
    (hm : lastMarks [op, op'] [b, c] = false := by with_unfolding_all rfl) : SE X C (.Compare a [op, op'] [b, c] pos) (tChain r r' ta tb tc) (eChain o o' fa fb fc) := ⟨pe_chain ho ho' la.pe lb.pe lc.pe hm, lk_chain hr hr' la.lk lb.lk lc.lk⟩
theorem st_chain {op op' : CmpOp} {r r' : R2} {o o' : D → D → Option Hd} (hr : OpL C.K r o) (ho : OpR X (compareOp op) r) (hr' : OpL C.K r' o') (ho' : OpR X (compareOp op') r') (la : SE X C a ta fa) (lb : SE X C b tb fb) (lc : SE X C c tc fc)
    (hm : lastMarks [op, op'] [b, c] = false := by with_unfolding_all rfl) : ST X C (.Compare a [op, op'] [b, c] pos) (tTest (tChain r r' ta tb tc)) (eB (eChain o o' fa fb fc)) := ⟨pt_chain ho ho' la.pe lb.pe lc.pe hm, lk_B (lk_chain hr hr' la.lk lb.lk lc.lk)⟩
end
end GS
namespace GS
open PySem L2
section
variable {X : Cx} {C : Ct} {e : Expr} {es : List Expr} {te : TE} {fe : EF} {pos : Pos}
/-- a name, looked at -/
def eVb (i : Nat) : EF := fun ρ => match slot ρ i with
  | some _ => .ok (.bw i) ρ
  | none => .stuck
/-- a name whose datum is shared from here on -/
def eMv (i : Nat) : EF := fun ρ => match slot ρ i with
  | some ⟨d, .sh⟩ => .ok (.sh d) ρ
  | some ⟨d, .ow⟩ => .ok (.sh d) (ρ.set i (some ⟨d, .sh⟩))
  | _ => .stuck
def eC (d : D) : EF := fun ρ => .ok (.sh d) ρ
theorem lk_vb {i : Nat} : LkE C (tVar i) (eVb i) := fun ρ σ B H Q S g => by
  unfold eVb at g
  cases h : slot ρ i with
  | none => rw [h] at g; exact g.elim
  | some c =>
    rw [h] at g
    obtain ⟨v, e, q⟩ := S.sl i c (slot_some h)
    exact ⟨v, e, g v B H S Ext.refl e⟩
theorem set_get {ρ : Rho} {i j : Nat} {c : Option Cel} {x : Option Cel} (h : (ρ.set i c)[j]? = some x) : (i = j ∧ x = c) ∨ (i ≠ j ∧ ρ[j]? = some x) := by
  rw [List.getElem?_set] at h
  by_cases e : i = j
  · rw [if_pos e] at h
    split at h
    · cases h; exact .inl ⟨e, rfl⟩
    · cases h
  · rw [if_neg e] at h
    exact .inr ⟨e, h⟩
theorem set_at {ρ : Rho} {i : Nat} {c : Option Cel} (h : i < ρ.length) : (ρ.set i c)[i]? = some c := by
  rw [List.getElem?_set, if_pos rfl, if_pos h]
theorem set_other {ρ : Rho} {i j : Nat} {c : Option Cel} (h : i ≠ j) : (ρ.set i c)[j]? = ρ[j]? := by
  rw [List.getElem?_set, if_neg h]
theorem lt_of {ρ : Rho} {i : Nat} {x : Option Cel} (h : ρ[i]? = some x) : i < ρ.length := (List.getElem?_eq_some_iff.mp h).1
/-- an owned slot is given up: the datum is shared from here on -/
theorem Sim.freeze {K : KW} {ρ : Rho} {σ : St} {B H : Hp} (S : Sim K ρ σ B H) {i : Nat} {d : D} (hi : ρ[i]? = some (some ⟨d, .ow⟩)) :
    ∃ v B1, σ[i]? = some (some v) ∧ Sim K (ρ.set i (some ⟨d, .sh⟩)) σ B1 H ∧ Ext ρ σ B H (ρ.set i (some ⟨d, .sh⟩)) σ B1 H ∧ Rp K B1 v d := by
  obtain ⟨v, e, q⟩ := S.sl i _ hi
  rcases q with ⟨q, _⟩ | ⟨_, a, rfl, hb, ho⟩
  · cases q
  obtain ⟨o, eo⟩ := ho.some
  have own : OwnA ρ σ a := ⟨i, _, hi, by simp, e⟩
  have sB : Same B (upd B a o) := fun b u e => by rw [upd_ne (ne_of_none e hb)]; exact e
  have rp : Rp K (upd B a o) (.ref a) d := by
    rw [eo] at ho
    have ho := ho.mono sB
    cases d with
    | list ds =>
      obtain ⟨vs, e1, e2⟩ := ho
      cases e1
      exact .lst (.inl (.inl upd_same)) e2
    | dict ps =>
      obtain ⟨ep, b, xs, e1, e2⟩ := ho
      cases e1
      exact .dct upd_same e2
    | _ => exact ho.elim
  refine ⟨.ref a, upd B a o, e, ⟨fun b u z => ?_, by rw [List.length_set]; exact S.len, fun j c hj => ?_, fun j k cj ck b hj hk nj nk ej ek => ?_⟩, ⟨sB, fun b u z => ?_, fun b u z _ => z, fun b z => ?_, fun j c hj hc => ?_, fun j c hj hc => ?_⟩, rp⟩
  · by_cases h : b = a
    · subst h; rw [upd_same] at z; cases z; exact eo
    · rw [upd_ne h] at z; exact S.bh _ _ z
  · rcases set_get hj with ⟨rfl, ec⟩ | ⟨ne, hj⟩
    · cases ec
      exact ⟨.ref a, e, .inl ⟨rfl, rp⟩⟩
    · obtain ⟨v, ev, q⟩ := S.sl j c hj
      refine ⟨v, ev, q.mono sB fun b hv hb' ho' hf => ⟨?_, rfl⟩⟩
      have nb : b ≠ a := fun z => by
        subst z hv
        exact ne (S.dj i j _ c b hi hj (by simp) hf e ev)
      rw [upd_ne nb]; exact hb'
  · rcases set_get hj with ⟨rfl, ec⟩ | ⟨_, hj⟩
    · cases ec; exact absurd rfl nj
    · rcases set_get hk with ⟨rfl, ec⟩ | ⟨_, hk⟩
      · cases ec; exact absurd rfl nk
      · exact S.dj j k cj ck b hj hk nj nk ej ek
  · by_cases h : b = a
    · subst h; exact .inr (.inr own)
    · rw [upd_ne h] at z; exact .inl z
  · obtain ⟨j, c, hj, hc, ej⟩ := z
    rcases set_get hj with ⟨rfl, ec⟩ | ⟨_, hj⟩
    · cases ec; exact absurd rfl hc
    · exact .inr ⟨j, c, hj, hc, ej⟩
  · have ne : i ≠ j := fun z => by
      subst z
      rw [hi] at hj
      cases hj
      cases hc
    exact ⟨rfl, c, by rw [set_other ne]; exact hj, hc⟩
  · rcases set_get hj with ⟨rfl, ec⟩ | ⟨_, hj⟩
    · cases ec; cases hc
    · exact ⟨c, hj, hc⟩
/-- .. it is nobody's from here on -/
theorem Sim.give {K : KW} {ρ : Rho} {σ : St} {B H : Hp} (S : Sim K ρ σ B H) {i : Nat} {d : D} (hi : ρ[i]? = some (some ⟨d, .ow⟩)) :
    ∃ a, σ[i]? = some (some (.ref a)) ∧ Sim K (ρ.set i none) σ B H ∧ Ext ρ σ B H (ρ.set i none) σ B H ∧ HdOk K (New ρ σ H) (ρ.set i none) σ B H (.ref a) (.fr d) := by
  obtain ⟨v, e, q⟩ := S.sl i _ hi
  rcases q with ⟨q, _⟩ | ⟨_, a, rfl, hb, ho⟩
  · cases q
  have own : OwnA ρ σ a := ⟨i, _, hi, by simp, e⟩
  refine ⟨a, e, ⟨S.bh, by rw [List.length_set]; exact S.len, fun j c hj => ?_, fun j k cj ck b hj hk nj nk ej ek => ?_⟩, ⟨Same.refl B, fun b u z => .inl z, fun b u z _ => z, fun b z => ?_, fun j c hj hc => ?_, fun j c hj hc => ?_⟩, a, rfl, hb, ho, fun z => ?_, .inr own⟩
  · rcases set_get hj with ⟨rfl, ec⟩ | ⟨ne, hj⟩
    · cases ec
    · exact S.sl j c hj
  · rcases set_get hj with ⟨rfl, ec⟩ | ⟨_, hj⟩
    · cases ec
    · rcases set_get hk with ⟨rfl, ec⟩ | ⟨_, hk⟩
      · cases ec
      · exact S.dj j k cj ck b hj hk nj nk ej ek
  · obtain ⟨j, c, hj, hc, ej⟩ := z
    rcases set_get hj with ⟨rfl, ec⟩ | ⟨_, hj⟩
    · cases ec
    · exact .inr ⟨j, c, hj, hc, ej⟩
  · have ne : i ≠ j := fun z => by
      subst z
      rw [hi] at hj
      cases hj
      cases hc
    exact ⟨rfl, c, by rw [set_other ne]; exact hj, hc⟩
  · rcases set_get hj with ⟨rfl, ec⟩ | ⟨_, hj⟩
    · cases ec
    · exact ⟨c, hj, hc⟩
  · obtain ⟨j, c, hj, hc, ej⟩ := z
    rcases set_get hj with ⟨rfl, ec⟩ | ⟨ne, hj⟩
    · cases ec
    · exact ne (S.dj i j _ c a hi hj (by simp) hc e ej)
theorem lk_mv {i : Nat} : LkE C (tVar i) (eMv i) := fun ρ σ B H Q S g => by
  unfold eMv at g
  cases h : slot ρ i with
  | none => rw [h] at g; exact g.elim
  | some c =>
    rw [h] at g
    obtain ⟨d, fl⟩ := c
    have hi := slot_some h
    cases fl with
    | sh =>
      obtain ⟨v, e, q⟩ := S.sl i _ hi
      rcases q with ⟨_, q⟩ | ⟨q, _⟩
      · exact ⟨v, e, g v B H S Ext.refl q⟩
      · exact absurd rfl q
    | ow =>
      obtain ⟨v, B1, e, S1, x1, r⟩ := S.freeze hi
      exact ⟨v, e, g v B1 H S1 x1 r⟩
    | io => exact g.elim
theorem se_vb (i : Nat) {x : Str} (hN : X.N[i]? = some x := by rfl) (hv : Vis X.env.scope x := by first | exact Or.inl rfl | exact Or.inr (Or.inl rfl) | exact Or.inr (Or.inr rfl)) (hd : (x == ("__debug__" : Str)) = false := by decide)
    (hcd : (x == ("__classdict__" : Str)) = false := by decide) : SE X C (.Name x pos) (tVar i) (eVb i) := ⟨pe_var hN hv hd hcd, lk_vb⟩
theorem se_mv (i : Nat) {x : Str} (hN : X.N[i]? = some x := by rfl) (hv : Vis X.env.scope x := by first | exact Or.inl rfl | exact Or.inr (Or.inl rfl) | exact Or.inr (Or.inr rfl)) (hd : (x == ("__debug__" : Str)) = false := by decide)
    (hcd : (x == ("__classdict__" : Str)) = false := by decide) : SE X C (.Name x pos) (tVar i) (eMv i) := ⟨pe_var hN hv hd hcd, lk_mv⟩
theorem lk_c {v : V} {d : D} (h : ∀ B, Rp C.K B v d) : LkE C (tC v) (eC d) := fun ρ σ B H Q S g => g v B H S Ext.refl (h B)
theorem se_int {i : Int} {j : Nat} : SE X C (.Constant (.int i) j pos) (tC (.int i)) (eC (.int i)) := ⟨pe_int, lk_c fun _ => .int i⟩
theorem se_str {i : Str} {j : Nat} : SE X C (.Constant (.str i) j pos) (tC (.str i)) (eC (.str i)) := ⟨pe_str, lk_c fun _ => .str i⟩
theorem se_bl {i : Bool} {j : Nat} : SE X C (.Constant (.bool i) j pos) (tC (.bl i)) (eC (.bool i)) := ⟨pe_bl, lk_c fun _ => .bl i⟩
theorem se_non {j : Nat} : SE X C (.Constant .none j pos) (tC .non) (eC .none) := ⟨pe_non, lk_c fun _ => .non⟩
/-- a module's constant -/
theorem se_glob {x : Str} {v : V} {u : Value} {d : D} (hm : X.mg x = some u) (r : RelV v u) (h : ∀ B, Rp C.K B v d) (hg : Gl X x := by rfl) (hd : (x == ("__debug__" : Str)) = false := by decide) : SE X C (.Name x pos) (tC v) (eC d) := ⟨pe_glob hg hm r hd, lk_c h⟩
inductive RA where | stuck | ok (hs : List Hd) (ρ : Rho) | exc (x : Xc) (ρ : Rho)
abbrev AF := Rho → RA
def HsOk (K : KW) (σ : St) (B : Hp) (v : V) : Hd → Prop
  | .sh d => Rp K B v d
  | .fr _ => False
  | .bw i => σ[i]? = some (some v)
inductive HdL (K : KW) (σ : St) (B : Hp) : List V → List Hd → Prop
  | nil : HdL K σ B [] []
  | cons {v : V} {vs : List V} {h : Hd} {hs : List Hd} : HsOk K σ B v h → HdL K σ B vs hs → HdL K σ B (v :: vs) (h :: hs)
theorem HsOk.mono {K : KW} {σ : St} {B B1 : Hp} (e : Same B B1) {v : V} : ∀ {h : Hd}, HsOk K σ B v h → HsOk K σ B1 v h
  | .sh _, q => Rp.mono e q
  | .fr _, q => q
  | .bw _, q => q
theorem HdL.mono {K : KW} {σ : St} {B B1 : Hp} (e : Same B B1) : ∀ {vs : List V} {hs : List Hd}, HdL K σ B vs hs → HdL K σ B1 vs hs
  | _, _, .nil => .nil
  | _, _, .cons h t => .cons (h.mono e) (HdL.mono e t)
theorem HdL.length {K : KW} {σ : St} {B : Hp} : ∀ {vs : List V} {hs : List Hd}, HdL K σ B vs hs → vs.length = hs.length
  | _, _, .nil => rfl
  | _, _, .cons h t => by rw [List.length_cons, List.length_cons, HdL.length t]
def GoodA (C : Ct) (ρ : Rho) (σ : St) (B H : Hp) (Q : List V → Hp → Prop) : RA → Prop
  | .stuck => False
  | .ok hs ρ' => ∀ vs B' H', Sim C.K ρ' σ B' H' → Ext ρ σ B H ρ' σ B' H' → HdL C.K σ B' vs hs → Q vs H'
  | .exc x ρ' => ∀ cls dct B' H', Sim C.K ρ' σ B' H' → Ext ρ σ B H ρ' σ B' H' → XcOk C B' x cls dct → C.W cls dct σ H'
def LkA (C : Ct) (t : TA) (f : AF) : Prop := ∀ ρ σ B H Q, Sim C.K ρ σ B H → GoodA C ρ σ B H Q (f ρ) → t σ H Q
structure SA (X : Cx) (C : Ct) (es : List Expr) (t : TA) (f : AF) : Prop where
  pa : PA X es t
  lk : LkA C t f
def aNil : AF := fun ρ => .ok [] ρ
def aCons (f : EF) (g : AF) : AF := fun ρ => match eSet f ρ with
  | .stuck => .stuck
  | .exc x ρ1 => .exc x ρ1
  | .ok h ρ1 => match g ρ1 with
    | .stuck => .stuck
    | .exc x ρ2 => .exc x ρ2
    | .ok hs ρ2 => .ok (h :: hs) ρ2
theorem GoodA.ext {ρ ρ1 : Rho} {σ : St} {B H B1 H1 : Hp} {Q : List V → Hp → Prop} (x : Ext ρ σ B H ρ1 σ B1 H1) : ∀ {r : RA}, GoodA C ρ σ B H Q r → GoodA C ρ1 σ B1 H1 Q r
  | .stuck, g => g
  | .ok _ _, g => fun vs B' H' s y z => g vs B' H' s (x.trans y) z
  | .exc _ _, g => fun c d B' H' s y z => g c d B' H' s (x.trans y) z
theorem hs_of {K : KW} {N : Addr → Prop} {ρ : Rho} {σ : St} {B H : Hp} {v : V} {h : Hd} (y : HdOk K N ρ σ B H v (setl h)) : HsOk K σ B v (setl h) := by
  cases h <;> exact y
theorem sa_nil : SA X C [] tNil aNil := ⟨pa_nil, fun ρ σ B H Q S g => g [] B H S Ext.refl .nil⟩
theorem sa_cons {t : TA} {g : AF} (l : SE X C e te fe) (m : SA X C es t g) (hs : starEach (e :: es) X.env = (false, eval e X.env) :: starEach es X.env := by rfl) : SA X C (e :: es) (tCons te t) (aCons fe g) := ⟨pa_cons l.pe m.pa hs, fun ρ σ B H Q S gd => by
  refine l.lk.set ρ σ B H _ S ?_
  unfold aCons at gd
  cases e : eSet fe ρ with
  | stuck => rw [e] at gd; exact gd
  | exc x ρ1 => rw [e] at gd; exact gd
  | ok h ρ1 =>
    rw [e] at gd
    intro v B1 H1 S1 x1 y1
    have y2 : HsOk C.K σ B1 v h := by
      unfold eSet bindE at e
      split at e
      · cases e
      · rename_i h' ρ' e'
        cases e
        exact hs_of y1
      · cases e
    refine m.lk ρ1 σ B1 H1 _ S1 ?_
    cases e2 : g ρ1 with
    | stuck => simp only [e2] at gd; exact gd
    | exc x ρ2 => simp only [e2] at gd; exact GoodA.ext x1 (r := .exc x ρ2) gd
    | ok hs ρ2 =>
      simp only [e2] at gd
      exact fun vs B2 H2 S2 x2 y3 => gd (v :: vs) B2 H2 S2 (x1.trans x2) (.cons (y2.mono x2.bb) y3)⟩
def bindA (r : RA) (k : List Hd → Rho → RE) : RE := match r with
  | .stuck => .stuck
  | .ok hs ρ => k hs ρ
  | .exc x ρ => .exc x ρ
theorem LkA.bind {t : TA} {f : AF} (l : LkA C t f) {ρ : Rho} {σ : St} {B H : Hp} (S : Sim C.K ρ σ B H) {Q : VK} {k : List Hd → Rho → RE} {Q' : List V → Hp → Prop} (g : GoodE C ρ σ B H Q (bindA (f ρ) k))
    (h : ∀ hs ρ1 vs B1 H1, Sim C.K ρ1 σ B1 H1 → Ext ρ σ B H ρ1 σ B1 H1 → HdL C.K σ B1 vs hs → GoodE C ρ1 σ B1 H1 Q (k hs ρ1) → Q' vs H1) : t σ H Q' := by
  refine l ρ σ B H Q' S ?_
  cases e : f ρ with
  | stuck => rw [e] at g; exact g
  | exc x ρ1 => rw [e] at g; exact g
  | ok hs ρ1 =>
    rw [e] at g
    exact fun vs B1 H1 s x y => h hs ρ1 vs B1 H1 s x y (GoodE.ext x g)
/-- all are data of their own -/
def shs : List Hd → Option (List D)
  | [] => some []
  | .sh d :: hs => (shs hs).map (d :: ·)
  | _ :: _ => none
theorem shs_ok {K : KW} {σ : St} {B : Hp} : ∀ {vs : List V} {hs : List Hd} {ds : List D}, HdL K σ B vs hs → shs hs = some ds → RpL K B vs ds
  | _, _, _, .nil, e => by cases e; exact .nil
  | _, .sh d :: hs, _, .cons h t, e => by
    obtain ⟨r, er, rfl⟩ := Option.map_eq_some_iff.mp (show (shs hs).map (d :: ·) = some _ from e)
    exact .cons h (shs_ok t er)
/-- what they are, looked at -/
def gets (ρ : Rho) : List Hd → Option (List D)
  | [] => some []
  | h :: hs => match getH ρ h, gets ρ hs with
    | some d, some ds => some (d :: ds)
    | _, _ => none
inductive TpL (K : KW) (B H : Hp) : List V → List D → Prop
  | nil : TpL K B H [] []
  | cons {v : V} {vs : List V} {d : D} {ds : List D} : Tp K B H v d → TpL K B H vs ds → TpL K B H (v :: vs) (d :: ds)
theorem hd_hs {K : KW} {N : Addr → Prop} {ρ : Rho} {σ : St} {B H : Hp} {v : V} : ∀ {h : Hd}, HsOk K σ B v h → HdOk K N ρ σ B H v h
  | .sh _, q => q
  | .bw _, q => q
theorem gets_ok {ρ : Rho} {σ : St} {B H : Hp} (S : Sim C.K ρ σ B H) : ∀ {vs : List V} {hs : List Hd} {ds : List D}, HdL C.K σ B vs hs → gets ρ hs = some ds → TpL C.K B H vs ds
  | _, _, _, .nil, e => by cases e; exact .nil
  | _, h :: hs, _, .cons y t, e => by
    unfold gets at e
    split at e
    · rename_i d ds e1 e2
      cases e
      exact .cons (S.tp (N := fun _ => True) (hd_hs y) e1) (gets_ok S t e2)
    · cases e
def eTup (f : AF) : EF := fun ρ => bindA (f ρ) fun hs ρ1 => match shs hs with
  | some ds => if ds.length ≤ 1000 then .ok (.sh (.tuple ds)) ρ1 else .stuck
  | none => .stuck
def eLst (f : AF) : EF := fun ρ => bindA (f ρ) fun hs ρ1 => match shs hs with
  | some ds => if ds.length ≤ 1000 then .ok (.fr (.list ds)) ρ1 else .stuck
  | none => .stuck
theorem small {n : Nat} (h : n ≤ 1000) : n ≤ sizeLine := Nat.le_of_lt (small1000 h)
theorem se_tup {t : TA} {f : AF} {k : Nat} (l : SA X C es t f) : SE X C (.Tuple es k pos) (tTupX t) (eTup f) := ⟨pe_tupX l.pa, fun ρ σ B H Q S g => by
  refine l.lk.bind S g fun hs ρ1 vs B1 H1 S1 x1 y1 g1 => ?_
  split at g1
  · rename_i ds e
    split at g1
    · have r := shs_ok y1 e
      exact ⟨by rw [r.length]; exact small (by assumption), newT S1 r g1⟩
    · exact g1.elim
  · exact g1.elim⟩
theorem se_lst {t : TA} {f : AF} (l : SA X C es t f) : SE X C (.List es pos) (tLst t) (eLst f) := ⟨pe_lst l.pa, fun ρ σ B H Q S g => by
  refine l.lk.bind S g fun hs ρ1 vs B1 H1 S1 x1 y1 g1 => ?_
  split at g1
  · rename_i ds e
    split at g1
    · have r := shs_ok y1 e
      exact ⟨by rw [r.length]; exact small (by assumption), newL S1 r g1⟩
    · exact g1.elim
  · exact g1.elim⟩
def CalL (K : KW) (r : List V → Hp → VK → Prop) (o : List D → Option Hd) : Prop := ∀ ρ σ B H xs ds h Q, Sim K ρ σ B H → TpL K B H xs ds → o ds = some h →
  (∀ v B' H', Sim K ρ σ B' H' → Ext ρ σ B H ρ σ B' H' → HdOk K (New ρ σ H) ρ σ B' H' v h → Q v H') → r xs H Q
def eCB (o : List D → Option Hd) (f : AF) : EF := fun ρ => bindA (f ρ) fun hs ρ1 => match (gets ρ1 hs).bind o with
  | some h => .ok h ρ1
  | none => .stuck
theorem lk_cb {t : TA} {f : AF} {r : List V → Hp → VK → Prop} {o : List D → Option Hd} (hr : CalL C.K r o) (l : LkA C t f) : LkE C (tCB r t) (eCB o f) := fun ρ σ B H Q S g => by
  refine l.bind S g fun hs ρ1 vs B1 H1 S1 x1 y1 g1 => ?_
  split at g1
  · rename_i h e
    obtain ⟨ds, e1, e2⟩ := Option.bind_eq_some_iff.mp e
    exact hr ρ1 σ B1 H1 vs ds h Q S1 (gets_ok S1 y1 e1) e2 g1
  · exact g1.elim
theorem se_cb {x : Str} {id : String} {p : Pos} {t : TA} {f : AF} {r : List V → Hp → VK → Prop} {o : List D → Option Hd} (hr : CalL C.K r o) (hc : CallR X (.builtin id) r) (hm : X.mg x = none) (l : SA X C (e :: es) t f) (hv : bootBuiltins x = some (.builtin id) := by decide +kernel) (hg : Gl X x := by rfl)
    (hn : x ≠ "__name__" := by decide) (hdb : (x == ("__debug__" : Str)) = false := by decide) (he : starEach (e :: es) X.env = (false, eval e X.env) :: starEach es X.env := by rfl) (hpl : (backTo pos (starEach es X.env)).any (·.1) = false := by rfl) :
    SE X C (.Call (.Name x p) (e :: es) [] pos) (tCB r t) (eCB o f) := ⟨pe_callB hc hg hm hv l.pa hn hdb he hpl, lk_cb hr l.lk⟩
theorem se_ct {x : Str} {T : String} {p : Pos} {t : TA} {f : AF} {r : List V → Hp → VK → Prop} {o : List D → Option Hd} (hr : CalL C.K r o) (hc : CallR X (.type T) r) (hm : X.mg x = none) (l : SA X C (e :: es) t f) (hv : bootBuiltins x = some (.type T) := by decide +kernel) (hg : Gl X x := by rfl)
    (hn : x ≠ "__name__" := by decide) (hdb : (x == ("__debug__" : Str)) = false := by decide) (he : starEach (e :: es) X.env = (false, eval e X.env) :: starEach es X.env := by rfl) (hpl : (backTo pos (starEach es X.env)).any (·.1) = false := by rfl) :
    SE X C (.Call (.Name x p) (e :: es) [] pos) (tCB r t) (eCB o f) := ⟨pe_callTy hc hg hm hv l.pa hn hdb he hpl, lk_cb hr l.lk⟩
end
section
variable {K : KW}
/-- one argument, two -/
def un1 (o : D → Option Hd) : List D → Option Hd
  | [d] => o d
  | _ => none
def un2 (o : D → D → Option Hd) : List D → Option Hd
  | [d, e] => o d e
  | _ => none
theorem CalL.one {r : List V → Hp → VK → Prop} {o : D → Option Hd} (k : ∀ ρ σ B H x d h Q, Sim K ρ σ B H → Tp K B H x d → o d = some h →
    (∀ v B' H', Sim K ρ σ B' H' → Ext ρ σ B H ρ σ B' H' → HdOk K (New ρ σ H) ρ σ B' H' v h → Q v H') → r [x] H Q) : CalL K r (un1 o) := fun ρ σ B H xs ds h Q S y e q => by
  cases y with
  | nil => cases e
  | cons t u =>
    cases u with
    | nil => exact k ρ σ B H _ _ h Q S t e q
    | cons _ _ => cases e
theorem CalL.two {r : List V → Hp → VK → Prop} {o : D → D → Option Hd} (k : ∀ ρ σ B H x y d d' h Q, Sim K ρ σ B H → Tp K B H x d → Tp K B H y d' → o d d' = some h →
    (∀ v B' H', Sim K ρ σ B' H' → Ext ρ σ B H ρ σ B' H' → HdOk K (New ρ σ H) ρ σ B' H' v h → Q v H') → r [x, y] H Q) : CalL K r (un2 o) := fun ρ σ B H xs ds h Q S y e q => by
  cases y with
  | nil => cases e
  | cons t u =>
    cases u with
    | nil => cases e
    | cons u w =>
      cases w with
      | nil => exact k ρ σ B H _ _ _ _ h Q S t u e q
      | cons _ _ => cases e
def lenD : D → Option Hd
  | .list ds => some (.sh (.int ds.length))
  | .tuple ds => some (.sh (.int ds.length))
  | .str z => if z.length ≤ sizeLine then some (.sh (.int z.length)) else none
  | _ => none
def rLen (K : PySem.W.Frag) : List V → Hp → VK → Prop := fun xs H Q => ∃ x n, xs = [x] ∧ LenV K x H n ∧ Q (.int n) H
theorem cl_len : CalL K (rLen K) (un1 lenD) := CalL.one fun ρ σ B H x d h Q S t e k => by
  cases d with
  | list ds =>
    cases e
    obtain ⟨a, vs, rfl, ha, ra⟩ := t
    refine ⟨_, vs.length, rfl, .inl ⟨vs, ha, rfl⟩, ?_⟩
    rw [ra.length]
    exact now S (.int _) k
  | tuple ds =>
    cases e
    obtain ⟨a, vs, rfl, ha, ra⟩ := Tp.tup t
    refine ⟨_, vs.length, rfl, .inr ⟨vs, same_t S.bh ha, rfl⟩, ?_⟩
    rw [ra.length]
    exact now S (.int _) k
  | str z =>
    obtain ⟨c, rfl⟩ := if_some e
    rw [Tp.str t]
    exact ⟨_, z.length, rfl, ⟨c, rfl⟩, now S (.int _) k⟩
  | _ => cases e
def listD : D → Option Hd
  | .list ds => some (.fr (.list ds))
  | .tuple ds => some (.fr (.list ds))
  | _ => none
def rListA (K : PySem.W.Frag) : List V → Hp → VK → Prop := fun xs H Q => ∃ p ys, xs = [.ref p] ∧ (SqL K H p ys ∨ SqT K H p ys) ∧ ∀ l, H l = none → Q (.ref l) (upd H l (.lst ys))
theorem cl_list : CalL K (rListA K) (un1 listD) := CalL.one fun ρ σ B H x d h Q S t e k => by
  cases d with
  | list ds =>
    cases e
    obtain ⟨a, vs, rfl, ha, ra⟩ := t
    exact ⟨a, vs, rfl, .inl ha, newL S ra k⟩
  | tuple ds =>
    cases e
    obtain ⟨a, vs, rfl, ha, ra⟩ := Tp.tup t
    exact ⟨a, vs, rfl, .inr (same_t S.bh ha), newL S ra k⟩
  | _ => cases e
def tupleD : D → Option Hd
  | .list ds => some (.sh (.tuple ds))
  | .tuple ds => some (.sh (.tuple ds))
  | _ => none
abbrev rTupleA := rTupX
theorem cl_tuple : CalL K (rTupleA K) (un1 tupleD) := CalL.one fun ρ σ B H x d h Q S t e k => by
  cases d with
  | list ds =>
    cases e
    obtain ⟨a, vs, rfl, ha, ra⟩ := t
    exact ⟨a, vs, rfl, .inl ⟨ha, newT S ra k⟩⟩
  | tuple ds =>
    cases e
    obtain ⟨a, vs, rfl, ha, ra⟩ := Tp.tupX t
    exact ⟨a, vs, rfl, .inr ⟨(same_x S.bh ha).sq, now S (.tup ha ra) k⟩⟩
  | _ => cases e
def minD : D → D → Option Hd
  | .int i, .int j => some (.sh (.int (if j < i then j else i)))
  | _, _ => none
theorem cl_min2 : CalL K (fun xs H Q => ∃ i j, xs = [.int i, .int j] ∧ Q (.int (if j < i then j else i)) H) (un2 minD) := CalL.two fun ρ σ B H x y d d' h Q S t u e k => by
  cases d <;> cases d' <;> first | (cases (show none = some h from e); done) | skip
  cases e
  rw [Tp.int t, Tp.int u]
  exact ⟨_, _, rfl, now S (.int _) k⟩
def strD : D → Option Hd
  | .int i => if i.natAbs.log2 < 1920 then some (.sh (.str (toString i))) else none
  | _ => none
theorem cl_str : CalL K (fun xs H Q => ∃ i : Int, xs = [.int i] ∧ i.natAbs.log2 < 1920 ∧ Q (.str (toString i)) H) (un1 strD) := CalL.one fun ρ σ B H x d h Q S t e k => by
  cases d with
  | int i =>
    obtain ⟨c, rfl⟩ := if_some e
    rw [Tp.int t]
    exact ⟨i, rfl, c, now S (.str _) k⟩
  | _ => cases e
/-- isinstance of a built-in type -/
def tyOf : D → String
  | .none => "NoneType"
  | .bool _ => "bool"
  | .int _ => "int"
  | .str _ => "str"
  | .list _ => "list"
  | .tuple _ => "tuple"
  | .dict ps => if xnB ps then "Exception" else "dict"
def isXn : D → Bool | .dict ps => xnB ps | _ => false
theorem tyX {B H : Hp} (s : Same B H) {v : V} {d : D} (h : Tp K B H v d) (hx : isXn d = false) : TyX K H v (.type (tyOf d)) ∨ ∃ a w ep xs, v = .ref a ∧ H a = some (dX w a ep xs) ∧ tyOf d = "dict" := by
  cases d with
  | none => rw [h.non]; exact .inl (.base .non)
  | bool b => rw [h.bl]; exact .inl (.base (.bl b))
  | int i => rw [h.int]; exact .inl (.base (.int i))
  | str z => rw [h.str]; exact .inl (.base (.str z))
  | list ds =>
    obtain ⟨a, vs, rfl, ha, _⟩ := h
    rcases ha with (ha | ⟨o, ha⟩) | ⟨o, its, n, e, c, _⟩
    · exact .inl (.base (.lst ha))
    · exact .inl (.base (.frz ha))
    · exact .inl (.kList e c)
  | tuple ds =>
    obtain ⟨a, vs, rfl, ha, _⟩ := h.tup
    rcases same_t s ha with (ha | ⟨o, ha⟩) | ⟨o, its, n, e, c, _⟩
    · exact .inl (.base (.tup ha))
    · exact .inl (.fTuple ha)
    · exact .inl (.kTuple e c)
  | dict ps =>
    have hx : xnB ps = false := hx
    have et : tyOf (.dict ps) = "dict" := by show (if xnB ps then "Exception" else "dict") = _; rw [hx]; rfl
    rcases h with ⟨a, ep, b, xs, rfl, ha, _⟩ | ⟨z, _⟩
    · exact .inr ⟨a, K.w, ep, xs, rfl, ha, et⟩
    · rw [hx] at z; cases z
end
theorem xcB_ok {K : PySem.W.Frag} {cls : Value} (h : xcB K cls = true) : ∃ D, cls = .ref D ∧ (PySem.W.clsIn K D).isSome = true ∧ PySem.W.findIn K (.ref D) "__getattribute__" = some (some (.builtin "BaseException.__getattribute__")) ∧ PySem.W.findIn K (.ref D) "__getattr__" = some none ∧
    PySem.W.subIn K (.ref D) (.type "BaseException") = some true ∧ PySem.W.hasDictIn K D = true ∧ PySem.W.findIn K (.ref D) "__class__" = some (some (.builtin "object.__class__")) ∧ PySem.W.specialIn K (.builtin "object.__class__") "__get__" = some (some (.builtin "getset_descriptor.__get__")) ∧
    PySem.W.takesIn K (.builtin "object.__class__") = some true ∧ PySem.W.mroIn K D (.type "object") = some true ∧ ∀ T ∈ ["tuple", "str", "bool", "int", "list", "dict"], PySem.W.kitOne K (.ref D) (.type T) = some false := by
  unfold xcB at h
  split at h
  · rename_i D
    simp only [Bool.and_eq_true, decide_eq_true_eq] at h
    obtain ⟨h1, h2, h3, h4, h5, h6, h7, h8, h9, h10⟩ := h
    exact ⟨D, rfl, h1, h2, h3, h4, h5, h6, h7, h8, h9, fun T hT => of_decide_eq_true (List.all_eq_true.mp h10 T hT)⟩
  · cases h
theorem exV_at {P : Program} {w : World} {H : Hp} {h : Heap} {a : Addr} {cls : Value} {d : Option Addr} (hok : HOk P w H h) (e : H a = some (exV a cls d)) : ∃ (oe : Obj) (vs : Array Value), h.get? a = some oe ∧ Zc cls d oe ∧ oe.data = .fields vs := by
  have x : ObjOk P w H h a (.ext fun h => ∃ (oe : Obj) (vs : Array Value), h.get? a = some oe ∧ Zc cls d oe ∧ oe.data = .fields vs) := hok a _ e
  exact x.1
theorem exV_inst {X : Cx} {pins : List (Addr × Obj)} {σ : St} {H : Hp} {s : Shared} {a D : Addr} {d : Option Addr} {fs : List (Str × V)} (I : Inv X pins σ H s) (e : H a = some (exV a (.ref D) d)) (x : XdB H d fs) :
    ∃ (oe : Obj) (od : Option Obj), PySem.W.InstAt s.heap a oe D od := by
  obtain ⟨oe, vs, ha, hz, hd⟩ := exV_at I.hok e
  rcases x with ⟨rfl, _⟩ | ⟨dd, rfl, ed⟩
  · exact ⟨oe, none, ha, hz.1, by unfold PySem.W.notCls; rw [hd] <;> rfl, by rw [hz.2]; trivial⟩
  · have hx : ObjOk X.prog X.w H s.heap dd (.xd fs) := I.hok dd _ ed
    obtain ⟨mA, hns, hr⟩ := hx
    obtain ⟨od, ho, hl⟩ := lookIn_ns hns
    exact ⟨oe, some od, ha, hz.1, by unfold PySem.W.notCls; rw [hd] <;> rfl, by rw [hz.2]; exact ho⟩
def rIsX (K : PySem.W.Frag) : List V → Hp → VK → Prop := fun xs H Q => ∃ (a : Addr) (c : V) (D : Addr) (d : Option Addr) (fs : List (Str × V)) (u : Value) (b : Bool), xs = [.ref a, c] ∧ ClsV c u ∧ H a = some (exV a (.ref D) d) ∧ XdB H d fs ∧ xcB K (.ref D) = true ∧ PySem.W.kitOne K (.ref D) u = some b ∧ Q (.bl b) H
theorem call_isX {X : Cx} : CallR X (.builtin "isinstance") (rIsX X.K) := by
  intro pins s σ H xs us Q I r h
  obtain ⟨a, c, D, d, fs, u, b, rfl, k, ea, xd, xb, e, q⟩ := h
  obtain ⟨u1, u2, rfl, r1, r2⟩ := vals2 r
  have e2 := k.eq r2
  subst e2
  obtain rfl : u1 = Value.ref a := r1
  obtain ⟨oe, od, J⟩ := exV_inst I ea xd
  obtain ⟨D', eD, h1, h2, h3, h4, h5, h6, h7, h8, h9, _⟩ := xcB_ok xb
  cases eD
  exact PySem.W.kia_one (PySem.W.kitx_exc h1 h2 h3 h4 h6 h7 h8 h9) I.kIn J e (fun z => nomatch z) fun tk => ⟨.bl b, H, I.tok tk, rfl, q⟩
/-- of a dict whose keys are tuples -/
def rIsD (K : PySem.W.Frag) : List V → Hp → VK → Prop := fun xs H Q => ∃ (a : Addr) (c : V) (w : World) (ep : Nat) (es : List (NestedKey × Value × Value)) (u : Value) (b : Bool), xs = [.ref a, c] ∧ ClsV c u ∧ H a = some (dX w a ep es) ∧ PySem.W.kitOne K (.type "dict") u = some b ∧ Q (.bl b) H
theorem call_isD {X : Cx} : CallR X (.builtin "isinstance") (rIsD X.K) := by
  rintro pins s σ H xs us Q I r ⟨a, c, w, ep, es, u, b, rfl, k, ea, e, q⟩
  obtain ⟨u1, u2, rfl, r1, r2⟩ := vals2 r
  obtain rfl := k.eq r2
  obtain rfl : u1 = Value.ref a := r1
  obtain ⟨⟨o, _, h1, h2, _⟩, _⟩ := I.hok a _ ea
  exact PySem.W.kia_one PySem.W.kitx_dict I.kIn ⟨o, h1, h2.1⟩ e (fun z => nomatch z) fun tk => ⟨.bl b, H, I.tok tk, rfl, q⟩
def rIsiA (K : PySem.W.Frag) : List V → Hp → VK → Prop := fun xs H Q => rIsi K xs H Q ∨ (rIsX K xs H Q ∨ rIsD K xs H Q)
theorem call_isiA {X : Cx} : CallR X (.builtin "isinstance") (rIsiA X.K) := by
  intro pins s σ H xs us Q I r h
  rcases h with h | h | h
  · exact call_isi pins s σ H xs us Q I r h
  · exact call_isX pins s σ H xs us Q I r h
  · exact call_isD pins s σ H xs us Q I r h
/-- what is kept of an exception's datum -/
theorem Tp.xn {K : KW} {B H : Hp} {v : V} {d : D} (s : Same B H) (h : Tp K B H v d) (hx : isXn d = true) : ∃ (a : Addr) (c : Str) (dd : Option Addr) (fs : List (Str × V)) (ds : List D), v = .ref a ∧ d = xnD c (fs.map (·.1)) ds ∧ H a = some (exV a (cvK K c) dd) ∧ xcB K (cvK K c) = true ∧ XdB H dd fs ∧ RpL K B (fs.map (·.2)) ds := by
  cases d with
  | dict ps =>
    have hx : xnB ps = true := hx
    have no : ∀ {b xs}, RpX K B b xs ps → False := fun r => by
      cases r with
      | nil => cases hx
      | @cons _ _ _ _ _ _ _ kd _ _ h1 _ _ _ _ _ _ =>
        cases kd <;> first | (cases hx; done) | cases h1
    rcases h with ⟨_, _, _, _, _, _, r⟩ | ⟨_, h⟩
    · exact (no r).elim
    · cases h with
      | dct _ r => exact (no r).elim
      | exn h1 h2 h3 h4 => exact ⟨_, _, _, _, _, rfl, rfl, s _ _ h1, h2, h3.mono s, h4⟩
  | _ => cases hx
section
variable {X : Cx} {C : Ct} {e : Expr} {te : TE} {fe : EF} {pos : Pos}
def eIsi (p : D → Bool) (f : EF) : EF := fun ρ => bindE (eSet f ρ) fun h ρ1 => match getH ρ1 h with
  | some d => .ok (.sh (.bool (p d))) ρ1
  | none => .stuck
theorem lk_isi {T : String} {p : D → Bool} (hp : ∀ d, kitB (tyOf d) T = some (p d)) (hT : T ∈ ["tuple", "str", "bool", "int", "list", "dict"]) (hTx : kitB "Exception" T = some false) (l : LkE C te fe) : LkE C (tCB (rIsiA C.K) (tCons te (tCons (tC (.ty T)) tNil))) (eIsi p fe) := fun ρ σ B H Q S g => by
  refine l.setBind S g fun hd ρ1 x B1 H1 S1 e1 y1 g1 => ?_
  split at g1
  · rename_i d ed
    cases hx : isXn d with
    | false =>
      rcases tyX S1.bh (S1.tp y1 ed) hx with ty | ⟨a, w, ep, es, rfl, ha, et⟩
      · refine .inl ⟨x, .ty T, _, _, _, rfl,   .ty T, ty, kit_ty (hp d), ?_⟩
        exact g1 _ B1 H1 S1 Ext.refl (.bl _)
      · refine .inr (.inr ⟨a, .ty T, w, ep, es, _, _, rfl, .ty T, ha, kit_ty (by have := hp d; rw [et] at this; exact this), ?_⟩)
        exact g1 _ B1 H1 S1 Ext.refl (.bl _)
    | true =>
      obtain ⟨a, c, dd, fs, ds, rfl, rfl, h1, h2, h3, h4⟩ := (S1.tp y1 ed).xn S1.bh hx
      obtain ⟨D, eD, _, _, _, _, _, _, _, _, _, hk⟩ := xcB_ok h2
      rw [eD] at h1 h2
      refine .inr (.inl ⟨a, .ty T, D, dd, fs, _, _, rfl, .ty T, h1, h3, h2, hk T hT, ?_⟩)
      have e : p (xnD c (fs.map (·.1)) ds) = false := by
        have z := hp (xnD c (fs.map (·.1)) ds)
        rw [show tyOf (xnD c (fs.map (·.1)) ds) = "Exception" from rfl, hTx] at z
        exact (Option.some.inj z).symm
      rw [e] at g1
      exact g1 _ B1 H1 S1 Ext.refl (.bl _)
  · exact g1.elim
theorem se_isi {x : Str} {T : String} {p : D → Bool} {q1 q2 : Pos} (hp : ∀ d, kitB (tyOf d) T = some (p d)) (hm : X.mg "isinstance" = none) (hmT : X.mg x = none) (l : SE X C e te fe) (hvT : bootBuiltins x = some (.type T) := by decide +kernel) (hT : T ∈ ["tuple", "str", "bool", "int", "list", "dict"] := by decide) (hTx : kitB "Exception" T = some false := by decide +kernel) (hk : X.K = C.K := by rfl) (hg : Gl X "isinstance" := by rfl) (hgT : Gl X x := by rfl)
    (hnT : x ≠ "__name__" := by decide) (hdT : (x == ("__debug__" : Str)) = false := by decide)
    (he : starEach (e :: [.Name x q2]) X.env = (false, eval e X.env) :: starEach [.Name x q2] X.env := by rfl) :
    SE X C (.Call (.Name "isinstance" q1) [e, .Name x q2] [] pos) (tCB (rIsiA C.K) (tCons te (tCons (tC (.ty T)) tNil))) (eIsi p fe) :=
  ⟨by rw [← hk]; exact pe_callB call_isiA hg hm (by decide +kernel) (pa_cons l.pe (pa_cons (pe_bltn hgT hmT hvT rfl hnT hdT) pa_nil) he) (by decide) (by decide) he, lk_isi hp hT hTx l.lk⟩
def isTup : D → Bool | .tuple _ => true | _ => false
def isStr : D → Bool | .str _ => true | _ => false
def isBool : D → Bool | .bool _ => true | _ => false
theorem kit_tup : ∀ d, kitB (tyOf d) "tuple" = some (isTup d)
  | .none => by show kitB "NoneType" "tuple" = some false; decide +kernel
  | .tuple _ => by show kitB "tuple" "tuple" = some true; decide +kernel
  | .bool _ => by show kitB "bool" "tuple" = some false; decide +kernel
  | .int _ => by show kitB "int" "tuple" = some false; decide +kernel
  | .str _ => by show kitB "str" "tuple" = some false; decide +kernel
  | .list _ => by show kitB "list" "tuple" = some false; decide +kernel
  | .dict ps => by
    show kitB (if xnB ps then "Exception" else "dict") "tuple" = some false
    cases xnB ps <;> decide +kernel
theorem kit_str : ∀ d, kitB (tyOf d) "str" = some (isStr d)
  | .none => by show kitB "NoneType" "str" = some false; decide +kernel
  | .tuple _ => by show kitB "tuple" "str" = some false; decide +kernel
  | .bool _ => by show kitB "bool" "str" = some false; decide +kernel
  | .int _ => by show kitB "int" "str" = some false; decide +kernel
  | .str _ => by show kitB "str" "str" = some true; decide +kernel
  | .list _ => by show kitB "list" "str" = some false; decide +kernel
  | .dict ps => by
    show kitB (if xnB ps then "Exception" else "dict") "str" = some false
    cases xnB ps <;> decide +kernel
theorem kit_bool : ∀ d, kitB (tyOf d) "bool" = some (isBool d)
  | .none => by show kitB "NoneType" "bool" = some false; decide +kernel
  | .tuple _ => by show kitB "tuple" "bool" = some false; decide +kernel
  | .bool _ => by show kitB "bool" "bool" = some true; decide +kernel
  | .int _ => by show kitB "int" "bool" = some false; decide +kernel
  | .str _ => by show kitB "str" "bool" = some false; decide +kernel
  | .list _ => by show kitB "list" "bool" = some false; decide +kernel
  | .dict ps => by
    show kitB (if xnB ps then "Exception" else "dict") "bool" = some false
    cases xnB ps <;> decide +kernel
end
end GS
namespace GS
open PySem L2
/-- what a def does: of its parameters' cells what comes back, and the lent cell behind -/
abbrev FF := Rho → RE
def spF (K : KW) (cv : Str → Value) (n : Nat) (F : FF) : Sp := fun vs H Q E => ∃ ρ B, ρ.length = n ∧ Sim K ρ (vs.map some) B H ∧
  GoodE ⟨K, cv, fun cls d _ H' => E cls d H'⟩ ρ (vs.map some) B H Q (F ρ)
def argC (ρ : Rho) (io : Bool) : Hd → Option Cel
  | .sh d => if io then none else some ⟨d, .sh⟩
  | .bw i => if io then (match slot ρ i with
    | some ⟨d, .ow⟩ => some ⟨d, .io⟩
    | some ⟨d, .io⟩ => some ⟨d, .io⟩
    | _ => none) else none
  | .fr _ => none
/-- the callee's cells; io: the place of the lent argument -/
def args (ρ : Rho) (io : Option Nat) : Nat → List Hd → Option Rho
  | _, [] => some []
  | k, h :: hs => match argC ρ (decide (io = some k)) h, args ρ io (k + 1) hs with
    | some c, some r => some (some c :: r)
    | _, _ => none
def putB (ρ : Rho) (io : Option Nat) (hs : List Hd) (outs : Rho) : Option Rho := match io with
  | none => some ρ
  | some j => match hs[j]? with
    | some (.bw i) => match slot ρ i, slot outs j with
      | some c, some c' => some (ρ.set i (some ⟨c'.d, c.fl⟩))
      | _, _ => none
    | _ => none
def eCall (n : Nat) (io : Option Nat) (F : FF) (fs : AF) : EF := fun ρ => bindA (fs ρ) fun hs ρ1 => match args ρ1 io 0 hs with
  | none => .stuck
  | some ρ0 => if ρ0.length ≠ n then .stuck else match F ρ0 with
    | .stuck => .stuck
    | .ok h outs => match h, putB ρ1 io hs outs with
      | .bw _, _ => .stuck
      | _, none => .stuck
      | _, some ρ2 => .ok h ρ2
    | .exc x outs => match putB ρ1 io hs outs with
      | none => .stuck
      | some ρ2 => .exc x ρ2
theorem argC_sh {ρ : Rho} {b : Bool} {d : D} {c : Cel} (h : argC ρ b (.sh d) = some c) : b = false ∧ c = ⟨d, .sh⟩ := by
  cases b
  · cases h; exact ⟨rfl, rfl⟩
  · cases h
theorem argC_bw {ρ : Rho} {b : Bool} {i : Nat} {c : Cel} (h : argC ρ b (.bw i) = some c) : b = true ∧ ∃ d fl, ρ[i]? = some (some ⟨d, fl⟩) ∧ fl ≠ .sh ∧ c = ⟨d, .io⟩ := by
  cases b
  · cases h
  · refine ⟨rfl, ?_⟩
    replace h : (match slot ρ i with | some ⟨d, .ow⟩ => some ⟨d, .io⟩ | some ⟨d, .io⟩ => some ⟨d, .io⟩ | _ => none) = some c := h
    split at h
    · rename_i d es
      cases h
      exact ⟨d, .ow, slot_some es, by simp, rfl⟩
    · rename_i d es
      cases h
      exact ⟨d, .io, slot_some es, by simp, rfl⟩
    · cases h
theorem args_at {ρ : Rho} {io : Option Nat} : ∀ {k : Nat} {hs : List Hd} {r : Rho}, args ρ io k hs = some r → r.length = hs.length ∧ ∀ (j : Nat) (c : Cel), r[j]? = some (some c) → ∃ h, hs[j]? = some h ∧ argC ρ (decide (io = some (k + j))) h = some c
  | _, [], _, e => by cases e; exact ⟨rfl, fun j c h => by simp at h⟩
  | k, h :: hs, r, e => by
    unfold args at e
    split at e
    · rename_i c r' e1 e2
      cases e
      obtain ⟨l, q⟩ := args_at e2
      refine ⟨by rw [List.length_cons, List.length_cons, l], fun j c' hj => ?_⟩
      cases j with
      | zero => simp at hj; subst hj; exact ⟨h, rfl, e1⟩
      | succ j =>
        obtain ⟨h', q1, q2⟩ := q j c' (by simpa using hj)
        exact ⟨h', by simpa using q1, by rw [show k + (j + 1) = k + 1 + j by omega]; exact q2⟩
    · cases e
theorem args_has {ρ : Rho} {io : Option Nat} : ∀ {k : Nat} {hs : List Hd} {r : Rho} {j : Nat} {h : Hd}, args ρ io k hs = some r → hs[j]? = some h → ∃ c, r[j]? = some (some c)
  | _, [], _, _, _, _, h => by simp at h
  | k, h :: hs, r, j, h', e, hj => by
    unfold args at e
    split at e
    · rename_i c r' e1 e2
      cases e
      cases j with
      | zero => exact ⟨c, rfl⟩
      | succ j =>
        obtain ⟨c', q⟩ := args_has (j := j) e2 (by simpa using hj)
        exact ⟨c', by simpa using q⟩
    · cases e
theorem HdL.get {K : KW} {σ : St} {B : Hp} : ∀ {vs : List V} {hs : List Hd} {j : Nat} {h : Hd}, HdL K σ B vs hs → hs[j]? = some h → ∃ v, vs[j]? = some v ∧ HsOk K σ B v h
  | _, _, _, _, .nil, e => by simp at e
  | _, _, 0, _, .cons h _, e => by simp at e; subst e; exact ⟨_, rfl, h⟩
  | _, _, j + 1, h, .cons _ t, e => by
    obtain ⟨v, q1, q2⟩ := HdL.get (j := j) (h := h) t (by simpa using e)
    exact ⟨v, by simpa using q1, q2⟩
section
variable {K : KW} {ρ ρ0 ρ0' ρ2 : Rho} {σ : St} {B H B' H' : Hp} {io : Option Nat} {hs : List Hd} {vs : List V}
/-- the callee's cell j that is lent is the caller's slot i -/
theorem args_own (e : args ρ io 0 hs = some ρ0) {j : Nat} {c : Cel} (hc : ρ0[j]? = some (some c)) (nf : c.fl ≠ .sh) : io = some j ∧ ∃ i d fl, hs[j]? = some (.bw i) ∧ ρ[i]? = some (some ⟨d, fl⟩) ∧ fl ≠ .sh ∧ c = ⟨d, .io⟩ := by
  obtain ⟨_, q⟩ := args_at e
  obtain ⟨h, h1, h2⟩ := q j c hc
  rw [Nat.zero_add] at h2
  cases h with
  | sh d =>
    obtain ⟨_, rfl⟩ := argC_sh h2
    exact absurd rfl nf
  | fr d => cases h2
  | bw i =>
    obtain ⟨b, d, fl, q1, q2, q3⟩ := argC_bw h2
    exact ⟨of_decide_eq_true b, i, d, fl, h1, q1, q2, q3⟩
theorem args_sim (S : Sim K ρ σ B H) (y : HdL K σ B vs hs) (e : args ρ io 0 hs = some ρ0) : Sim K ρ0 (vs.map some) B H := by
  obtain ⟨l, q⟩ := args_at e
  refine ⟨S.bh, by rw [l, List.length_map, y.length], fun j c hj => ?_, fun i j ci cj a hi hj ni nj _ _ => ?_⟩
  · obtain ⟨h, h1, h2⟩ := q j c hj
    obtain ⟨v, hv, ok⟩ := y.get h1
    refine ⟨v, by rw [List.getElem?_map, hv]; rfl, ?_⟩
    by_cases nf : c.fl = .sh
    · refine .inl ⟨nf, ?_⟩
      cases h with
      | sh d =>
        obtain ⟨_, rfl⟩ := argC_sh h2
        exact ok
      | fr d => cases h2
      | bw i =>
        obtain ⟨_, d, fl, _, _, rfl⟩ := argC_bw h2
        cases nf
    · obtain ⟨_, i, d, fl, h3, h4, h5, rfl⟩ := args_own e hj nf
      rw [h1] at h3
      cases h3
      obtain ⟨v', e1, cok⟩ := S.sl i _ h4
      have ok' : σ[i]? = some (some v) := ok
      rw [ok'] at e1
      cases e1
      rcases cok with ⟨z, _⟩ | ⟨_, z⟩
      · exact absurd z h5
      · exact .inr ⟨by simp, z⟩
  · obtain ⟨e1, _⟩ := args_own e hi ni
    obtain ⟨e2, _⟩ := args_own e hj nj
    rw [e1] at e2
    cases e2
    rfl
theorem args_ownA (y : HdL K σ B vs hs) (e : args ρ io 0 hs = some ρ0) {a : Addr} (h : OwnA ρ0 (vs.map some) a) : OwnA ρ σ a := by
  obtain ⟨j, c, h1, h2, h3⟩ := h
  obtain ⟨_, i, d, fl, q1, q2, q3, _⟩ := args_own e h1 h2
  obtain ⟨v, hv, ok⟩ := y.get q1
  rw [List.getElem?_map, hv] at h3
  cases h3
  exact ⟨i, _, q2, q3, ok⟩
/-- behind the call -/
theorem back_sim (S : Sim K ρ σ B H) (y : HdL K σ B vs hs) (e : args ρ io 0 hs = some ρ0) (S' : Sim K ρ0' (vs.map some) B' H') (x : Ext ρ0 (vs.map some) B H ρ0' (vs.map some) B' H') (p : putB ρ io hs ρ0' = some ρ2) :
    Sim K ρ2 σ B' H' ∧ Ext ρ σ B H ρ2 σ B' H' ∧ (∀ a, New ρ0 (vs.map some) H a → New ρ σ H a) ∧ ∀ a, ¬ OwnA ρ0' (vs.map some) a → New ρ0 (vs.map some) H a → ¬ OwnA ρ2 σ a := by
  -- a slot of the caller that is not lent
  have sub0 : ∀ a, OwnA ρ0 (vs.map some) a → OwnA ρ σ a := fun a h => args_ownA y e h
  have newN : ∀ a, New ρ0 (vs.map some) H a → New ρ σ H a := fun a h => h.elim .inl fun h => .inr (sub0 a h)
  -- what ρ2 is
  have key : (∀ (k : Nat) (c : Cel), ρ2[k]? = some (some c) → (ρ[k]? = some (some c) ∧ ∀ j, io = some j → hs[j]? ≠ some (.bw k)) ∨ ∃ j c0 c', io = some j ∧ hs[j]? = some (.bw k) ∧ ρ[k]? = some (some c0) ∧ ρ0'[j]? = some (some c') ∧ c = ⟨c'.d, c0.fl⟩) ∧
      ρ2.length = ρ.length ∧ (∀ (k : Nat) (c : Cel), ρ[k]? = some (some c) → ∃ c2, ρ2[k]? = some (some c2) ∧ c2.fl = c.fl) := by
    unfold putB at p
    split at p
    · cases p
      exact ⟨fun k c h => .inl ⟨h, fun j z => nomatch z⟩, rfl, fun k c h => ⟨c, h, rfl⟩⟩
    · rename_i j
      split at p
      · rename_i i hi
        split at p
        · rename_i c0 c' e1 e2
          cases p
          have e1 := slot_some e1
          have e2 := slot_some e2
          refine ⟨fun k c h => ?_, by rw [List.length_set], fun k c h => ?_⟩
          · rcases set_get h with ⟨rfl, ec⟩ | ⟨ne, h⟩
            · cases ec
              exact .inr ⟨j, c0, c', rfl, hi, e1, e2, rfl⟩
            · refine .inl ⟨h, fun j' z w => ?_⟩
              cases z
              rw [hi] at w
              cases w
              exact ne rfl
          · by_cases hk : i = k
            · subst hk
              rw [e1] at h
              cases h
              exact ⟨_, set_at (lt_of e1), rfl⟩
            · exact ⟨c, by rw [set_other hk]; exact h, rfl⟩
        · cases p
      · cases p
  obtain ⟨k1, k2, k3⟩ := key
  -- an owned slot that is not lent keeps its object
  have keep : ∀ (k : Nat) (c : Cel) (a : Addr), ρ[k]? = some (some c) → c.fl ≠ .sh → σ[k]? = some (some (.ref a)) → (∀ j, io = some j → hs[j]? ≠ some (.bw k)) → ¬ OwnA ρ0 (vs.map some) a := fun k c a hk hf hs' hn ho => by
    obtain ⟨j, c0, h1, h2, h3⟩ := ho
    obtain ⟨q0, i, d, fl, q1, q2, q3, _⟩ := args_own e h1 h2
    obtain ⟨v, hv, ok⟩ := y.get q1
    rw [List.getElem?_map, hv] at h3
    cases h3
    have := S.dj i k _ c a q2 hk q3 hf ok hs'
    subst this
    exact hn j q0 q1
  have ownBack : ∀ a, OwnA ρ2 σ a → OwnA ρ σ a := fun a ⟨k, c, h1, h2, h3⟩ => by
    rcases k1 k c h1 with ⟨h, _⟩ | ⟨j, c0, c', _, _, h, _, rfl⟩
    · exact ⟨k, c, h, h2, h3⟩
    · exact ⟨k, c0, h, h2, h3⟩
  refine ⟨⟨S'.bh, by rw [k2]; exact S.len, fun k c hk => ?_, fun i j ci cj a hi hj ni nj ei ej => ?_⟩, ⟨x.bb, fun a o h => (x.nw a o h).imp id (newN a), fun a o h n => x.kp a o h fun z => n (sub0 a z), fun a h => .inr (ownBack a h), fun k c hk hf => ?_, fun k c hk hf => ?_⟩, newN, fun a n1 n2 ho => ?_⟩
  · rcases k1 k c hk with ⟨h, hn⟩ | ⟨j, c0, c', hj, q1, h, q2, rfl⟩
    · obtain ⟨v, ev, ok⟩ := S.sl k c h
      refine ⟨v, ev, ok.mono x.bb fun a hv hb ho hf => ?_⟩
      subst hv
      obtain ⟨o, eo⟩ := ho
      obtain ⟨r1, r2, _⟩ := x.keepN eo hb (keep k c a h hf ev hn)
      exact ⟨r2, by rw [r1, eo]⟩
    · obtain ⟨v, ev, ok⟩ := y.get q1
      have ok' : σ[k]? = some (some v) := ok
      refine ⟨v, ok', ?_⟩
      -- the lent cell is lent at the start, so it is behind
      obtain ⟨cs, hcs⟩ := args_has e q1
      by_cases hsh : cs.fl = .sh
      · exfalso
        obtain ⟨_, qq⟩ := args_at e
        obtain ⟨h', w1, w2⟩ := qq j cs hcs
        rw [q1] at w1
        cases w1
        obtain ⟨_, d, fl, _, _, rfl⟩ := argC_bw w2
        cases hsh
      · obtain ⟨_, i, d, fl, r1, r2, r3, rfl⟩ := args_own e hcs hsh
        rw [q1] at r1
        cases r1
        rw [h] at r2
        cases r2
        obtain ⟨_, c2, w1, w2⟩ := x.io j _ hcs rfl
        rw [q2] at w1
        cases w1
        obtain ⟨v', e1, cok⟩ := S'.sl j c' q2
        rw [List.getElem?_map, ev] at e1
        cases e1
        rcases cok with ⟨z, _⟩ | ⟨_, z⟩
        · rw [w2] at z; cases z
        · exact .inr ⟨r3, z⟩
  · have f1 : ∃ c1, ρ[i]? = some (some c1) ∧ c1.fl ≠ .sh := by
      rcases k1 i ci hi with ⟨h, _⟩ | ⟨_, c0, _, _, _, h, _, rfl⟩
      · exact ⟨ci, h, ni⟩
      · exact ⟨c0, h, ni⟩
    have f2 : ∃ c1, ρ[j]? = some (some c1) ∧ c1.fl ≠ .sh := by
      rcases k1 j cj hj with ⟨h, _⟩ | ⟨_, c0, _, _, _, h, _, rfl⟩
      · exact ⟨cj, h, nj⟩
      · exact ⟨c0, h, nj⟩
    obtain ⟨c1, a1, a2⟩ := f1
    obtain ⟨c2, b1, b2⟩ := f2
    exact S.dj i j c1 c2 a a1 b1 a2 b2 ei ej
  · obtain ⟨c2, h1, h2⟩ := k3 k c hk
    exact ⟨rfl, c2, h1, by rw [h2, hf]⟩
  · rcases k1 k c hk with ⟨h, _⟩ | ⟨_, c0, _, _, _, h, _, rfl⟩
    · exact ⟨c, h, hf⟩
    · exact ⟨c0, h, hf⟩
  · obtain ⟨k, c, h1, h2, h3⟩ := ho
    rcases k1 k c h1 with ⟨h, hn⟩ | ⟨j, c0, c', hj, q1, h, q2, rfl⟩
    · have n0 := keep k c a h h2 h3 hn
      have := S.ownH ⟨k, c, h, h2, h3⟩
      obtain ⟨_, o, eo⟩ := this
      rcases n2 with z | z
      · rw [eo] at z; cases z
      · exact n0 z
    · obtain ⟨v, ev, ok⟩ := y.get q1
      have ok' : σ[k]? = some (some v) := ok
      rw [h3] at ok'
      cases ok'
      obtain ⟨cs, hcs⟩ := args_has e q1
      by_cases hsh : cs.fl = .sh
      · obtain ⟨_, qq⟩ := args_at e
        obtain ⟨h', w1, w2⟩ := qq j cs hcs
        rw [q1] at w1
        cases w1
        obtain ⟨_, d, fl, _, _, rfl⟩ := argC_bw w2
        cases hsh
      · obtain ⟨_, i, d, fl, r1, r2, r3, rfl⟩ := args_own e hcs hsh
        obtain ⟨_, c2, w1, w2⟩ := x.io j _ hcs rfl
        rw [q2] at w1
        cases w1
        exact n1 ⟨j, c', q2, by rw [w2]; simp, by rw [List.getElem?_map, ev]; rfl⟩
end
section
variable {X : Cx} {C : Ct} {e : Expr} {es : List Expr} {pos p : Pos} {x : Str} {k n : Nat} {f : Addr} {fd : FuncData} {ps : List Str} {io : Option Nat} {F : FF} {t : TA} {g : AF}
theorem lk_call (l : LkA C t g) : LkE C (tCallS (spF C.K C.cv n F) (WE C.W) t) (eCall n io F g) := fun ρ σ B H Q S gd => by
  refine l.bind S gd fun hs ρ1 vs B1 H1 S1 x1 y1 g1 => ?_
  split at g1
  · exact g1.elim
  · rename_i ρ0 ea
    split at g1
    · exact g1.elim
    · rename_i hl
      have hl : ρ0.length = n := Classical.not_not.mp hl
      refine ⟨ρ0, B1, hl, args_sim S1 y1 ea, ?_⟩
      cases ef : F ρ0 with
      | stuck => rw [ef] at g1; exact g1
      | exc c outs =>
        rw [ef] at g1
        dsimp only at g1
        split at g1
        · exact g1.elim
        · rename_i ρ2 ep
          intro cls dct B2 H2 S2 x2 ok
          obtain ⟨S3, x3, _, _⟩ := back_sim S1 y1 ea S2 x2 ep
          exact g1 cls dct B2 H2 S3 x3 ok
      | ok h outs =>
        rw [ef] at g1
        dsimp only at g1
        intro v B2 H2 S2 x2 y2
        cases ep : putB ρ1 io hs outs with
        | none => rw [ep] at g1; cases h <;> exact g1.elim
        | some ρ2 =>
          rw [ep] at g1
          obtain ⟨S3, x3, n1, n2⟩ := back_sim S1 y1 ea S2 x2 ep
          cases h with
          | sh d => exact g1 v B2 H2 S3 x3 y2
          | fr d =>
            obtain ⟨a, r1, r2, r3, r4, r5⟩ := y2
            exact g1 v B2 H2 S3 x3 ⟨a, r1, r2, r3, n2 a r4 r5, n1 a r5⟩
          | bw i => exact g1.elim
theorem se_call (FO : FnOk X.prog X.w X.K X.mg X.base (L2.CX X.prog X.w) k f fd ps (spF C.K C.cv n F)) (hr : Room k X.A) (hm : X.mg x = some (.ref f)) (hkp : PySem.W.keepIn X.K (.ref f) = true) (hb : Binds X.K fd ps []) (tk : Takes X C.W)
    (l : SA X C (e :: es) t g) (io : Option Nat) (hg : Gl X x := by rfl) (hdb : (x == ("__debug__" : Str)) = false := by decide) (he : starEach (e :: es) X.env = (false, eval e X.env) :: starEach es X.env := by rfl)
    (hpl : (backTo pos (starEach es X.env)).any (·.1) = false := by rfl) : SE X C (.Call (.Name x p) (e :: es) [] pos) (tCallS (spF C.K C.cv n F) (WE C.W) t) (eCall n io F g) :=
  ⟨pe_callS FO hr hg hm hkp hb (fun σ => passAt tk σ) l.pa hdb he hpl, lk_call l.lk⟩
end
end GS
namespace GS
open PySem L2
def GoodS (C : Ct) (ρ : Rho) (σ : St) (B H : Hp) (D : Ends) : RS → Prop
  | .stuck => False
  | .nx ρ' => ∀ σ' B' H', Sim C.K ρ' σ' B' H' → Ext ρ σ B H ρ' σ' B' H' → D.nx σ' H'
  | .bk ρ' => ∀ σ' B' H', Sim C.K ρ' σ' B' H' → Ext ρ σ B H ρ' σ' B' H' → D.bk σ' H'
  | .ct ρ' => ∀ σ' B' H', Sim C.K ρ' σ' B' H' → Ext ρ σ B H ρ' σ' B' H' → D.ct σ' H'
  | .rt h ρ' => ∀ v σ' B' H', Sim C.K ρ' σ' B' H' → Ext ρ σ B H ρ' σ' B' H' → HdOk C.K (New ρ σ H) ρ' σ' B' H' v h → D.rt v H'
  | .exc x ρ' => ∀ cls dct σ' B' H', Sim C.K ρ' σ' B' H' → Ext ρ σ B H ρ' σ' B' H' → XcOk C B' x cls dct → C.W cls dct σ' H'
def LkS (C : Ct) (t : TS) (g : SF) : Prop := ∀ ρ σ B H D, Sim C.K ρ σ B H → GoodS C ρ σ B H D (g ρ) → t D σ H
structure SS (X : Cx) (C : Ct) (st : Stmt) (t : TS) (g : SF) : Prop where
  ps : PS X st t
  lk : LkS C t g
structure SSs (X : Cx) (C : Ct) (st : List Stmt) (t : TS) (g : SF) : Prop where
  ps : PSs X st t
  lk : LkS C t g
section
variable {X : Cx} {C : Ct} {ρ ρ1 : Rho} {σ σ1 : St} {B H B1 H1 : Hp} {Ed : Ends} {t u : TS} {f g : SF} {st : Stmt} {rest : List Stmt} {pos : Pos}
theorem GoodS.ext (e : Ext ρ σ B H ρ1 σ1 B1 H1) : ∀ {r : RS}, GoodS C ρ σ B H Ed r → GoodS C ρ1 σ1 B1 H1 Ed r
  | .stuck, h => h
  | .nx _, h => fun σ' B' H' s x => h σ' B' H' s (e.trans x)
  | .bk _, h => fun σ' B' H' s x => h σ' B' H' s (e.trans x)
  | .ct _, h => fun σ' B' H' s x => h σ' B' H' s (e.trans x)
  | .rt _ _, h => fun v σ' B' H' s x y => h v σ' B' H' s (e.trans x) (y.mono fun _ z => e.back z)
  | .exc _ _, h => fun c d σ' B' H' s x => h c d σ' B' H' s (e.trans x)
def sNil : SF := fun ρ => .nx ρ
def bindS (r : RS) (k : Rho → RS) : RS := match r with
  | .nx ρ => k ρ
  | r => r
def sSeq (f g : SF) : SF := fun ρ => bindS (f ρ) g
theorem lk_seq (lf : LkS C t f) (lg : LkS C u g) : LkS C (tSeq t u) (sSeq f g) := fun ρ σ B H D S gd => by
  refine lf ρ σ B H _ S ?_
  unfold sSeq bindS at gd
  cases e : f ρ with
  | nx ρ1 =>
    rw [e] at gd
    exact fun σ' B' H' s x => lg ρ1 σ' B' H' D s (GoodS.ext x gd)
  | stuck => rw [e] at gd; exact gd
  | bk _ => rw [e] at gd; exact gd
  | ct _ => rw [e] at gd; exact gd
  | rt _ _ => rw [e] at gd; exact gd
  | exc _ _ => rw [e] at gd; exact gd
theorem sss_nil : SSs X C [] tNext sNil := ⟨pss_nil, fun ρ σ B H D S g => g σ B H S Ext.refl⟩
theorem sss_cons (a : SS X C st t f) (b : SSs X C rest u g) : SSs X C (st :: rest) (tSeq t u) (sSeq f g) := ⟨pss_cons a.ps b.ps, lk_seq a.lk b.lk⟩
theorem sss_one (a : SS X C st t f) : SSs X C [st] t f := ⟨pss_one a.ps, a.lk⟩
def bindES (r : RE) (k : Hd → Rho → RS) : RS := match r with
  | .stuck => .stuck
  | .ok h ρ => k h ρ
  | .exc x ρ => .exc x ρ
theorem LkE.bindS {te : TE} {fe : EF} (l : LkE C te fe) (S : Sim C.K ρ σ B H) {k : Hd → Rho → RS} {Q' : VK} (g : GoodS C ρ σ B H Ed (bindES (fe ρ) k))
    (h : ∀ hd ρ1 v B1 H1, Sim C.K ρ1 σ B1 H1 → Ext ρ σ B H ρ1 σ B1 H1 → HdOk C.K (New ρ σ H) ρ1 σ B1 H1 v hd → GoodS C ρ σ B H Ed (k hd ρ1) → Q' v H1) : te σ H Q' := by
  refine l ρ σ B H Q' S ?_
  cases e : fe ρ with
  | stuck => rw [e] at g; exact g
  | ok hd ρ1 => rw [e] at g; exact fun v B1 H1 s x y => h hd ρ1 v B1 H1 s x y g
  | exc x ρ1 => rw [e] at g; exact fun c d B' H' s x => g c d σ B' H' s x
variable {e : Expr} {te : TE} {fe : EF}
def sRet (fe : EF) : SF := fun ρ => bindES (fe ρ) fun h ρ1 => match h with
  | .bw i => match capH ρ1 (.bw i) with
    | some d => .rt (.sh d) ρ1
    | none => .stuck
  | h => .rt h ρ1
theorem cap_bw (S : Sim C.K ρ σ B H) {i : Nat} {d : D} {v : V} (y : σ[i]? = some (some v)) (e : capH ρ (.bw i) = some d) : Rp C.K B v d := by
  replace e : (match slot ρ i with | some ⟨d, .sh⟩ => some d | _ => none) = some d := e
  split at e
  · rename_i d' e'
    cases e
    obtain ⟨v', q1, q2⟩ := S.sl i _ (slot_some e')
    rw [y] at q1
    cases q1
    rcases q2 with ⟨_, q2⟩ | ⟨q, _⟩
    · exact q2
    · exact absurd rfl q
  · cases e
theorem ss_ret (l : SE X C e te fe) : SS X C (.Return (some e) pos) (tRet te) (sRet fe) := ⟨ps_ret l.pe, fun ρ σ B H D S g => by
  refine l.lk.bindS S g fun hd ρ1 v B1 H1 S1 x1 y1 g1 => ?_
  cases hd with
  | sh d => exact g1 v σ B1 H1 S1 x1 y1
  | fr d => exact g1 v σ B1 H1 S1 x1 y1
  | bw i =>
    dsimp only at g1
    split at g1
    · rename_i d ed
      exact g1 v σ B1 H1 S1 x1 (cap_bw S1 y1 ed)
    · exact g1.elim⟩
def bindBS (r : RE) (k : Bool → Rho → RS) : RS := match r with
  | .ok (.sh (.bool b)) ρ => k b ρ
  | .exc x ρ => .exc x ρ
  | _ => .stuck
theorem LkT.bindS {tt : TT} {ft : EF} (l : LkT C tt ft) (S : Sim C.K ρ σ B H) {k : Bool → Rho → RS} {Q' : Bool → Hp → Prop} (g : GoodS C ρ σ B H Ed (bindBS (ft ρ) k))
    (h : ∀ b ρ1 B1 H1, Sim C.K ρ1 σ B1 H1 → Ext ρ σ B H ρ1 σ B1 H1 → GoodS C ρ1 σ B1 H1 Ed (k b ρ1) → Q' b H1) : tt σ H Q' := by
  refine l ρ σ B H Q' S ?_
  cases e : ft ρ with
  | stuck => rw [e] at g; exact g
  | exc x ρ1 => rw [e] at g; exact fun c d B' H' s x => g c d σ B' H' s x
  | ok hd ρ1 =>
    rw [e] at g
    cases hd with
    | sh d =>
      cases d with
      | bool b => exact fun B1 H1 s x => h b ρ1 B1 H1 s x (GoodS.ext x g)
      | _ => exact g
    | _ => exact g
def sIf (ft : EF) (f g : SF) : SF := fun ρ => bindBS (ft ρ) fun b ρ1 => if b then f ρ1 else g ρ1
theorem ss_if {c : Expr} {a b : List Stmt} {tt : TT} {ft : EF} (l : ST X C c tt ft) (la : SSs X C a t f) (lb : SSs X C b u g) : SS X C (.If c a b pos) (tIfS tt t u) (sIf ft f g) := ⟨ps_if l.pt la.ps lb.ps, fun ρ σ B H D S gd =>
  l.lk.bindS S gd fun b ρ1 B1 H1 S1 x1 g1 => by
    cases b with
    | true => exact la.lk ρ1 σ B1 H1 D S1 g1
    | false => exact lb.lk ρ1 σ B1 H1 D S1 g1⟩
def ioAt (ρ : Rho) (i : Nat) : Bool := match slot ρ i with
  | some ⟨_, .io⟩ => true
  | _ => false
theorem not_io {i : Nat} (h : ioAt ρ i = false) {c : Cel} (e : ρ[i]? = some (some c)) : c.fl ≠ .io := fun z => by
  unfold ioAt slot at h
  rw [e] at h
  obtain ⟨d, fl⟩ := c
  cases z
  cases h
/-- what may be put into slot i of the state behind -/
theorem store_ok {K : KW} (S : Sim K ρ1 σ B1 H1) (x : Ext ρ σ B H ρ1 σ B1 H1) {i : Nat} {c : Cel} {v : V} (hi : i < ρ1.length) (hn : ioAt ρ1 i = false) (hf : c.fl ≠ .io) (ok : COk K B1 H1 c v)
    (hnew : c.fl ≠ .sh → ∀ a, v = .ref a → New ρ σ H a ∧ ∀ j cj, i ≠ j → ρ1[j]? = some (some cj) → cj.fl ≠ .sh → σ[j]? ≠ some (some (.ref a))) :
    Sim K (ρ1.set i (some c)) (σ.set i (some v)) B1 H1 ∧ Ext ρ σ B H (ρ1.set i (some c)) (σ.set i (some v)) B1 H1 := by
  have hl := S.len
  have ats : (σ.set i (some v))[i]? = some (some v) := by rw [List.getElem?_set, if_pos rfl, if_pos (by omega)]
  have oth : ∀ j, i ≠ j → (σ.set i (some v))[j]? = σ[j]? := fun j h => by rw [List.getElem?_set, if_neg h]
  refine ⟨⟨S.bh, by rw [List.length_set, List.length_set]; exact hl, fun j cj hj => ?_, fun j k cj ck a hj hk nj nk ej ek => ?_⟩, ⟨x.bb, x.nw, x.kp, fun a ha => ?_, fun j cj hj hjf => ?_, fun j cj hj hjf => ?_⟩⟩
  · rcases set_get hj with ⟨rfl, ec⟩ | ⟨ne, hj⟩
    · cases ec; exact ⟨v, ats, ok⟩
    · rw [oth j ne]; exact S.sl j cj hj
  · rcases set_get hj with ⟨rfl, ec⟩ | ⟨ne, hj⟩
    · rcases set_get hk with ⟨rfl, _⟩ | ⟨ne', hk⟩
      · rfl
      · cases ec
        rw [ats] at ej
        cases ej
        rw [oth k ne'] at ek
        exact absurd ek ((hnew nj a rfl).2 k ck ne' hk nk)
    · rcases set_get hk with ⟨rfl, ec⟩ | ⟨ne', hk⟩
      · cases ec
        rw [ats] at ek
        cases ek
        rw [oth j ne] at ej
        exact absurd ej ((hnew nk a rfl).2 j cj ne hj nj)
      · rw [oth j ne] at ej
        rw [oth k ne'] at ek
        exact S.dj j k cj ck a hj hk nj nk ej ek
  · obtain ⟨j, cj, hj, nj, ej⟩ := ha
    rcases set_get hj with ⟨rfl, ec⟩ | ⟨ne, hj⟩
    · cases ec
      rw [ats] at ej
      cases ej
      exact (hnew nj a rfl).1
    · rw [oth j ne] at ej
      exact x.sub a ⟨j, cj, hj, nj, ej⟩
  · obtain ⟨e1, c1, q1, q2⟩ := x.io j cj hj hjf
    have ne : i ≠ j := fun z => by subst z; exact not_io hn q1 q2
    exact ⟨(oth j ne).trans e1, c1, (set_other ne).trans q1, q2⟩
  · rcases set_get hj with ⟨rfl, ec⟩ | ⟨ne, hj⟩
    · cases ec; exact absurd hjf hf
    · exact x.oi j cj hj hjf
def setR (ρ : Rho) (i : Nat) (c : Cel) : RS := if i < ρ.length && !ioAt ρ i then .nx (ρ.set i (some c)) else .stuck
def setHd (ρ1 : Rho) (i : Nat) : Hd → RS
  | .sh d => setR ρ1 i ⟨d, .sh⟩
  | .fr d => setR ρ1 i ⟨d, .ow⟩
  | .bw j => match capH ρ1 (.bw j) with
    | some d => setR ρ1 i ⟨d, .sh⟩
    | none => .stuck
def sSet (i : Nat) (fe : EF) : SF := fun ρ => bindES (fe ρ) fun h ρ1 => setHd ρ1 i h
theorem setR_ok {i : Nat} {c : Cel} (g : GoodS C ρ σ B H Ed (setR ρ1 i c)) : i < ρ1.length ∧ ioAt ρ1 i = false ∧ ∀ σ' B' H', Sim C.K (ρ1.set i (some c)) σ' B' H' → Ext ρ σ B H (ρ1.set i (some c)) σ' B' H' → Ed.nx σ' H' := by
  unfold setR at g
  split at g
  · rename_i h
    simp only [Bool.and_eq_true, decide_eq_true_eq, Bool.not_eq_true'] at h
    exact ⟨h.1, h.2, g⟩
  · exact g.elim
/-- storing what an expression gave -/
theorem put_hd (S1 : Sim C.K ρ1 σ B1 H1) (x1 : Ext ρ σ B H ρ1 σ B1 H1) {hd : Hd} {v : V} (y1 : HdOk C.K (New ρ σ H) ρ1 σ B1 H1 v hd) {i : Nat} (g : GoodS C ρ σ B H Ed (setHd ρ1 i hd)) : Ed.nx (σ.set i (some v)) H1 := by
  cases hd with
  | sh d =>
    obtain ⟨h1, h2, h3⟩ := setR_ok g
    obtain ⟨S2, x2⟩ := store_ok S1 x1 (c := ⟨d, .sh⟩) h1 h2 (by simp) (.inl ⟨rfl, y1⟩) fun z => absurd rfl z
    exact h3 _ _ _ S2 x2
  | fr d =>
    obtain ⟨h1, h2, h3⟩ := setR_ok g
    obtain ⟨a, rfl, q1, q2, q3, q4⟩ := y1
    obtain ⟨S2, x2⟩ := store_ok S1 x1 (c := ⟨d, .ow⟩) h1 h2 (by simp) (.inr ⟨by simp, a, rfl, q1, q2⟩) fun _ b e => by
      cases e
      exact ⟨q4, fun j cj _ hj nj ej => q3 ⟨j, cj, hj, nj, ej⟩⟩
    exact h3 _ _ _ S2 x2
  | bw j =>
    unfold setHd at g
    dsimp only at g
    split at g
    · rename_i d ed
      obtain ⟨h1, h2, h3⟩ := setR_ok g
      obtain ⟨S2, x2⟩ := store_ok S1 x1 (c := ⟨d, .sh⟩) h1 h2 (by simp) (.inl ⟨rfl, cap_bw S1 y1 ed⟩) fun z => absurd rfl z
      exact h3 _ _ _ S2 x2
    · exact g.elim
theorem lk_set {i : Nat} (l : LkE C te fe) : LkS C (tAsg te (gName i)) (sSet i fe) := fun ρ σ B H D S g =>
  l.bindS S g fun hd ρ1 v B1 H1 S1 x1 y1 g1 => put_hd S1 x1 y1 g1
theorem ss_set {i : Nat} {x : Str} {pos' : Pos} (hN : X.N.Nodup) (l : SE X C e te fe) (hi : X.N[i]? = some x := by rfl) (hx : Loc X.env.scope x := by first | exact Or.inl rfl | exact Or.inr rfl) (hs : swapsWith e (some (.Name x pos')) pos.line X.env = pure false := by rfl)
    (hf : X.fn x = true ∨ X.env.scope.names.lookup x = some .local := by first | exact .inl rfl | exact .inr rfl | assumption) : SS X C (.Assign [.Name x pos'] e pos) (tAsg te (gName i)) (sSet i fe) := ⟨ps_set hN hi hx l.pe hs hf, lk_set l.lk⟩
def LkG (C : Ct) (g : TG) (f : D → Rho → Option Rho) : Prop := ∀ ρ σ B H v d ρ' Q, Sim C.K ρ σ B H → Rp C.K B v d → f d ρ = some ρ' → (∀ σ' B' H', Sim C.K ρ' σ' B' H' → Ext ρ σ B H ρ' σ' B' H' → Q σ' H') → g v σ H Q
def LkGs (C : Ct) (g : TGs) (f : List D → Rho → Option Rho) : Prop := ∀ ρ σ B H vs ds ρ' Q, Sim C.K ρ σ B H → RpL C.K B vs ds → f ds ρ = some ρ' → (∀ σ' B' H', Sim C.K ρ' σ' B' H' → Ext ρ σ B H ρ' σ' B' H' → Q σ' H') → g vs σ H Q
structure SG (X : Cx) (C : Ct) (tg : Expr) (t : TG) (f : D → Rho → Option Rho) : Prop where
  pg : PG X tg t
  lk : LkG C t f
structure SGs (X : Cx) (C : Ct) (tg : List Expr) (t : TGs) (f : List D → Rho → Option Rho) : Prop where
  pg : PGs X tg t
  lk : LkGs C t f
def gN (i : Nat) : D → Rho → Option Rho := fun d ρ => if i < ρ.length && !ioAt ρ i then some (ρ.set i (some ⟨d, .sh⟩)) else none
theorem lk_gN {i : Nat} : LkG C (gName i) (gN i) := fun ρ σ B H v d ρ' Q S r e k => by
  unfold gN at e
  obtain ⟨h, rfl⟩ := if_some e
  simp only [Bool.and_eq_true, decide_eq_true_eq, Bool.not_eq_true'] at h
  obtain ⟨S2, x2⟩ := store_ok S Ext.refl (c := ⟨d, .sh⟩) h.1 h.2 (by simp) (.inl ⟨rfl, r⟩) fun z => absurd rfl z
  exact k _ _ _ S2 x2
def gsN : List D → Rho → Option Rho := fun ds ρ => match ds with
  | [] => some ρ
  | _ => none
def gsC (f : D → Rho → Option Rho) (g : List D → Rho → Option Rho) : List D → Rho → Option Rho := fun ds ρ => match ds with
  | d :: ds => (f d ρ).bind (g ds)
  | [] => none
def gT (n : Nat) (f : List D → Rho → Option Rho) : D → Rho → Option Rho := fun d ρ => match d with
  | .tuple ds => if ds.length = n then f ds ρ else none
  | .list ds => if ds.length = n then f ds ρ else none
  | _ => none
/-- a tuple or a list taken apart -/
def gTL (K : PySem.W.Frag) (n : Nat) (t : TGs) : TG := fun v σ H Q => gTup K n t v σ H Q ∨ gUnl K n t v σ H Q
theorem pg_tl {es : List Expr} {k : Nat} {t : TGs} {n : Nat} (hc : X.calm = true) (h : PGs X es t) (hn : (assignEach es X.env).length = n) (hst : (assignEach es X.env).findIdx? (·.1) = none) : PG X (.Tuple es k pos) (gTL X.K n t) :=
  ⟨fun pins s σ H v u Q I r hw => hw.elim ((pg_tup hc h hn hst).run pins s σ H v u Q I r) ((pg_unl hc h hn hst).run pins s σ H v u Q I r)⟩
theorem sg_name {i : Nat} {x : Str} (hN : X.N.Nodup) (hi : X.N[i]? = some x := by rfl) (hx : Loc X.env.scope x := by first | exact Or.inl rfl | exact Or.inr rfl)
    (hf : X.fn x = true ∨ X.env.scope.names.lookup x = some .local := by first | exact .inl rfl | exact .inr rfl | assumption) : SG X C (.Name x pos) (gName i) (gN i) := ⟨pg_name hN hi hx hf, lk_gN⟩
theorem sgs_nil : SGs X C [] gNil gsN := ⟨pgs_nil, fun ρ σ B H vs ds ρ' Q S r e k => by
  cases r with
  | nil => cases e; exact ⟨rfl, k _ _ _ S Ext.refl⟩
  | cons _ _ => cases e⟩
theorem lk_gC {tg : TG} {tgs : TGs} {f : D → Rho → Option Rho} {g : List D → Rho → Option Rho} (a : LkG C tg f) (b : LkGs C tgs g) : LkGs C (gCons tg tgs) (gsC f g) := fun ρ σ B H vs ds ρ' Q S r e k => by
  cases r with
  | nil => cases e
  | cons h t =>
    obtain ⟨ρ1, e1, e2⟩ := Option.bind_eq_some_iff.mp (show (f _ ρ).bind (g _) = some ρ' from e)
    refine ⟨_, _, rfl, a ρ σ B H _ _ ρ1 _ S h e1 fun σ1 B1 H1 S1 x1 => ?_⟩
    exact b ρ1 σ1 B1 H1 _ _ ρ' Q S1 (t.mono x1.bb) e2 fun σ2 B2 H2 S2 x2 => k _ _ _ S2 (x1.trans x2)
theorem sgs_cons {a : Expr} {as : List Expr} {tg : TG} {tgs : TGs} {f : D → Rho → Option Rho} {g : List D → Rho → Option Rho} (h : SG X C a tg f) (t : SGs X C as tgs g) (hs : (assignEach (a :: as) X.env).map (·.2) = assign a X.env :: (assignEach as X.env).map (·.2) := by rfl) : SGs X C (a :: as) (gCons tg tgs) (gsC f g) := ⟨pgs_cons h.pg t.pg hs, lk_gC h.lk t.lk⟩
theorem lk_gT {tgs : TGs} {n : Nat} {g : List D → Rho → Option Rho} (b : LkGs C tgs g) : LkG C (gTL C.K n tgs) (gT n g) := fun ρ σ B H v d ρ' Q S r e k => by
  cases d with
  | tuple ds =>
    replace e : (if ds.length = n then g ds ρ else none) = some ρ' := e
    split at e
    · obtain ⟨a, vs, rfl, ha, ra⟩ := r.tupE
      exact .inl ⟨a, vs, rfl, same_t S.bh ha, by rw [ra.length]; assumption, b ρ σ B H vs ds ρ' Q S ra e k⟩
    · cases e
  | list ds =>
    replace e : (if ds.length = n then g ds ρ else none) = some ρ' := e
    split at e
    · cases r with
      | lst ha ra => exact .inr ⟨_, _, rfl, same_l S.bh ha, by rw [ra.length]; assumption, b ρ σ B H _ ds ρ' Q S ra e k⟩
    · cases e
  | _ => cases e
theorem sg_tup {as : List Expr} {tgs : TGs} {n k : Nat} {g : List D → Rho → Option Rho} (hc : X.calm = true) (t : SGs X C as tgs g) (hk : X.K = C.K := by rfl) (hn : (assignEach as X.env).length = n := by rfl) (hst : (assignEach as X.env).findIdx? (·.1) = none := by rfl) : SG X C (.Tuple as k pos) (gTL C.K n tgs) (gT n g) := ⟨by rw [← hk]; exact pg_tl hc t.pg hn hst, lk_gT t.lk⟩
/-- a, b = e -/
def sUnp (f : D → Rho → Option Rho) (fe : EF) : SF := fun ρ => bindES (eCap fe ρ) fun h ρ1 => match h with
  | .sh d => match f d ρ1 with
    | some ρ2 => .nx ρ2
    | none => .stuck
  | _ => .stuck
theorem lk_unp {tg : TG} {f : D → Rho → Option Rho} (l : LkE C te fe) (lg : LkG C tg f) : LkS C (tAsg te tg) (sUnp f fe) := fun ρ σ B H E S g =>
  l.cap.bindS S g fun hd ρ1 v B1 H1 S1 x1 y1 g1 => by
    cases hd with
    | sh d =>
      dsimp only at g1
      split at g1
      · rename_i ρ2 e2
        exact lg ρ1 σ B1 H1 v d ρ2 _ S1 y1 e2 fun σ2 B2 H2 S2 x2 => g1 σ2 B2 H2 S2 (x1.trans x2)
      · exact g1.elim
    | _ => exact g1.elim
theorem ss_unp {tgt : Expr} {tg : TG} {f : D → Rho → Option Rho} (l : SE X C e te fe) (lg : SG X C tgt tg f) (hs : swapsWithSole [tgt] e pos.line X.env = pure false := by rfl) (hw : swappedStores [tgt] e X.env = pure none := by rfl)
    (h1 : (assignEach [tgt] X.env).map (·.2) = [assign tgt X.env] := by rfl) : SS X C (.Assign [tgt] e pos) (tAsg te tg) (sUnp f fe) := ⟨ps_asg l.pe lg.pg hs hw h1, lk_unp l.lk lg.lk⟩
end
end GS
namespace GS
open PySem L2
/-- a list, a tuple, a text: whichever comes -/
def iSeq (K : PySem.W.Frag) (w : World) (te : TE) : TI := fun σ H R => te σ H fun x H1 =>
  (∃ a, x = .ref a ∧ (∃ xs, SqL K H1 a xs) ∧ R (Itl K a) H1) ∨ (∃ a, x = .ref a ∧ (∃ xs, SqT K H1 a xs) ∧ R (Itt K a) H1) ∨ (∃ z, x = .str z ∧ R (Its z) H1) ∨ ∃ a ep xs vs, x = .ref a ∧ H1 a = some (dX w a ep xs) ∧ Vals vs (xs.map (·.2.1)) ∧ R (Itx w a ep xs vs) H1
theorem pi_seq {X : Cx} {tg e : Expr} {te : TE} (he : PE X e te) : PI X tg e (iSeq X.K X.w te) := by
  refine ⟨fun pins s σ H R I h => ?_⟩
  refine thn (he.run pins s σ H _ I h) fun v s1 ⟨x, H1, I1, r1, q1⟩ => ?_
  rcases q1 with ⟨a, e, ⟨xs, hq⟩, q⟩ | ⟨a, e, ⟨xs, hq⟩, q⟩ | ⟨x, ex, q⟩ | ⟨d, ep, xs, vs, ex, hd, rv, q⟩
  · subst e
    cases r1
    obtain ⟨its, rv, p, hz⟩ := I1.list hq
    refine wpAny_pyIter_list p.isList ?_
    exact pi_one (tk := s1.toks) I1 _ (turn_list a _) ⟨_, Heap.get?_push_size _ rfl, rfl, rfl⟩ q
  · subst e
    cases r1
    obtain ⟨its, rv, p, hz⟩ := I1.tuple hq
    refine wpAny_pyIter_tuple (show s1.heap.IsTuple a its.toArray from p) ?_
    exact pi_one (tk := s1.toks) I1 _ (turn_tuple a _) ⟨_, Heap.get?_push_size _ rfl, rfl, rfl⟩ q
  · subst ex
    obtain ⟨t, rfl⟩ := r1
    cases ha : x.cps.all (· < 128)
    · exact wpAny_pyIter_wide ha (pi_one (tk := s1.toks) I1 _ (turn_str _ x t "str_iterator" (.inr rfl)) ⟨_, Heap.get?_push_size _ rfl, rfl, rfl⟩ q)
    · exact wpAny_pyIter_ascii ha (pi_one (tk := s1.toks) I1 _ (turn_str _ x t "str_ascii_iterator" (.inl rfl)) ⟨_, Heap.get?_push_size _ rfl, rfl, rfl⟩ q)
  · subst ex
    obtain rfl : v = Value.ref d := r1
    obtain ⟨es, hm, he, _, hs⟩ := dX_raw I1.hok hd
    have ls : es.size = vs.length := by rw [← Array.length_toList, he, List.length_map, rv.length, List.length_map]
    refine wpAny_pyIter_dict_raw hs hm (pi_one (tk := s1.toks) I1 _ (turn_dX _ rv) ⟨_, Heap.get?_push_size _ rfl, rfl, ?_⟩ q)
    rw [ls] <;> rfl
/-- what the i-th turn gives -/
def YOk (K : KW) (B : Hp) (ds : List D) : Nat → Hp → V → Hp → Prop := fun i H x H' => ∃ d, ds[i]? = some d ∧
  ((H' = H ∧ Rp K B x d) ∨ ∃ T o vs es, x = .ref T ∧ H T = none ∧ o.dict = none ∧ H' = upd H T (.frz o (.tup vs)) ∧ d = .tuple es ∧ RpL K B vs es)
def ItOk (K : KW) (B : Hp) (ds : List D) (J : It) : Prop := Walk J ds.length (fun H => Same B H) (YOk K B ds)
inductive RI where | stuck | ok (ds : List D) (ρ : Rho) | exc (x : Xc) (ρ : Rho)
abbrev IF := Rho → RI
def GoodI (C : Ct) (ρ : Rho) (σ : St) (B H : Hp) (R : It → Hp → Prop) : RI → Prop
  | .stuck => False
  | .ok ds ρ' => ∀ J B' H', Sim C.K ρ' σ B' H' → Ext ρ σ B H ρ' σ B' H' → ItOk C.K B' ds J → R J H'
  | .exc x ρ' => ∀ cls dct B' H', Sim C.K ρ' σ B' H' → Ext ρ σ B H ρ' σ B' H' → XcOk C B' x cls dct → C.W cls dct σ H'
def LkI (C : Ct) (w : TI) (f : IF) : Prop := ∀ ρ σ B H R, Sim C.K ρ σ B H → GoodI C ρ σ B H R (f ρ) → w σ H R
structure SI (X : Cx) (C : Ct) (tg it : Expr) (w : TI) (f : IF) : Prop where
  pi : PI X tg it w
  lk : LkI C w f
def bindEI (r : RE) (k : Hd → Rho → RI) : RI := match r with
  | .stuck => .stuck
  | .ok h ρ => k h ρ
  | .exc x ρ => .exc x ρ
def items : D → Option (List D)
  | .list ds => some ds
  | .tuple ds => some ds
  | .str z => some (z.cps.toList.map fun c => .str ⟨#[c]⟩)
  | .dict ps => if xnB ps then none else some (ps.map (·.1))
  | _ => none
/-- for over a list, a tuple or a text that is shared -/
def iSq (fe : EF) : IF := fun ρ => bindEI (eCap fe ρ) fun h ρ1 => match h with
  | .sh d => match items d with
    | some ds => .ok ds ρ1
    | none => .stuck
  | _ => .stuck
section
variable {X : Cx} {C : Ct} {ρ ρ1 : Rho} {σ σ1 : St} {B H B1 H1 : Hp} {e tg : Expr} {te : TE} {fe : EF} {pos p : Pos}
theorem LkE.bindI (l : LkE C te fe) (S : Sim C.K ρ σ B H) {k : Hd → Rho → RI} {R : It → Hp → Prop} {Q' : VK} (g : GoodI C ρ σ B H R (bindEI (fe ρ) k))
    (h : ∀ hd ρ1 v B1 H1, Sim C.K ρ1 σ B1 H1 → Ext ρ σ B H ρ1 σ B1 H1 → HdOk C.K (New ρ σ H) ρ1 σ B1 H1 v hd → GoodI C ρ σ B H R (k hd ρ1) → Q' v H1) : te σ H Q' := by
  refine l ρ σ B H Q' S ?_
  cases e : fe ρ with
  | stuck => rw [e] at g; exact g
  | ok hd ρ1 => rw [e] at g; exact fun v B1 H1 s x y => h hd ρ1 v B1 H1 s x y g
  | exc x ρ1 => rw [e] at g; exact g
theorem it_list {K : KW} {a : Addr} {vs : List V} {ds : List D} (h : SqL K B a vs) (r : RpL K B vs ds) : ItOk K B ds (Itl K a) := by
  unfold ItOk
  rw [← r.length]
  refine (walk_list (K := K) (a := a) (xs := vs)).mono (fun H s => same_l s h) fun i H x H' hi s y => ?_
  obtain ⟨rfl, hv⟩ := y
  obtain ⟨d, q1, q2⟩ := r.getV hv
  exact ⟨d, q1, .inl ⟨rfl, q2⟩⟩
theorem it_tup {K : KW} {a : Addr} {vs : List V} {ds : List D} (h : SqT K B a vs) (r : RpL K B vs ds) : ItOk K B ds (Itt K a) := by
  unfold ItOk
  rw [← r.length]
  refine (walk_tup (K := K) (a := a) (xs := vs)).mono (fun H s => same_t s h) fun i H x H' hi s y => ?_
  obtain ⟨rfl, hv⟩ := y
  obtain ⟨d, q1, q2⟩ := r.getV hv
  exact ⟨d, q1, .inl ⟨rfl, q2⟩⟩
theorem it_str {K : KW} {z : Str} : ItOk K B (z.cps.toList.map fun c => .str ⟨#[c]⟩) (Its z) := by
  unfold ItOk
  rw [List.length_map, Array.length_toList]
  refine (walk_str (z := z)).mono (fun H _ => trivial) fun i H x H' hi s y => ?_
  obtain ⟨rfl, c, hc, rfl⟩ := y
  refine ⟨.str ⟨#[c]⟩, ?_, .inl ⟨rfl, .str _⟩⟩
  rw [List.getElem?_map, Array.getElem?_toList, hc]
  rfl
theorem rpx_keys {K : KW} {b : Bool} : ∀ {xs : List (NestedKey × Value × Value)} {ps : List (D × D)}, RpX K B b xs ps → ∃ vs, Vals vs (xs.map (·.2.1)) ∧ RpL K B vs (ps.map (·.1))
  | _, _, .nil => ⟨[], .nil, .nil⟩
  | _, _, .cons (kv := kv) _ _ h3 h4 _ _ h7 => by
    obtain ⟨vs, q1, q2⟩ := rpx_keys h7
    exact ⟨kv :: vs, .cons h4 q1, .cons h3 q2⟩
theorem it_dct {K : KW} {a : Addr} {ep : Nat} {xs : List (NestedKey × Value × Value)} {vs : List V} {ds : List D} (h : B a = some (dX K.w a ep xs)) (r : RpL K B vs ds) : ItOk K B ds (Itx K.w a ep xs vs) := by
  unfold ItOk
  rw [← r.length]
  refine walk_dX.mono (fun H s => s _ _ h) fun i H x H' hi s y => ?_
  obtain ⟨rfl, hv⟩ := y
  obtain ⟨d, q1, q2⟩ := r.getV hv
  exact ⟨d, q1, .inl ⟨rfl, q2⟩⟩
theorem lk_sq (l : LkE C te fe) : LkI C (iSeq C.K C.K.w te) (iSq fe) := fun ρ σ B H R S g => by
  refine l.cap.bindI S g fun hd ρ1 v B1 H1 S1 x1 y1 g1 => ?_
  cases hd with
  | sh d =>
    dsimp only at g1
    split at g1
    · rename_i ds ed
      cases d with
      | list es =>
        cases ed
        obtain ⟨a, vs, rfl, ha, ra⟩ := Rp.lstE y1
        exact .inl ⟨a, rfl, ⟨vs, same_l S1.bh ha⟩, g1 _ _ _ S1 x1 (it_list ha ra)⟩
      | tuple es =>
        cases ed
        obtain ⟨a, vs, rfl, ha, ra⟩ := Rp.tupE y1
        exact .inr (.inl ⟨a, rfl, ⟨vs, same_t S1.bh ha⟩, g1 _ _ _ S1 x1 (it_tup ha ra)⟩)
      | str z =>
        cases ed
        cases (show Rp C.K B1 v (.str z) from y1)
        exact .inr (.inr (.inl ⟨z, rfl, g1 _ _ _ S1 x1 it_str⟩))
      | dict ps =>
        obtain ⟨c, rfl⟩ : xnB ps = false ∧ ds = ps.map (·.1) := by
          replace ed : (if xnB ps then none else some (ps.map (·.1))) = some ds := ed
          split at ed
          · cases ed
          · rename_i c
            exact ⟨by simpa using c, (Option.some.inj ed).symm⟩
        cases (show Rp C.K B1 v (.dict ps) from y1) with
        | dct h r =>
          obtain ⟨vs, q1, q2⟩ := rpx_keys r
          exact .inr (.inr (.inr ⟨_, _, _, vs, rfl, S1.bh _ _ h, q1, g1 _ _ _ S1 x1 (it_dct h q2)⟩))
        | exn _ _ _ _ => cases c
      | _ => cases ed
    · exact g1.elim
  | _ => exact g1.elim
theorem si_sq (l : SE X C e te fe) (hk : X.K = C.K := by rfl) (hw : X.w = C.K.w := by rfl) : SI X C tg e (iSeq C.K C.K.w te) (iSq fe) := ⟨by rw [← hk, ← hw]; exact pi_seq l.pe, lk_sq l.lk⟩
def rgD (lo : Int) (n : Nat) : List D := (List.range n).map fun (i : Nat) => PyData.int (lo + (i : Int))
theorem it_range {K : KW} {lo : Int} {n : Nat} : ItOk K B (rgD lo n) (Itr lo n) := by
  unfold ItOk rgD
  rw [List.length_map, List.length_range]
  refine (walk_range (lo := lo) (n := n)).mono (fun H _ => trivial) fun i H x H' hi s y => ?_
  obtain ⟨rfl, rfl⟩ := y
  refine ⟨.int (lo + i), ?_, .inl ⟨rfl, .int _⟩⟩
  rw [List.getElem?_map, List.getElem?_range hi]
  rfl
def okR (i : Int) : Bool := Nat.ble i.natAbs 1000000000
def iR1 (fe : EF) : IF := fun ρ => bindEI (eSet fe ρ) fun h ρ1 => match getH ρ1 h with
  | some (.int j) => if okR j then .ok (rgD 0 j.toNat) ρ1 else .stuck
  | _ => .stuck
theorem e62 : (2 : Int) ^ 62 = 4611686018427387904 := by decide +kernel
theorem okR_ok {i : Int} (h : okR i = true) : -(2 ^ 62) ≤ i ∧ i < 2 ^ 62 := by
  have := Nat.le_of_ble_eq_true h
  rw [e62]
  omega
theorem si_r1 (l : SE X C e te fe) (hm : X.mg "range" = none) (hg : Gl X "range" := by rfl) (hs : starEach [e] X.env = [(false, eval e X.env)] := by rfl) : SI X C tg (.Call (.Name "range" p) [e] [] pos) (iRng1 (tCons te tNil)) (iR1 fe) := ⟨pi_range1 hg hm (pa_cons l.pe pa_nil hs) hs, fun ρ σ B H R S g => by
  refine l.lk.set.bindI S g fun hd ρ1 v B1 H1 S1 x1 y1 g1 => ?_
  split at g1
  · rename_i j ej
    split at g1
    · rename_i ok
      obtain ⟨h1, h2⟩ := okR_ok ok
      exact ⟨j, by rw [(S1.tp y1 ej).int], h1, h2, g1 _ _ _ S1 x1 it_range⟩
    · exact g1.elim
  · exact g1.elim⟩
theorem GoodI.ext (x : Ext ρ σ B H ρ1 σ B1 H1) {R : It → Hp → Prop} : ∀ {r : RI}, GoodI C ρ σ B H R r → GoodI C ρ1 σ B1 H1 R r
  | .stuck, g => g
  | .ok _ _, g => fun J B' H' s y z => g J B' H' s (x.trans y) z
  | .exc _ _, g => fun c d B' H' s y z => g c d B' H' s (x.trans y) z
def forL (g : D → Rho → Option Rho) (b : SF) : List D → Rho → RS
  | [], ρ => .nx ρ
  | d :: ds, ρ => match g d ρ with
    | none => .stuck
    | some ρ1 => match b ρ1 with
      | .nx ρ2 => forL g b ds ρ2
      | .ct ρ2 => forL g b ds ρ2
      | .bk ρ2 => .nx ρ2
      | r => r
def sFor (fi : IF) (g : D → Rho → Option Rho) (b : SF) : SF := fun ρ => match fi ρ with
  | .stuck => .stuck
  | .exc x ρ1 => .exc x ρ1
  | .ok ds ρ1 => forL g b ds ρ1
theorem lk_for {w : TI} {tgt : TG} {tb : TS} {fi : IF} {g : D → Rho → Option Rho} {b : SF} (li : LkI C w fi) (lg : LkG C tgt g) (lb : LkS C tb b) : LkS C (tFor w tgt tb) (sFor fi g b) := fun ρ σ B H E S gd => by
  refine li ρ σ B H _ S ?_
  unfold sFor at gd
  cases e : fi ρ with
  | stuck => rw [e] at gd; exact gd
  | exc x ρ1 => rw [e] at gd; exact fun c d B' H' s x => gd c d σ B' H' s x
  | ok ds ρ1 =>
    rw [e] at gd
    replace gd : GoodS C ρ σ B H E (forL g b ds ρ1) := gd
    intro J B1 H1 S1 x1 ok
    refine for_it ok (fun i σ' H' => ∃ ρ' B', Sim C.K ρ' σ' B' H' ∧ Ext ρ σ B H ρ' σ' B' H' ∧ Same B1 B' ∧ GoodS C ρ σ B H E (forL g b (ds.drop i) ρ')) ⟨ρ1, B1, S1, x1, Same.refl _, gd⟩ (fun i σ' H' _ ⟨ρ', B', S', _, s', _⟩ => s'.trans S'.bh) ?_ ?_
    · rintro i v σ' H' H2 hi ⟨ρ', B', S', x', s', g'⟩ ⟨d, ed, y⟩
      have hd : ds.drop i = d :: ds.drop (i + 1) := by
        have := List.drop_eq_getElem_cons hi
        rw [this]
        congr 1
        exact Option.some.inj ((List.getElem?_eq_getElem hi).symm.trans ed)
      rw [hd] at g'
      have step : ∃ B2, Sim C.K ρ' σ' B2 H2 ∧ Ext ρ σ B H ρ' σ' B2 H2 ∧ Same B1 B2 ∧ Rp C.K B2 v d := by
        rcases y with ⟨rfl, r⟩ | ⟨T, o, vs, es, rfl, hT, ho, rfl, rfl, r⟩
        · exact ⟨B', S', x', s', r.mono s'⟩
        · obtain ⟨S2, x2⟩ := S'.newB hT (.frz o (.tup vs))
          exact ⟨_, S2, x'.trans x2, s'.trans x2.bb, .tup (XT.new ho) (r.mono (s'.trans x2.bb))⟩
      obtain ⟨B2, S2, x2, s2, r2⟩ := step
      unfold forL at g'
      cases eg : g d ρ' with
      | none => rw [eg] at g'; exact g'.elim
      | some ρ3 =>
        rw [eg] at g'
        refine lg ρ' σ' B2 H2 v d ρ3 _ S2 r2 eg fun σ3 B3 H3 S3 x3 => ?_
        refine lb ρ3 σ3 B3 H3 _ S3 ?_
        have x3' := x2.trans x3
        cases eb : b ρ3 with
        | stuck => simp only [eb] at g'; exact g'
        | nx ρ4 => simp only [eb] at g'; exact fun σ4 B4 H4 S4 x4 => ⟨ρ4, B4, S4, x3'.trans x4, (s2.trans x3.bb).trans x4.bb, g'⟩
        | ct ρ4 => simp only [eb] at g'; exact fun σ4 B4 H4 S4 x4 => ⟨ρ4, B4, S4, x3'.trans x4, (s2.trans x3.bb).trans x4.bb, g'⟩
        | bk ρ4 => simp only [eb] at g'; exact fun σ4 B4 H4 S4 x4 => g' σ4 B4 H4 S4 (x3'.trans x4)
        | rt h ρ4 => simp only [eb] at g'; exact GoodS.ext (r := .rt h ρ4) x3' g'
        | exc c ρ4 => simp only [eb] at g'; exact GoodS.ext (r := .exc c ρ4) x3' g'
    · rintro σ' H' ⟨ρ', B', S', x', _, g'⟩
      rw [List.drop_length] at g'
      exact g' σ' B' H' S' x'
theorem ss_for {it : Expr} {body : List Stmt} {w : TI} {tgt : TG} {tb : TS} {fi : IF} {g : D → Rho → Option Rho} {b : SF} (hp : PassesOwn (model X.prog X.w) X.A X.env X.xe) (hc : X.calm = true) (li : SI X C tg it w fi) (lg : SG X C tg tgt g) (lb : SSs X C body tb b)
    (hs : ∀ x, foldedSetIterable it X.env x = pure x := by intro _; rfl) : SS X C (.For tg it body [] pos) (tFor w tgt tb) (sFor fi g b) := ⟨ps_for hp hc li.pi lg.pg lb.ps hs, lk_for li.lk lg.lk lb.lk⟩
def whileL (ft : EF) (b : SF) : Nat → Rho → RS
  | 0, _ => .stuck
  | n + 1, ρ => bindBS (ft ρ) fun c ρ1 => if c then (match b ρ1 with
      | .nx ρ2 => whileL ft b n ρ2
      | .ct ρ2 => whileL ft b n ρ2
      | .bk ρ2 => .nx ρ2
      | r => r) else .nx ρ1
theorem lk_while {tt : TT} {tb : TS} {ft : EF} {b : SF} (n : Nat) (lt : LkT C tt ft) (lb : LkS C tb b) : LkS C (tWhile tt tb) (whileL ft b n) := fun ρ σ B H E S gd => by
  refine ⟨fun m σ' H' => ∃ ρ' B', Sim C.K ρ' σ' B' H' ∧ GoodS C ρ' σ' B' H' E (whileL ft b m ρ'), ⟨n, ρ, B, S, gd⟩, ?_⟩
  rintro m σ' H' ⟨ρ', B', S', g'⟩
  cases m with
  | zero => exact g'.elim
  | succ m =>
    unfold whileL at g'
    refine lt.bindS S' g' fun c ρ1 B1 H1 S1 x1 g1 => ?_
    cases c with
    | false =>
      rw [if_neg Bool.false_ne_true]
      exact g1 σ' B1 H1 S1 Ext.refl
    | true =>
      rw [if_pos rfl]
      refine ⟨fun σ2 H2 => ∃ ρ2 B2, Sim C.K ρ2 σ2 B2 H2 ∧ GoodS C ρ2 σ2 B2 H2 E (whileL ft b m ρ2), fun σ2 H2 h => ⟨m, Nat.lt_succ_self m, h⟩, ?_⟩
      refine lb ρ1 σ' B1 H1 _ S1 ?_
      replace g1 : GoodS C ρ1 σ' B1 H1 E (match b ρ1 with
        | .nx ρ2 => whileL ft b m ρ2
        | .ct ρ2 => whileL ft b m ρ2
        | .bk ρ2 => .nx ρ2
        | r => r) := g1
      cases eb : b ρ1 with
      | stuck => simp only [eb] at g1; exact g1
      | nx ρ4 => simp only [eb] at g1; exact fun σ4 B4 H4 S4 x4 => ⟨ρ4, B4, S4, GoodS.ext x4 g1⟩
      | ct ρ4 => simp only [eb] at g1; exact fun σ4 B4 H4 S4 x4 => ⟨ρ4, B4, S4, GoodS.ext x4 g1⟩
      | bk ρ4 => simp only [eb] at g1; exact fun σ4 B4 H4 S4 x4 => g1 σ4 B4 H4 S4 x4
      | rt h ρ4 => simp only [eb] at g1; exact g1
      | exc c ρ4 => simp only [eb] at g1; exact g1
theorem ss_while {c : Expr} {body : List Stmt} {tt : TT} {tb : TS} {ft : EF} {b : SF} (n : Nat) (hp : PassesOwn (model X.prog X.w) X.A X.env X.xe) (lt : ST X C c tt ft) (lb : SSs X C body tb b) : SS X C (.While c body [] pos) (tWhile tt tb) (whileL ft b n) := ⟨ps_while hp lt.pt lb.ps, lk_while n lt.lk lb.lk⟩
def wipeR (ρ : Rho) : List Nat → Rho
  | [] => ρ
  | v :: vs => (wipeR ρ vs).set v none
/-- the turns: acc what is made so far -/
def lcL (vs : List Nat) (g : D → Rho → Option Rho) (ft fe : EF) : List D → List D → Rho → RE
  | [], acc, ρ => .ok (.fr (.list acc)) ρ
  | d :: ds, acc, ρ => match g d ρ with
    | none => .stuck
    | some ρ1 => bindB (ft ρ1) fun c ρ2 => if c then bindE (eCap fe ρ2) fun h ρ3 => match h with
        | .sh y => if acc.length < sizeLine then lcL vs g ft fe ds (acc ++ [y]) (wipeR ρ3 vs) else .stuck
        | _ => .stuck
      else lcL vs g ft fe ds acc (wipeR ρ2 vs)
def eLc (vs : List Nat) (fi : IF) (g : D → Rho → Option Rho) (ft fe : EF) : EF := fun ρ => match fi ρ with
  | .stuck => .stuck
  | .exc x ρ1 => .exc x ρ1
  | .ok ds ρ1 => if vs.all fun i => !ioAt ρ1 i then lcL vs g ft fe ds [] (wipeR ρ1 vs) else .stuck
theorem wipeR_len (ρ : Rho) : ∀ vs : List Nat, (wipeR ρ vs).length = ρ.length
  | [] => rfl
  | v :: vs => by unfold wipeR; rw [List.length_set, wipeR_len ρ vs]
theorem wipeR_some {ρ : Rho} {i : Nat} {c : Cel} : ∀ {vs : List Nat}, (wipeR ρ vs)[i]? = some (some c) → ρ[i]? = some (some c) ∧ i ∉ vs
  | [], h => ⟨h, by simp⟩
  | v :: vs, h => by
    unfold wipeR at h
    rcases set_get h with ⟨_, ec⟩ | ⟨ne, h⟩
    · cases ec
    · obtain ⟨h1, h2⟩ := wipeR_some h
      exact ⟨h1, by simp only [List.mem_cons, not_or]; exact ⟨fun e => ne e.symm, h2⟩⟩
theorem wipeR_keep {ρ : Rho} {i : Nat} : ∀ {vs : List Nat}, i ∉ vs → (wipeR ρ vs)[i]? = ρ[i]?
  | [], _ => rfl
  | v :: vs, h => by
    simp only [List.mem_cons, not_or] at h
    unfold wipeR
    rw [set_other (fun e => h.1 e.symm)]
    exact wipeR_keep h.2
theorem wipe_keep {σ : St} {i : Nat} : ∀ {vs : List Nat}, i ∉ vs → (wipe σ vs)[i]? = σ[i]?
  | [], _ => rfl
  | v :: vs, h => by
    simp only [List.mem_cons, not_or] at h
    unfold wipe
    rw [List.getElem?_set, if_neg (fun e => h.1 e.symm)]
    exact wipe_keep h.2
/-- slots are forgotten on both sides -/
theorem Sim.wipe {K : KW} {σ' : St} (S : Sim K ρ σ B H) (vs : List Nat) (hl : σ'.length = σ.length) (he : ∀ i, i ∉ vs → σ'[i]? = σ[i]?) : Sim K (wipeR ρ vs) σ' B H := by
  refine ⟨S.bh, by rw [wipeR_len, hl]; exact S.len, fun i c h => ?_, fun i j ci cj a hi hj ni nj ei ej => ?_⟩
  · obtain ⟨h1, h2⟩ := wipeR_some h
    rw [he i h2]
    exact S.sl i c h1
  · obtain ⟨h1, h2⟩ := wipeR_some hi
    obtain ⟨h3, h4⟩ := wipeR_some hj
    rw [he i h2] at ei
    rw [he j h4] at ej
    exact S.dj i j ci cj a h1 h3 ni nj ei ej
theorem Ext.wipe {σ' : St} (x : Ext ρ σ B H ρ1 σ1 B1 H1) (vs : List Nat) (hn : ∀ i ∈ vs, ∀ c, ρ[i]? = some (some c) → c.fl ≠ .io) (he : ∀ i, i ∉ vs → σ'[i]? = σ1[i]?) : Ext ρ σ B H (wipeR ρ1 vs) σ' B1 H1 := by
  refine ⟨x.bb, x.nw, x.kp, fun a ⟨i, c, h1, h2, h3⟩ => ?_, fun i c h1 h2 => ?_, fun i c h1 h2 => ?_⟩
  · obtain ⟨q1, q2⟩ := wipeR_some h1
    rw [he i q2] at h3
    exact x.sub a ⟨i, c, q1, h2, h3⟩
  · have ni : i ∉ vs := fun z => hn i z c h1 h2
    obtain ⟨e1, c1, q1, q2⟩ := x.io i c h1 h2
    exact ⟨(he i ni).trans e1, c1, (wipeR_keep ni).trans q1, q2⟩
  · obtain ⟨q1, _⟩ := wipeR_some h1
    exact x.oi i c q1 h2
end
end GS
namespace GS
open PySem L2
section
variable {X : Cx} {C : Ct} {ρ ρ1 : Rho} {σ σ1 σ' : St} {B H B1 H1 : Hp} {e tg : Expr} {te : TE} {fe : EF} {pos p : Pos} {vs : List Nat} {K : KW}
theorem wipe_get (σ : St) (j : Nat) : ∀ vs : List Nat, (wipe σ vs)[j]? = if j ∈ vs then (if j < σ.length then some none else none) else σ[j]?
  | [] => by simp [wipe]
  | v :: vs => by
    unfold wipe
    rw [List.getElem?_set, wipe_get σ j vs, wipe_length]
    by_cases h : v = j
    · subst h; simp
    · have h' : ¬ j = v := fun z => h z.symm
      simp [h, h']
theorem wipe_set {i : Nat} {x : Option V} (h : i ∈ vs) : wipe (σ.set i x) vs = wipe σ vs := by
  apply List.ext_getElem?
  intro j
  rw [wipe_get, wipe_get, List.length_set]
  by_cases hj : j ∈ vs
  · simp [hj]
  · rw [if_neg hj, if_neg hj, List.getElem?_set, if_neg (fun (z : i = j) => hj (z ▸ h))]
theorem of_wipe (h : wipe σ1 vs = wipe σ vs) : σ1.length = σ.length ∧ ∀ i, i ∉ vs → σ1[i]? = σ[i]? := by
  refine ⟨by rw [← wipe_length σ1 vs, h, wipe_length], fun i hi => ?_⟩
  rw [← wipe_keep hi, h, wipe_keep hi]
/-- targets of a comprehension -/
def LkGw (C : Ct) (vs : List Nat) (g : TG) (f : D → Rho → Option Rho) : Prop := ∀ ρ σ B H v d ρ' Q, Sim C.K ρ σ B H → Rp C.K B v d → f d ρ = some ρ' → (∀ σ' B' H', Sim C.K ρ' σ' B' H' → Ext ρ σ B H ρ' σ' B' H' → wipe σ' vs = wipe σ vs → Q σ' H') → g v σ H Q
def LkGws (C : Ct) (vs : List Nat) (g : TGs) (f : List D → Rho → Option Rho) : Prop := ∀ ρ σ B H ws ds ρ' Q, Sim C.K ρ σ B H → RpL C.K B ws ds → f ds ρ = some ρ' → (∀ σ' B' H', Sim C.K ρ' σ' B' H' → Ext ρ σ B H ρ' σ' B' H' → wipe σ' vs = wipe σ vs → Q σ' H') → g ws σ H Q
theorem lkw_N {i : Nat} (hi : i ∈ vs) : LkGw C vs (gName i) (gN i) := fun ρ σ B H v d ρ' Q S r e k => by
  unfold gN at e
  obtain ⟨h, rfl⟩ := if_some e
  simp only [Bool.and_eq_true, decide_eq_true_eq, Bool.not_eq_true'] at h
  obtain ⟨S2, x2⟩ := store_ok S Ext.refl (c := ⟨d, .sh⟩) h.1 h.2 (by simp) (.inl ⟨rfl, r⟩) fun z => absurd rfl z
  exact k _ _ _ S2 x2 (wipe_set hi)
theorem lkw_nil : LkGws C vs gNil gsN := fun ρ σ B H ws ds ρ' Q S r e k => by
  cases r with
  | nil => cases e; exact ⟨rfl, k _ _ _ S Ext.refl rfl⟩
  | cons _ _ => cases e
theorem lkw_C {tg : TG} {tgs : TGs} {f : D → Rho → Option Rho} {g : List D → Rho → Option Rho} (a : LkGw C vs tg f) (b : LkGws C vs tgs g) : LkGws C vs (gCons tg tgs) (gsC f g) := fun ρ σ B H ws ds ρ' Q S r e k => by
  cases r with
  | nil => cases e
  | cons h t =>
    obtain ⟨ρ1, e1, e2⟩ := Option.bind_eq_some_iff.mp (show (f _ ρ).bind (g _) = some ρ' from e)
    refine ⟨_, _, rfl, a ρ σ B H _ _ ρ1 _ S h e1 fun σ1 B1 H1 S1 x1 w1 => ?_⟩
    exact b ρ1 σ1 B1 H1 _ _ ρ' Q S1 (t.mono x1.bb) e2 fun σ2 B2 H2 S2 x2 w2 => k _ _ _ S2 (x1.trans x2) (w2.trans w1)
theorem lkw_T {tgs : TGs} {n : Nat} {g : List D → Rho → Option Rho} (b : LkGws C vs tgs g) : LkGw C vs (gTL C.K n tgs) (gT n g) := fun ρ σ B H v d ρ' Q S r e k => by
  cases d with
  | tuple ds =>
    replace e : (if ds.length = n then g ds ρ else none) = some ρ' := e
    split at e
    · obtain ⟨a, ws, rfl, ha, ra⟩ := r.tupE
      exact .inl ⟨a, ws, rfl, same_t S.bh ha, by rw [ra.length]; assumption, b ρ σ B H ws ds ρ' Q S ra e k⟩
    · cases e
  | list ds =>
    replace e : (if ds.length = n then g ds ρ else none) = some ρ' := e
    split at e
    · cases r with
      | lst ha ra => exact .inr ⟨_, _, rfl, same_l S.bh ha, by rw [ra.length]; assumption, b ρ σ B H _ ds ρ' Q S ra e k⟩
    · cases e
  | _ => cases e
/-- without exceptions -/
def eNox (f : EF) : EF := fun ρ => match f ρ with
  | .exc _ _ => .stuck
  | r => r
abbrev Ct.nox (C : Ct) : Ct := { C with W := fun _ _ _ _ => False }
theorem LkE.ofNox {t : TE} {f : EF} (l : LkE C.nox t f) : LkE C t (eNox f) := fun ρ σ B H Q S g => by
  refine l ρ σ B H Q S ?_
  unfold eNox at g
  cases e : f ρ with
  | stuck => rw [e] at g; exact g
  | ok h ρ1 => rw [e] at g; exact g
  | exc x ρ1 => rw [e] at g; exact g.elim
theorem LkT.ofNox {t : TT} {f : EF} (l : LkT C.nox t f) : LkT C t (eNox f) := fun ρ σ B H Q S g => by
  refine l ρ σ B H Q S ?_
  unfold eNox at g
  cases e : f ρ with
  | stuck => rw [e] at g; exact g
  | ok h ρ1 =>
    rw [e] at g
    cases h with
    | sh d => cases d <;> exact g
    | _ => exact g
  | exc x ρ1 => rw [e] at g; exact g.elim
theorem eNox_ne (f : EF) (ρ : Rho) {x : Xc} {ρ1 : Rho} : eNox f ρ ≠ .exc x ρ1 := fun h => by
  unfold eNox at h
  split at h
  · cases h
  · rename_i z; exact z _ _ h
theorem cap_nox_ne (f : EF) (ρ : Rho) {x : Xc} {ρ1 : Rho} : eCap (eNox f) ρ ≠ .exc x ρ1 := fun h => by
  unfold eCap bindE at h
  split at h
  · cases h
  · dsimp only at h
    split at h <;> cases h
  · rename_i e; exact eNox_ne _ _ e
def NoV (ρ : Rho) (vs : List Nat) : Prop := ∀ (i : Nat) (c : Cel), ρ[i]? = some (some c) → i ∉ vs
theorem noV_wipe : NoV (wipeR ρ vs) vs := fun i c h => (wipeR_some h).2
theorem Sim.swap (S : Sim K ρ σ B H) (n : NoV ρ vs) (hl : σ'.length = σ.length) (he : ∀ i, i ∉ vs → σ'[i]? = σ[i]?) : Sim K ρ σ' B H := by
  refine ⟨S.bh, by rw [hl]; exact S.len, fun i c h => ?_, fun i j ci cj a hi hj ni nj ei ej => ?_⟩
  · rw [he i (n i c h)]; exact S.sl i c h
  · rw [he i (n i ci hi)] at ei
    rw [he j (n j cj hj)] at ej
    exact S.dj i j ci cj a hi hj ni nj ei ej
theorem Sim.tweak (S : Sim K ρ σ B H) {q : Addr} {o : HO} (hb : B q = none) (hn : ¬ OwnA ρ σ q) : Sim K ρ σ B (upd H q o) := by
  refine ⟨fun b u z => ?_, S.len, fun i c h => ?_, S.dj⟩
  · rw [upd_ne (ne_of_none z hb)]; exact S.bh _ _ z
  · obtain ⟨v, ev, ok⟩ := S.sl i c h
    refine ⟨v, ev, ok.mono (Same.refl B) fun a hv ha ho hf => ⟨ha, ?_⟩⟩
    have ne : a ≠ q := fun z => by subst z hv; exact hn ⟨i, c, h, hf, ev⟩
    rw [upd_ne ne]
theorem Ext.tweak (x : Ext ρ σ B H ρ1 σ1 B1 H1) {q : Addr} {o : HO} (hn : New ρ σ H q) : Ext ρ σ B H ρ1 σ1 B1 (upd H1 q o) := by
  refine ⟨x.bb, x.nw, fun a u h n => ?_, x.sub, x.io, x.oi⟩
  have ne : a ≠ q := fun z => by
    subst z
    rcases hn with z | z
    · rw [h] at z; cases z
    · exact n z
  rw [upd_ne ne]
  exact x.kp a u h n
theorem OwnA.swap {a : Addr} (n : NoV ρ vs) (he : ∀ i, i ∉ vs → σ'[i]? = σ[i]?) (h : OwnA ρ σ' a) : OwnA ρ σ a := by
  obtain ⟨i, c, h1, h2, h3⟩ := h
  exact ⟨i, c, h1, h2, (he i (n i c h1)).symm.trans h3⟩
theorem Ext.swapL (x : Ext ρ σ' B H ρ1 σ1 B1 H1) (n : NoV ρ vs) (he : ∀ i, i ∉ vs → σ'[i]? = σ[i]?) (ho : ∀ (i : Nat) c, ρ[i]? = some (some c) → c.fl = .io → σ1[i]? = σ[i]?) : Ext ρ σ B H ρ1 σ1 B1 H1 := by
  have own : ∀ a, OwnA ρ σ' a → OwnA ρ σ a := fun a h => h.swap n he
  have own' : ∀ a, OwnA ρ σ a → OwnA ρ σ' a := fun a h => h.swap n fun i hi => (he i hi).symm
  exact ⟨x.bb, fun a o h => (x.nw a o h).imp id fun z => z.elim .inl fun z => .inr (own a z), fun a o h z => x.kp a o h fun w => z (own a w), fun a h => (x.sub a h).elim .inl fun z => .inr (own a z),
    fun i c h1 h2 => ⟨ho i c h1 h2, (x.io i c h1 h2).2⟩, x.oi⟩
theorem lk_lc {w : TI} {tgt : TG} {tt : TT} {fi : IF} {g : D → Rho → Option Rho} {ft : EF} (li : LkI C w fi) (lg : LkGw C vs tgt g) (lt : LkT C.nox tt ft) (le : LkE C.nox te fe) : LkE C (tLc w tgt tt te vs) (eLc vs fi g (eNox ft) (eNox fe)) := fun ρ σ B H Q S gd => by
  have lt' := lt.ofNox
  have le' := le.ofNox
  refine li ρ σ B H _ S ?_
  unfold eLc at gd
  cases e : fi ρ with
  | stuck => rw [e] at gd; exact gd
  | exc x ρ1 => rw [e] at gd; exact gd
  | ok ds ρ1 =>
    rw [e] at gd
    replace gd : GoodE C ρ σ B H Q (if vs.all fun i => !ioAt ρ1 i then lcL vs g (eNox ft) (eNox fe) ds [] (wipeR ρ1 vs) else .stuck) := gd
    by_cases hio : (vs.all fun i => !ioAt ρ1 i) = true
    case neg => rw [if_neg hio] at gd; exact gd.elim
    rw [if_pos hio] at gd
    intro J B1 H1 S1 x1 ok Dd hD
    have hio' : ∀ i ∈ vs, ∀ c, ρ1[i]? = some (some c) → c.fl ≠ .io := fun i hi c hc => by
      have := List.all_eq_true.mp hio i hi
      exact not_io (by simpa using this) hc
    have hio0 : ∀ i ∈ vs, ∀ c, ρ[i]? = some (some c) → c.fl ≠ .io := fun i hi c hc hf => by
      obtain ⟨_, c', q1, q2⟩ := x1.io i c hc hf
      exact hio' i hi c' q1 q2
    obtain ⟨bD, nD⟩ := S1.free hD
    have newD : New ρ σ H Dd := x1.back (.inl hD)
    have wk : ∀ i, i ∉ vs → (wipe σ vs)[i]? = σ[i]? := fun i hi => wipe_keep hi
    have wl : (wipe σ vs).length = σ.length := wipe_length σ vs
    -- the start
    have S0 : Sim C.K (wipeR ρ1 vs) σ B1 (upd H1 Dd (.lst [])) := (S1.wipe vs rfl fun _ _ => rfl).tweak bD fun ⟨i, c, h1, h2, h3⟩ => nD ⟨i, c, (wipeR_some h1).1, h2, h3⟩
    have x0 : Ext ρ σ B H (wipeR ρ1 vs) σ B1 (upd H1 Dd (.lst [])) := (x1.wipe vs hio0 fun _ _ => rfl).tweak newD
    refine lc_it ok (fun i Hc => ∃ ρ' B' vacc acc, Sim C.K ρ' σ B' Hc ∧ NoV ρ' vs ∧ Ext ρ σ B H ρ' σ B' Hc ∧ Same B1 B' ∧ Hc Dd = some (.lst vacc) ∧ B' Dd = none ∧ ¬ OwnA ρ' σ Dd ∧ RpL C.K B' vacc acc ∧ GoodE C ρ σ B H Q (lcL vs g (eNox ft) (eNox fe) (ds.drop i) acc ρ'))
      ⟨wipeR ρ1 vs, B1, [], [], S0, noV_wipe, x0, Same.refl _, upd_same, bD, fun ⟨i, c, h1, h2, h3⟩ => nD ⟨i, c, (wipeR_some h1).1, h2, h3⟩, .nil, gd⟩ (fun i Hc _ ⟨ρ', B', _, _, S', _, _, s', _⟩ => s'.trans S'.bh) ?_ ?_
    · rintro i v Hc H2 hi ⟨ρ', B', vacc, acc, S', nv, x', s', hacc, bacc, nacc, racc, g'⟩ ⟨d, ed, y⟩
      have hd : ds.drop i = d :: ds.drop (i + 1) := by
        have := List.drop_eq_getElem_cons hi
        rw [this]
        congr 1
        exact Option.some.inj ((List.getElem?_eq_getElem hi).symm.trans ed)
      rw [hd] at g'
      -- the turn's item
      have step : ∃ B2, Sim C.K ρ' σ B2 H2 ∧ Ext ρ σ B H ρ' σ B2 H2 ∧ Same B1 B2 ∧ Rp C.K B2 v d ∧ H2 Dd = some (.lst vacc) ∧ B2 Dd = none ∧ RpL C.K B2 vacc acc := by
        rcases y with ⟨rfl, r⟩ | ⟨T, o, ws, es, rfl, hT, ho, rfl, rfl, r⟩
        · exact ⟨B', S', x', s', r.mono s', hacc, bacc, racc⟩
        · obtain ⟨S2, x2⟩ := S'.newB hT (.frz o (.tup ws))
          have ne : Dd ≠ T := ne_of_none hacc hT
          exact ⟨_, S2, x'.trans x2, s'.trans x2.bb, .tup (XT.new ho) (r.mono (s'.trans x2.bb)), by rw [upd_ne ne]; exact hacc, by rw [upd_ne ne]; exact bacc, racc.mono x2.bb⟩
      obtain ⟨B2, S2, x2, s2, r2, hacc2, bacc2, racc2⟩ := step
      unfold lcL at g'
      cases eg : g d ρ' with
      | none => rw [eg] at g'; exact g'.elim
      | some ρ3 =>
        rw [eg] at g'
        have S2w : Sim C.K ρ' (wipe σ vs) B2 H2 := S2.swap nv wl wk
        refine lg ρ' (wipe σ vs) B2 H2 v d ρ3 _ S2w r2 eg fun σ3 B3 H3 S3 x3 w3 => ?_
        have w3' : wipe σ3 vs = wipe σ vs := by
          rw [w3]
          apply List.ext_getElem?
          intro j
          rw [wipe_get, wl, wipe_get]
          by_cases hj : j ∈ vs <;> simp [hj]
        obtain ⟨l3, k3⟩ := of_wipe w3'
        refine ⟨w3', ?_⟩
        have nacc' : ¬ OwnA ρ' (wipe σ vs) Dd := fun z => nacc (z.swap nv wk)
        obtain ⟨hacc3, bacc3, nacc3⟩ := x3.keepN hacc2 bacc2 nacc'
        -- from the start to here, at σ3
        have x3s : Ext ρ σ B H ρ3 σ3 B3 H3 := x2.trans (x3.swapL nv wk fun j c h1 h2 => k3 j (nv j c h1))
        dsimp only at g'
        refine lt' ρ3 σ3 B3 H3 _ S3 ?_
        cases et : eNox ft ρ3 with
        | stuck => rw [et] at g'; exact g'.elim
        | exc c ρ4 => exact absurd et (eNox_ne _ _)
        | ok h ρ4 =>
          rw [et] at g'
          cases h with
          | fr _ => exact g'.elim
          | bw _ => exact g'.elim
          | sh dd =>
            cases dd with
            | bool b =>
              replace g' : GoodE C ρ σ B H Q (if b then bindE (eCap (eNox fe) ρ4) fun h ρ3 => match h with
                | .sh y => if acc.length < sizeLine then lcL vs g (eNox ft) (eNox fe) (ds.drop (i + 1)) (acc ++ [y]) (wipeR ρ3 vs) else .stuck
                | _ => .stuck
                else lcL vs g (eNox ft) (eNox fe) (ds.drop (i + 1)) acc (wipeR ρ4 vs)) := g'
              intro B4 H4 S4 x4
              obtain ⟨hacc4, bacc4, nacc4⟩ := x4.keepN hacc3 bacc3 nacc3
              have x4s : Ext ρ σ B H ρ4 σ3 B4 H4 := x3s.trans x4
              have racc4 := (racc2.mono x3.bb).mono x4.bb
              have s4 : Same B1 B4 := (s2.trans x3.bb).trans x4.bb
              cases b with
              | false =>
                rw [if_neg Bool.false_ne_true] at g' ⊢
                exact ⟨wipeR ρ4 vs, B4, vacc, acc, S4.wipe vs l3.symm fun j hj => (k3 j hj).symm, noV_wipe, x4s.wipe vs hio0 fun j hj => (k3 j hj).symm, s4, hacc4, bacc4,
                  fun ⟨j, c, h1, h2, h3⟩ => nacc4 ⟨j, c, (wipeR_some h1).1, h2, (k3 j (wipeR_some h1).2).trans h3⟩, racc4, g'⟩
              | true =>
                rw [if_pos rfl] at g' ⊢
                refine le'.cap ρ4 σ3 B4 H4 _ S4 ?_
                cases ee : eCap (eNox fe) ρ4 with
                | stuck => rw [ee] at g'; exact g'.elim
                | exc c ρ5 => exact absurd ee (cap_nox_ne _ _)
                | ok h ρ5 =>
                  rw [ee] at g'
                  cases h with
                  | fr _ => exact g'.elim
                  | bw _ => exact g'.elim
                  | sh y =>
                    replace g' : GoodE C ρ σ B H Q (if acc.length < sizeLine then lcL vs g (eNox ft) (eNox fe) (ds.drop (i + 1)) (acc ++ [y]) (wipeR ρ5 vs) else .stuck) := g'
                    intro u B5 H5 S5 x5 y5
                    obtain ⟨hacc5, bacc5, nacc5⟩ := x5.keepN hacc4 bacc4 nacc4
                    by_cases hsz : acc.length < sizeLine
                    case neg => rw [if_neg hsz] at g'; exact g'.elim
                    rw [if_pos hsz] at g'
                    have nown : ¬ OwnA (wipeR ρ5 vs) σ Dd := fun ⟨j, c, h1, h2, h3⟩ => nacc5 ⟨j, c, (wipeR_some h1).1, h2, (k3 j (wipeR_some h1).2).trans h3⟩
                    refine ⟨vacc, hacc5, by rw [racc.length]; exact hsz, wipeR ρ5 vs, B5, vacc ++ [u], acc ++ [y], (S5.wipe vs l3.symm fun j hj => (k3 j hj).symm).tweak bacc5 nown, noV_wipe,
                      ((x4s.trans x5).wipe vs hio0 fun j hj => (k3 j hj).symm).tweak newD, s4.trans x5.bb, upd_same, bacc5, nown, (racc4.mono x5.bb).append (.cons y5 .nil), g'⟩
            | _ => exact g'.elim
    · rintro Hc ⟨ρ', B', vacc, acc, S', nv, x', s', hacc, bacc, nacc, racc, g'⟩
      rw [List.drop_length] at g'
      exact g' _ B' Hc S' x' ⟨Dd, rfl, bacc, ⟨vacc, hacc, racc⟩, nacc, newD⟩
/-- a comprehension with one for -/
theorem se_lc {elt it : Expr} {ifs : List Expr} {scope : Scope} {own : List (Str × Nat)} {w : TI} {tgt : TG} {tt : TT} {fi : IF} {g : D → Rho → Option Rho} {ft : EF} (hc : X.calm = true) (hN : X.N.Nodup) (li : SI X C tg it w fi) (ok : BlkOk X.N X.env.scope scope own)
    (hg : ∀ (s : Shared) (H : Hp) (c : Addr) (cl : List (Str × Addr)) (fp : List Addr), PG (X.blk s H scope (compEnvC scope cl c X.env) fp) tg tgt) (lg : LkGw C (own.map (·.2)) tgt g)
    (ht : ∀ (s : Shared) (H : Hp) (c : Addr) (cl : List (Str × Addr)) (fp : List Addr), PTs (X.blk s H scope (compEnvC scope cl c X.env) fp) ifs tt) (lt : LkT C.nox tt ft)
    (he : ∀ (s : Shared) (H : Hp) (c : Addr) (cl : List (Str × Addr)) (fp : List Addr), PE (X.blk s H scope (compEnvC scope cl c X.env) fp) elt te) (le : LkE C.nox te fe)
    (hs : ∀ x, foldedSetIterable it X.env x = pure x := by intro _; rfl) : SE X C (.ListComp elt [⟨tg, it, ifs, 0⟩] scope pos) (tLc w tgt tt te (own.map (·.2))) (eLc (own.map (·.2)) fi g (eNox ft) (eNox fe)) :=
  ⟨pe_lc hc hN li.pi ok hg ht he hs, lk_lc li.lk lg lt le⟩
end
end GS
namespace GS
open PySem L2
section
variable {X : Cx} {C : Ct} {ρ ρ1 : Rho} {σ σ1 σ' : St} {B H B1 H1 : Hp} {e tg : Expr} {te : TE} {fe : EF} {pos p : Pos} {vs : List Nat} {K : KW}
theorem Sim.mut (S : Sim K ρ σ B H) {i : Nat} {c : Cel} {a : Addr} {o : HO} {d : D} (hi : ρ[i]? = some (some c)) (hf : c.fl ≠ .sh) (ha : σ[i]? = some (some (.ref a))) (ow : Ow K B a (some o) d) :
    Sim K (ρ.set i (some ⟨d, c.fl⟩)) σ B (upd H a o) ∧ Ext ρ σ B H (ρ.set i (some ⟨d, c.fl⟩)) σ B (upd H a o) := by
  obtain ⟨v, ev, ok⟩ := S.sl i c hi
  rw [ha] at ev
  cases ev
  rcases ok with ⟨z, _⟩ | ⟨_, b, eb, hb, _⟩
  · exact absurd z hf
  cases eb
  refine ⟨⟨fun b u z => ?_, by rw [List.length_set]; exact S.len, fun j cj hj => ?_, fun j k cj ck b hj hk nj nk ej ek => ?_⟩, ⟨Same.refl B, fun b u z => .inl z, fun b u z n => ?_, fun b z => ?_, fun j cj hj hjf => ?_, fun j cj hj hjf => ?_⟩⟩
  · rw [upd_ne (ne_of_none z hb)]; exact S.bh _ _ z
  · rcases set_get hj with ⟨rfl, ec⟩ | ⟨ne, hj⟩
    · cases ec
      exact ⟨.ref a, ha, .inr ⟨hf, a, rfl, hb, by rw [upd_same]; exact ow⟩⟩
    · obtain ⟨v, ev, ok⟩ := S.sl j cj hj
      refine ⟨v, ev, ok.mono (Same.refl B) fun b hv hb' ho' hf' => ⟨hb', ?_⟩⟩
      have nb : b ≠ a := fun z => by
        subst z hv
        exact ne (S.dj i j c cj b hi hj hf hf' ha ev)
      rw [upd_ne nb]
  · have f1 : ∃ c1, ρ[j]? = some (some c1) ∧ c1.fl ≠ .sh := by
      rcases set_get hj with ⟨rfl, ec⟩ | ⟨_, hj⟩
      · cases ec; exact ⟨c, hi, hf⟩
      · exact ⟨cj, hj, nj⟩
    have f2 : ∃ c1, ρ[k]? = some (some c1) ∧ c1.fl ≠ .sh := by
      rcases set_get hk with ⟨rfl, ec⟩ | ⟨_, hk⟩
      · cases ec; exact ⟨c, hi, hf⟩
      · exact ⟨ck, hk, nk⟩
    obtain ⟨c1, a1, a2⟩ := f1
    obtain ⟨c2, b1, b2⟩ := f2
    exact S.dj j k c1 c2 b a1 b1 a2 b2 ej ek
  · have nb : b ≠ a := fun q => by subst q; exact n ⟨i, c, hi, hf, ha⟩
    rw [upd_ne nb]; exact z
  · obtain ⟨j, cj, hj, nj, ej⟩ := z
    rcases set_get hj with ⟨rfl, ec⟩ | ⟨_, hj⟩
    · cases ec; exact .inr ⟨i, c, hi, hf, ej⟩
    · exact .inr ⟨j, cj, hj, nj, ej⟩
  · by_cases hij : i = j
    · subst hij
      rw [hi] at hj
      cases hj
      exact ⟨rfl, _, set_at (lt_of hi), hjf⟩
    · exact ⟨rfl, cj, by rw [set_other hij]; exact hj, hjf⟩
  · rcases set_get hj with ⟨rfl, ec⟩ | ⟨_, hj⟩
    · cases ec; exact ⟨c, hi, hjf⟩
    · exact ⟨cj, hj, hjf⟩
/-- the object of an owned slot -/
theorem Sim.own (S : Sim K ρ σ B H) {i : Nat} {c : Cel} (hi : ρ[i]? = some (some c)) (hf : c.fl ≠ .sh) : ∃ a, σ[i]? = some (some (.ref a)) ∧ B a = none ∧ Ow K B a (H a) c.d := by
  obtain ⟨v, ev, ok⟩ := S.sl i c hi
  rcases ok with ⟨z, _⟩ | ⟨_, b, rfl, hb, ho⟩
  · exact absurd z hf
  · exact ⟨b, ev, hb, ho⟩
/-- a slot that may be changed -/
def mutS (ρ : Rho) (i : Nat) (k : D → Option D) : RS := match slot ρ i with
  | some ⟨d, .ow⟩ => match k d with
    | some d' => .nx (ρ.set i (some ⟨d', .ow⟩))
    | none => .stuck
  | some ⟨d, .io⟩ => match k d with
    | some d' => .nx (ρ.set i (some ⟨d', .io⟩))
    | none => .stuck
  | _ => .stuck
theorem mutS_ok {E : Ends} {i : Nat} {k : D → Option D} (g : GoodS C ρ σ B H E (mutS ρ1 i k)) : ∃ c d', ρ1[i]? = some (some c) ∧ c.fl ≠ .sh ∧ k c.d = some d' ∧ GoodS C ρ σ B H E (.nx (ρ1.set i (some ⟨d', c.fl⟩))) := by
  unfold mutS at g
  split at g
  · rename_i d es
    split at g
    · rename_i d' ek
      exact ⟨_, d', slot_some es, by simp, ek, g⟩
    · exact g.elim
  · rename_i d es
    split at g
    · rename_i d' ek
      exact ⟨_, d', slot_some es, by simp, ek, g⟩
    · exact g.elim
  · exact g.elim
def appD (y : D) : D → Option D
  | .list ds => if ds.length < sizeLine then some (.list (ds ++ [y])) else none
  | _ => none
def isL (ρ : Rho) (i : Nat) : Bool := match slot ρ i with
  | some ⟨.list _, _⟩ => true
  | _ => false
def sApp (i : Nat) (fe : EF) : SF := fun ρ => if isL ρ i then bindES (eCap fe ρ) fun h ρ1 => match h with
  | .sh y => mutS ρ1 i (appD y)
  | _ => .stuck else .stuck
theorem isL_ok (S : Sim K ρ σ B H) {i : Nat} (h : isL ρ i = true) : ∃ a vs, σ[i]? = some (some (.ref a)) ∧ SqL K H a vs := by
  unfold isL at h
  split at h
  · rename_i ds fl es
    obtain ⟨v, ev, ok⟩ := S.sl i _ (slot_some es)
    rcases ok with ⟨_, q⟩ | ⟨_, a, rfl, _, vs, q, _⟩
    · obtain ⟨a, vs, rfl, ha, _⟩ := Rp.lstE q
      exact ⟨a, vs, ev, same_l S.bh ha⟩
    · exact ⟨a, vs, ev, .inl (.inl q)⟩
  · cases h
theorem tyL {a : Addr} {vs : List V} (h : SqL K H a vs) : tyV K "list" (.ref a) H := .inl ⟨rfl, _, h⟩
theorem ss_app {i : Nat} {x : Str} {q1 q2 q3 : Pos} (l : SE X C e te fe) (hN : X.N[i]? = some x := by rfl) (hv : Vis X.env.scope x := by first | exact Or.inl rfl | exact Or.inr (Or.inl rfl) | exact Or.inr (Or.inr rfl)) (hd : (x == ("__debug__" : Str)) = false := by decide)
    (hcd : (x == ("__classdict__" : Str)) = false := by decide) (hk : X.K = C.K := by rfl) (hs : starEach [e] X.env = (false, eval e X.env) :: starEach [] X.env := by rfl)
    (hfew : ((backTo q3 (starEach [e] X.env)).all (fun x => !x.1) && (backToKw q3 (keywordEach [] X.env)).all (fun x => x.1.isSome) && decide ([e].length + ([] : List Keyword).length + (if ([] : List Keyword).isEmpty then 0 else 1) < 30)) = true := by rfl)
    (hline : (q2.endLine == q3.line) = true := by rfl) :
    SS X C (.Expr (.Call (.Attribute (.Name x q1) "append" q2) [e] [] q3) pos) (tDrop (tBM C.K "list" rAppend (tVar i) (tCons te tNil))) (sApp i fe) := by
  refine ⟨by rw [← hk]; exact ps_expr (pe_bm PySem.F.plainAttrs_list PySem.F.slot_list_append PySem.F.type_list_append mt_append (pe_var hN hv hd hcd) (pa_cons l.pe pa_nil hs) rfl hfew hline hs), fun ρ σ B H E S g => ?_⟩
  unfold sApp at g
  by_cases hl : isL ρ i = true
  case neg => rw [if_neg hl] at g; exact g.elim
  rw [if_pos hl] at g
  obtain ⟨a, vs, ea, sq⟩ := isL_ok S hl
  refine ⟨.ref a, ea, tyL sq, ?_⟩
  refine l.lk.cap.bindS S g fun hd ρ1 v B1 H1 S1 x1 y1 g1 => ?_
  cases hd with
  | sh y =>
    obtain ⟨c, d', h1, h2, h3, h4⟩ := mutS_ok g1
    obtain ⟨a', ea', hb, ow⟩ := S1.own h1 h2
    rw [ea] at ea'
    cases ea'
    obtain ⟨d, fl⟩ := c
    cases d with
    | list ds =>
      obtain ⟨hc, rfl⟩ := if_some (show (if ds.length < sizeLine then some (.list (ds ++ [y])) else none) = some d' from h3)
      obtain ⟨ws, ew, rw'⟩ := ow
      have ow' : Ow C.K B1 a (some (.lst (ws ++ [v]))) (.list (ds ++ [y])) := ⟨_, rfl, rw'.append (.cons y1 .nil)⟩
      obtain ⟨S2, x2⟩ := S1.mut h1 h2 ea ow'
      exact ⟨a, ws, v, rfl, rfl, ew, by rw [rw'.length]; exact hc, h4 _ _ _ S2 (x1.trans x2)⟩
    | _ => cases h3
  | _ => exact g1.elim
end
def ioC : Option Cel → Option Cel
  | some ⟨d, .io⟩ => some ⟨d, .io⟩
  | _ => none
def outR (ρ : Rho) (n : Nat) : Rho := (List.range n).map fun i => ioC (slot ρ i)
def fnF (m n : Nat) (g : SF) : FF := fun ρ => match g (ρ ++ List.replicate (m - n) none) with
  | .rt (.bw _) _ => .stuck
  | .rt h ρ1 => .ok h (outR ρ1 n)
  | .nx ρ1 => .ok (.sh .none) (outR ρ1 n)
  | .exc x ρ1 => .exc x (outR ρ1 n)
  | _ => .stuck
theorem ioC_some {o : Option Cel} {c : Cel} (h : ioC o = some c) : o = some c ∧ c.fl = .io := by
  unfold ioC at h
  split at h
  · cases h; exact ⟨rfl, rfl⟩
  · cases h
theorem outR_at {ρ : Rho} {n i : Nat} {c : Cel} (h : (outR ρ n)[i]? = some (some c)) : i < n ∧ ρ[i]? = some (some c) ∧ c.fl = .io := by
  unfold outR at h
  rw [List.getElem?_map] at h
  by_cases hi : i < n
  · rw [List.getElem?_range hi] at h
    obtain ⟨q1, q2⟩ := ioC_some (Option.some.inj h)
    exact ⟨hi, slot_some q1, q2⟩
  · rw [List.getElem?_eq_none (by rw [List.length_range]; omega)] at h
    cases h
theorem slot_of {ρ : Rho} {i : Nat} {c : Cel} (h : ρ[i]? = some (some c)) : slot ρ i = some c := by
  unfold slot
  rw [h]
theorem outR_has {ρ : Rho} {n i : Nat} {c : Cel} (hi : i < n) (h : ρ[i]? = some (some c)) (hf : c.fl = .io) : (outR ρ n)[i]? = some (some c) := by
  unfold outR
  rw [List.getElem?_map, List.getElem?_range hi]
  show some (ioC (slot ρ i)) = _
  rw [slot_of h]
  obtain ⟨d, fl⟩ := c
  cases hf
  rfl
section
variable {K : KW} {ρ ρ1 : Rho} {σ1 : St} {B H B1 H1 : Hp} {N : List Str} {vs : List V} {n : Nat}
theorem start_get {i : Nat} (h : i < vs.length) : (L2.start N vs)[i]? = (vs.map some)[i]? := by
  unfold L2.start
  rw [List.getElem?_append_left (by simpa using h)]
theorem ap_get {m : Nat} {i : Nat} {c : Cel} (h : (ρ ++ List.replicate m none)[i]? = some (some c)) : i < ρ.length ∧ ρ[i]? = some (some c) := by
  by_cases hi : i < ρ.length
  · rw [List.getElem?_append_left hi] at h; exact ⟨hi, h⟩
  · rw [List.getElem?_append_right (by omega), List.getElem?_replicate] at h
    split at h <;> cases h
theorem ap_of {m : Nat} {i : Nat} {c : Cel} (h : ρ[i]? = some (some c)) : (ρ ++ List.replicate m none)[i]? = some (some c) := by
  rw [List.getElem?_append_left (lt_of h)]; exact h
theorem entry_own {m : Nat} (hl : ρ.length = vs.length) {a : Addr} : OwnA (ρ ++ List.replicate m none) (L2.start N vs) a ↔ OwnA ρ (vs.map some) a := by
  constructor
  · rintro ⟨i, c, h1, h2, h3⟩
    obtain ⟨q1, q2⟩ := ap_get h1
    exact ⟨i, c, q2, h2, by rw [← start_get (by omega)]; exact h3⟩
  · rintro ⟨i, c, h1, h2, h3⟩
    exact ⟨i, c, ap_of h1, h2, by rw [start_get (by have := lt_of h1; omega)]; exact h3⟩
theorem entry_sim (S : Sim K ρ (vs.map some) B H) (hN : vs.length ≤ N.length) : Sim K (ρ ++ List.replicate (N.length - vs.length) none) (L2.start N vs) B H := by
  have hl : ρ.length = vs.length := by rw [S.len, List.length_map]
  refine ⟨S.bh, ?_, fun i c h => ?_, fun i j ci cj a hi hj ni nj ei ej => ?_⟩
  · unfold L2.start
    rw [List.length_append, List.length_append, List.length_replicate, List.length_replicate, List.length_map, hl]
  · obtain ⟨q1, q2⟩ := ap_get h
    obtain ⟨v, ev, ok⟩ := S.sl i c q2
    exact ⟨v, by rw [start_get (by omega)]; exact ev, ok⟩
  · obtain ⟨q1, q2⟩ := ap_get hi
    obtain ⟨q3, q4⟩ := ap_get hj
    rw [start_get (by omega)] at ei ej
    exact S.dj i j ci cj a q2 q4 ni nj ei ej
/-- the body's end as the caller sees it -/
theorem exit_sim {m : Nat} (S : Sim K ρ (vs.map some) B H) (hn : ρ.length = n) (S1 : Sim K ρ1 σ1 B1 H1) (x : Ext (ρ ++ List.replicate m none) (L2.start N vs) B H ρ1 σ1 B1 H1) :
    Sim K (outR ρ1 n) (vs.map some) B1 H1 ∧ Ext ρ (vs.map some) B H (outR ρ1 n) (vs.map some) B1 H1 ∧ (∀ a, OwnA (outR ρ1 n) (vs.map some) a → OwnA ρ1 σ1 a) ∧ ∀ a, New (ρ ++ List.replicate m none) (L2.start N vs) H a → New ρ (vs.map some) H a := by
  have hl : ρ.length = vs.length := by rw [S.len, List.length_map]
  have hnew : ∀ a, New (ρ ++ List.replicate m none) (L2.start N vs) H a → New ρ (vs.map some) H a := fun a h => h.imp id (entry_own hl).mp
  -- a lent slot stands as at the entry
  have same : ∀ (i : Nat) (c : Cel), (outR ρ1 n)[i]? = some (some c) → i < vs.length ∧ ρ1[i]? = some (some c) ∧ c.fl = .io ∧ σ1[i]? = (vs.map some)[i]? := fun i c h => by
    obtain ⟨q1, q2, q3⟩ := outR_at h
    obtain ⟨c', r1, r2⟩ := x.oi i c q2 q3
    obtain ⟨w1, _⟩ := ap_get r1
    have e := (x.io i c' r1 r2).1
    rw [start_get (by omega)] at e
    exact ⟨by omega, q2, q3, e⟩
  have own : ∀ a, OwnA (outR ρ1 n) (vs.map some) a → OwnA ρ1 σ1 a := fun a ⟨i, c, h1, h2, h3⟩ => by
    obtain ⟨_, q2, _, q4⟩ := same i c h1
    exact ⟨i, c, q2, h2, q4.trans h3⟩
  refine ⟨⟨S1.bh, ?_, fun i c h => ?_, fun i j ci cj a hi hj ni nj ei ej => ?_⟩, ⟨x.bb, fun a o h => (x.nw a o h).imp id (hnew a), fun a o h z => x.kp a o h fun w => z ((entry_own hl).mp w), fun a h => hnew a (x.sub a (own a h)), fun i c h1 h2 => ?_, fun i c h1 h2 => ?_⟩, own, hnew⟩
  · unfold outR
    rw [List.length_map, List.length_range, List.length_map]
    omega
  · obtain ⟨_, q2, _, q4⟩ := same i c h
    obtain ⟨v, ev, ok⟩ := S1.sl i c q2
    exact ⟨v, q4.symm.trans ev, ok⟩
  · obtain ⟨_, q2, _, q4⟩ := same i ci hi
    obtain ⟨_, r2, _, r4⟩ := same j cj hj
    exact S1.dj i j ci cj a q2 r2 ni nj (q4.trans ei) (r4.trans ej)
  · obtain ⟨_, c', q1, q2⟩ := x.io i c (ap_of h1) h2
    exact ⟨rfl, c', outR_has (by have := lt_of h1; omega) q1 q2, q2⟩
  · obtain ⟨_, q2, q3, _⟩ := same i c h1
    obtain ⟨c', r1, r2⟩ := x.oi i c q2 q3
    exact ⟨c', (ap_get r1).2, r2⟩
end
section
variable {P : Program} {w : World} {K : KW} {mg : Str → Option Value} {base : Heap} {cv : Str → Value}
abbrev cxF (P : Program) (w : World) (K : PySem.W.Frag) (mg : Str → Option Value) (base : Heap) (N : List Str) (qual : Str) (st : Stmt) (f : Addr) (cdv : Value) (A : Around) (outer : List Env) (s : Shared) (H : Hp) (E : XK) : Cx :=
  cxOf (L2.CX P w) P w K mg base N qual (defScope st) f cdv A outer s H E
abbrev ctF (K : KW) (cv : Str → Value) (E : XK) : Ct := ⟨K, cv, fun cls d _ H' => E cls d H'⟩
/-- THE RULE for a def: from its body -/
theorem fn_mk {x qual : Str} {st : Stmt} {f : Addr} {fd : FuncData} {N ps : List Str} {k : Nat} {g : SF} (F : Fun K x qual st f fd) (S : FnScope N ps (defScope st))
    (hb : ∀ (cdv : Value) (A : Around) (outer : List Env) (s : Shared) (H : Hp) (E : XK), Room k (cxF P w K mg base N qual st f cdv A outer s H E).A → Takes (cxF P w K mg base N qual st f cdv A outer s H E) (ctF K cv E).W →
      PassesOwn (model P w) (cxF P w K mg base N qual st f cdv A outer s H E).A (cxF P w K mg base N qual st f cdv A outer s H E).env (cxF P w K mg base N qual st f cdv A outer s H E).xe →
      ∃ t, SSs (cxF P w K mg base N qual st f cdv A outer s H E) (ctF K cv E) (defBody st) t g) :
    FnOk P w K mg base (L2.CX P w) (k + 1) f fd ps (spF K cv ps.length (fnF N.length ps.length g)) := by
  have hpl : ps.length ≤ N.length := by have := congrArg List.length S.pre; rw [List.length_take] at this; omega
  refine F.okX S (fun vs H Q E h => ?_) (fun cdv A outer s H vs Q E hr h => ?_)
  · obtain ⟨ρ, B, hl, Sm, _⟩ := h
    have := Sm.len
    rw [List.length_map] at this
    omega
  · obtain ⟨ρ, B, hl, Sm, gd⟩ := h
    have hv : vs.length = ps.length := by
      have := Sm.len
      rw [List.length_map] at this
      omega
    obtain ⟨t, ht⟩ := hb cdv A outer s H E hr (takes_of rfl rfl rfl rfl) (passes_of rfl)
    refine ⟨t, ht.ps, ht.lk (ρ ++ List.replicate (N.length - ps.length) none) _ B H _ (by rw [← hv]; exact entry_sim Sm (by omega)) ?_⟩
    unfold fnF at gd
    cases eg : g (ρ ++ List.replicate (N.length - ps.length) none) with
    | stuck => rw [eg] at gd; exact gd
    | bk _ => rw [eg] at gd; exact gd.elim
    | ct _ => rw [eg] at gd; exact gd.elim
    | nx ρ1 =>
      rw [eg] at gd
      intro σ1 B1 H1 S1 x1
      obtain ⟨S2, x2, _, _⟩ := exit_sim Sm hl S1 x1
      exact gd .non B1 H1 S2 x2 .non
    | exc c ρ1 =>
      rw [eg] at gd
      intro cls dct σ1 B1 H1 S1 x1 ok
      obtain ⟨S2, x2, _, _⟩ := exit_sim Sm hl S1 x1
      exact gd cls dct B1 H1 S2 x2 ok
    | rt h ρ1 =>
      rw [eg] at gd
      intro v σ1 B1 H1 S1 x1 y1
      obtain ⟨S2, x2, n1, n2⟩ := exit_sim Sm hl S1 x1
      cases h with
      | sh d => exact gd v B1 H1 S2 x2 y1
      | fr d =>
        obtain ⟨a, r1, r2, r3, r4, r5⟩ := y1
        exact gd v B1 H1 S2 x2 ⟨a, r1, r2, r3, fun z => r4 (n1 a z), n2 a r5⟩
      | bw i => exact gd.elim
theorem fn_zero {f : Addr} {fd : FuncData} {ps : List Str} {n : Nat} (hn : n = ps.length) : FnOk P w K mg base (L2.CX P w) 0 f fd ps (spF K cv n fun _ => .stuck) :=
  ⟨fun vs H Q E ⟨_, _, _, _, h⟩ => h.elim, fun A outer s H args us vs Q E _ _ _ _ ⟨_, _, _, _, h⟩ => h.elim⟩
theorem rpl_ints {B : Hp} : ∀ ns : List Int, RpL K B (ns.map V.int) (ns.map PyData.int)
  | [] => .nil
  | n :: ns => .cons (.int n) (rpl_ints ns)
/-- the law's promise from what it computes -/
theorem law_sp {F : FF} {H : Hp} {a : Addr} {ns : List Int} {outs : Rho} (h : SqL K H a (ns.map V.int)) (e : F [some ⟨.list (ns.map .int), .sh⟩] = .ok (.sh (.bool true)) outs) {E : XK} :
    spF K cv 1 F [.ref a] H (fun v _ => v = .bl true) E := by
  refine ⟨[some ⟨.list (ns.map .int), .sh⟩], H, rfl, ⟨Same.refl H, rfl, fun i c hi => ?_, fun i j ci cj b hi hj ni nj _ _ => ?_⟩, ?_⟩
  · match i, hi with
    | 0, hi =>
      cases hi
      exact ⟨.ref a, rfl, .inl ⟨rfl, .lst h (rpl_ints ns)⟩⟩
    | i + 1, hi => simp at hi
  · match i, hi with
    | 0, hi =>
      cases hi
      exact absurd rfl ni
    | i + 1, hi => simp at hi
  · rw [e]
    intro v B' H' S x y
    cases (show Rp K B' v (.bool true) from y)
    rfl
end
end GS
namespace GS
open PySem L2
section
variable {X : Cx} {C : Ct} {ρ ρ1 : Rho} {σ σ1 σ' : St} {B H B1 H1 : Hp} {e tg : Expr} {te : TE} {fe : EF} {pos p : Pos} {vs : List Nat} {K : KW}
/-- a name handed back: its own list is given away -/
def eRv (i : Nat) : EF := fun ρ => match slot ρ i with
  | some ⟨d, .sh⟩ => .ok (.sh d) ρ
  | some ⟨d, .ow⟩ => .ok (.fr d) (ρ.set i none)
  | _ => .stuck
theorem lk_rv {i : Nat} : LkE C (tVar i) (eRv i) := fun ρ σ B H Q S g => by
  unfold eRv at g
  cases h : slot ρ i with
  | none => rw [h] at g; exact g.elim
  | some c =>
    rw [h] at g
    obtain ⟨d, fl⟩ := c
    have hi := slot_some h
    cases fl with
    | sh =>
      obtain ⟨v, e, q⟩ := S.sl i _ hi
      rcases q with ⟨_, q⟩ | ⟨q, _⟩
      · exact ⟨v, e, g v B H S Ext.refl q⟩
      · exact absurd rfl q
    | ow =>
      obtain ⟨a, e, S1, x1, r⟩ := S.give hi
      exact ⟨.ref a, e, g _ B H S1 x1 r⟩
    | io => exact g.elim
theorem se_rv (i : Nat) {x : Str} (hN : X.N[i]? = some x := by rfl) (hv : Vis X.env.scope x := by first | exact Or.inl rfl | exact Or.inr (Or.inl rfl) | exact Or.inr (Or.inr rfl)) (hd : (x == ("__debug__" : Str)) = false := by decide)
    (hcd : (x == ("__classdict__" : Str)) = false := by decide) : SE X C (.Name x pos) (tVar i) (eRv i) := ⟨pe_var hN hv hd hcd, lk_rv⟩
/-- targets and tests of a comprehension -/
structure SGw (X : Cx) (C : Ct) (vs : List Nat) (tg : Expr) (t : TG) (f : D → Rho → Option Rho) : Prop where
  pg : PG X tg t
  lk : LkGw C vs t f
structure SGws (X : Cx) (C : Ct) (vs : List Nat) (tg : List Expr) (t : TGs) (f : List D → Rho → Option Rho) : Prop where
  pg : PGs X tg t
  lk : LkGws C vs t f
theorem sgw_name {i : Nat} {x : Str} (hN : X.N.Nodup) (hm : i ∈ vs := by simp) (hi : X.N[i]? = some x := by rfl) (hx : Loc X.env.scope x := by first | exact Or.inl rfl | exact Or.inr rfl)
    (hf : X.fn x = true ∨ X.env.scope.names.lookup x = some .local := by first | exact .inl rfl | exact .inr rfl | assumption) : SGw X C vs (.Name x pos) (gName i) (gN i) := ⟨pg_name hN hi hx hf, lkw_N hm⟩
theorem sgws_nil : SGws X C vs [] gNil gsN := ⟨pgs_nil, lkw_nil⟩
theorem sgws_cons {a : Expr} {as : List Expr} {tg : TG} {tgs : TGs} {f : D → Rho → Option Rho} {g : List D → Rho → Option Rho} (h : SGw X C vs a tg f) (t : SGws X C vs as tgs g) (hs : (assignEach (a :: as) X.env).map (·.2) = assign a X.env :: (assignEach as X.env).map (·.2) := by rfl) : SGws X C vs (a :: as) (gCons tg tgs) (gsC f g) := ⟨pgs_cons h.pg t.pg hs, lkw_C h.lk t.lk⟩
theorem sgw_tup {as : List Expr} {tgs : TGs} {n k : Nat} {g : List D → Rho → Option Rho} (hc : X.calm = true) (t : SGws X C vs as tgs g) (hk : X.K = C.K := by rfl) (hn : (assignEach as X.env).length = n := by rfl) (hst : (assignEach as X.env).findIdx? (·.1) = none := by rfl) : SGw X C vs (.Tuple as k pos) (gTL C.K n tgs) (gT n g) := ⟨by rw [← hk]; exact pg_tl hc t.pg hn hst, lkw_T t.lk⟩
structure SP (X : Cx) (C : Ct) (ifs : List Expr) (t : TT) (f : EF) : Prop where
  pt : PTs X ifs t
  lk : LkT C t f
def eYes : EF := fun ρ => .ok (.sh (.bool true)) ρ
theorem sp_nil : SP X C [] tYes eYes := ⟨pts_nil, fun ρ σ B H Q S g => g B H S Ext.refl⟩
theorem sp_one {t : TT} {f : EF} (h : ST X C e t f) : SP X C [e] t f := ⟨pts_one h.pt, h.lk⟩
abbrev bk (X : Cx) (scope : Scope) (s : Shared) (H : Hp) (c : Addr) (cl : List (Str × Addr)) (fp : List Addr) : Cx := X.blk s H scope (compEnvC scope cl c X.env) fp
theorem se_comp {elt it : Expr} {ifs : List Expr} {scope : Scope} {own : List (Str × Nat)} {w : TI} {tgt : TG} {tt : TT} {fi : IF} {g : D → Rho → Option Rho} {ft : EF} (hc : X.calm = true) (hN : X.N.Nodup) (ok : BlkOk X.N X.env.scope scope own) (li : SI X C tg it w fi)
    (hg : ∀ s H c cl fp, SGw (bk X scope s H c cl fp) C (own.map (·.2)) tg tgt g) (ht : ∀ s H c cl fp, SP (bk X scope s H c cl fp) C.nox ifs tt ft) (he : ∀ s H c cl fp, SE (bk X scope s H c cl fp) C.nox elt te fe)
    (hs : ∀ x, foldedSetIterable it X.env x = pure x := by intro _; rfl) : SE X C (.ListComp elt [⟨tg, it, ifs, 0⟩] scope pos) (tLc w tgt tt te (own.map (·.2))) (eLc (own.map (·.2)) fi g (eNox ft) (eNox fe)) :=
  se_lc hc hN li ok (fun s H c cl fp => (hg s H c cl fp).pg) (hg X.s_0 X.H_0 0 [] []).lk (fun s H c cl fp => (ht s H c cl fp).pt) (ht X.s_0 X.H_0 0 [] []).lk (fun s H c cl fp => (he s H c cl fp).pe) (he X.s_0 X.H_0 0 [] []).lk hs
/-- x = [..] -/
theorem ss_setLc {i : Nat} {y : Str} {py spos : Pos} {elt it : Expr} {ifs : List Expr} {scope : Scope} {own : List (Str × Nat)} {w : TI} {tgt : TG} {tt : TT} {fi : IF} {g : D → Rho → Option Rho} {ft : EF} (hc : X.calm = true) (hN : X.N.Nodup) (ok : BlkOk X.N X.env.scope scope own) (li : SI X C tg it w fi)
    (hg : ∀ s H c cl fp, SGw (bk X scope s H c cl fp) C (own.map (·.2)) tg tgt g) (ht : ∀ s H c cl fp, SP (bk X scope s H c cl fp) C.nox ifs tt ft) (he : ∀ s H c cl fp, SE (bk X scope s H c cl fp) C.nox elt te fe)
    (hsw : swapsWith (.ListComp elt [⟨tg, it, ifs, 0⟩] scope pos) (some (.Name y py)) spos.line X.env = pure true) (hy : X.N[i]? = some y := by rfl) (hyl : X.env.scope.names.lookup y = some .local := by rfl)
    (hs : ∀ x, foldedSetIterable it X.env x = pure x := by intro _; rfl) : SS X C (.Assign [.Name y py] (.ListComp elt [⟨tg, it, ifs, 0⟩] scope pos) spos) (tAsg (tLc w tgt tt te (own.map (·.2))) (gName i)) (sSet i (eLc (own.map (·.2)) fi g (eNox ft) (eNox fe))) :=
  ⟨ps_setLc hc hN hy hyl hsw li.pi ok (fun s H c cl fp => (hg s H c cl fp).pg) (fun s H c cl fp => (ht s H c cl fp).pt) (fun s H c cl fp => (he s H c cl fp).pe) hs,
    lk_set (lk_lc li.lk (hg X.s_0 X.H_0 0 [] []).lk (ht X.s_0 X.H_0 0 [] []).lk (he X.s_0 X.H_0 0 [] []).lk)⟩
theorem se_gstr {x z : Str} (h : ∃ t, X.mg x = some (Value.str z t)) (hg : Gl X x := by rfl) (hd : (x == ("__debug__" : Str)) = false := by decide) : SE X C (.Name x pos) (tC (.str z)) (eC (.str z)) := by
  obtain ⟨t, hm⟩ := h
  exact se_glob hm ⟨t, rfl⟩ (fun _ => .str z) hg hd
theorem se_gint {x : Str} {i : Int} (h : ∃ t, X.mg x = some (Value.int i t)) (hg : Gl X x := by rfl) (hd : (x == ("__debug__" : Str)) = false := by decide) : SE X C (.Name x pos) (tC (.int i)) (eC (.int i)) := by
  obtain ⟨t, hm⟩ := h
  exact se_glob hm ⟨t, rfl⟩ (fun _ => .int i) hg hd
end
theorem fn_of' {P : Program} {w : World} {K : KW} {mg : Str → Option Value} {base : Heap} {cv : Str → Value} {x qual : Str} {st : Stmt} {f : Addr} {fd : FuncData} (N : List Str) {ps : List Str} {k m n : Nat} {g : SF} (hm : N.length = m) (hn : ps.length = n) (F : Fun K x qual st f fd) (S : FnScope N ps (defScope st))
    (hb : ∀ (cdv : Value) (A : Around) (outer : List Env) (s : Shared) (H : Hp) (E : XK), Room k (cxF P w K mg base N qual st f cdv A outer s H E).A → Takes (cxF P w K mg base N qual st f cdv A outer s H E) (ctF K cv E).W →
      PassesOwn (model P w) (cxF P w K mg base N qual st f cdv A outer s H E).A (cxF P w K mg base N qual st f cdv A outer s H E).env (cxF P w K mg base N qual st f cdv A outer s H E).xe →
      ∃ t, SSs (cxF P w K mg base N qual st f cdv A outer s H E) (ctF K cv E) (defBody st) t g) :
    FnOk P w K mg base (L2.CX P w) (k + 1) f fd ps (spF K cv n (fnF m n g)) := by
  subst hm hn
  exact fn_mk F S hb
end GS
namespace GS
open PySem L2
section
variable {ρ ρ1 : Rho} {c : Prop} [Decidable c]
@[simp] theorem bindE_ok (h : Hd) (k : Hd → Rho → RE) : bindE (.ok h ρ) k = k h ρ := rfl
@[simp] theorem bindE_st (k : Hd → Rho → RE) : bindE .stuck k = .stuck := rfl
@[simp] theorem bindE_ex (x : Xc) (k : Hd → Rho → RE) : bindE (.exc x ρ) k = .exc x ρ := rfl
@[simp] theorem bindE_if (a b : RE) (k : Hd → Rho → RE) : bindE (if c then a else b) k = if c then bindE a k else bindE b k := by split <;> rfl
@[simp] theorem bindB_ok (b : Bool) (k : Bool → Rho → RE) : bindB (.ok (.sh (.bool b)) ρ) k = k b ρ := rfl
@[simp] theorem bindB_st (k : Bool → Rho → RE) : bindB .stuck k = .stuck := rfl
@[simp] theorem bindB_ex (x : Xc) (k : Bool → Rho → RE) : bindB (.exc x ρ) k = .exc x ρ := rfl
@[simp] theorem bindB_if (a b : RE) (k : Bool → Rho → RE) : bindB (if c then a else b) k = if c then bindB a k else bindB b k := by split <;> rfl
@[simp] theorem bindA_ok (h : List Hd) (k : List Hd → Rho → RE) : bindA (.ok h ρ) k = k h ρ := rfl
@[simp] theorem bindA_st (k : List Hd → Rho → RE) : bindA .stuck k = .stuck := rfl
@[simp] theorem bindA_ex (x : Xc) (k : List Hd → Rho → RE) : bindA (.exc x ρ) k = .exc x ρ := rfl
@[simp] theorem bindA_if (a b : RA) (k : List Hd → Rho → RE) : bindA (if c then a else b) k = if c then bindA a k else bindA b k := by split <;> rfl
@[simp] theorem bindES_ok (h : Hd) (k : Hd → Rho → RS) : bindES (.ok h ρ) k = k h ρ := rfl
@[simp] theorem bindES_st (k : Hd → Rho → RS) : bindES .stuck k = .stuck := rfl
@[simp] theorem bindES_ex (x : Xc) (k : Hd → Rho → RS) : bindES (.exc x ρ) k = .exc x ρ := rfl
@[simp] theorem bindES_if (a b : RE) (k : Hd → Rho → RS) : bindES (if c then a else b) k = if c then bindES a k else bindES b k := by split <;> rfl
@[simp] theorem bindBS_ok (b : Bool) (k : Bool → Rho → RS) : bindBS (.ok (.sh (.bool b)) ρ) k = k b ρ := rfl
@[simp] theorem bindBS_st (k : Bool → Rho → RS) : bindBS .stuck k = .stuck := rfl
@[simp] theorem bindBS_ex (x : Xc) (k : Bool → Rho → RS) : bindBS (.exc x ρ) k = .exc x ρ := rfl
@[simp] theorem bindBS_if (a b : RE) (k : Bool → Rho → RS) : bindBS (if c then a else b) k = if c then bindBS a k else bindBS b k := by split <;> rfl
@[simp] theorem bindEI_ok (h : Hd) (k : Hd → Rho → RI) : bindEI (.ok h ρ) k = k h ρ := rfl
@[simp] theorem bindEI_st (k : Hd → Rho → RI) : bindEI .stuck k = .stuck := rfl
@[simp] theorem bindEI_ex (x : Xc) (k : Hd → Rho → RI) : bindEI (.exc x ρ) k = .exc x ρ := rfl
@[simp] theorem bindEI_if (a b : RE) (k : Hd → Rho → RI) : bindEI (if c then a else b) k = if c then bindEI a k else bindEI b k := by split <;> rfl
@[simp] theorem bindS_nx (k : Rho → RS) : bindS (.nx ρ) k = k ρ := rfl
@[simp] theorem bindS_st (k : Rho → RS) : bindS .stuck k = .stuck := rfl
@[simp] theorem bindS_rt (h : Hd) (k : Rho → RS) : bindS (.rt h ρ) k = .rt h ρ := rfl
@[simp] theorem bindS_ex (x : Xc) (k : Rho → RS) : bindS (.exc x ρ) k = .exc x ρ := rfl
@[simp] theorem bindS_bk (k : Rho → RS) : bindS (.bk ρ) k = .bk ρ := rfl
@[simp] theorem bindS_ct (k : Rho → RS) : bindS (.ct ρ) k = .ct ρ := rfl
@[simp] theorem bindS_if (a b : RS) (k : Rho → RS) : bindS (if c then a else b) k = if c then bindS a k else bindS b k := by split <;> rfl
@[simp] theorem slot_nil (i : Nat) : slot [] i = none := rfl
@[simp] theorem slot_zero (x : Option Cel) : slot (x :: ρ) 0 = x := by cases x <;> rfl
@[simp] theorem slot_succ (x : Option Cel) (i : Nat) : slot (x :: ρ) (i + 1) = slot ρ i := rfl
@[simp] theorem getH_sh (d : D) : getH ρ (.sh d) = some d := rfl
@[simp] theorem getH_fr (d : D) : getH ρ (.fr d) = some d := rfl
@[simp] theorem getH_bw (i : Nat) : getH ρ (.bw i) = (slot ρ i).map (·.d) := rfl
@[simp] theorem setl_sh (d : D) : setl (.sh d) = .sh d := rfl
@[simp] theorem setl_fr (d : D) : setl (.fr d) = .sh d := rfl
@[simp] theorem setl_bw (i : Nat) : setl (.bw i) = .bw i := rfl
@[simp] theorem capH_sh (d : D) : capH ρ (.sh d) = some d := rfl
@[simp] theorem capH_fr (d : D) : capH ρ (.fr d) = some d := rfl
@[simp] theorem capH_bw (i : Nat) : capH ρ (.bw i) = match slot ρ i with | some ⟨d, .sh⟩ => some d | _ => none := rfl
@[simp] theorem eC_eq (d : D) : eC d ρ = .ok (.sh d) ρ := rfl
@[simp] theorem eVb_eq (i : Nat) : eVb i ρ = match slot ρ i with | some _ => .ok (.bw i) ρ | none => .stuck := rfl
@[simp] theorem eMv_eq (i : Nat) : eMv i ρ = match slot ρ i with | some ⟨d, .sh⟩ => .ok (.sh d) ρ | some ⟨d, .ow⟩ => .ok (.sh d) (ρ.set i (some ⟨d, .sh⟩)) | _ => .stuck := rfl
@[simp] theorem eRv_eq (i : Nat) : eRv i ρ = match slot ρ i with | some ⟨d, .sh⟩ => .ok (.sh d) ρ | some ⟨d, .ow⟩ => .ok (.fr d) (ρ.set i none) | _ => .stuck := rfl
@[simp] theorem eCap_eq (f : EF) : eCap f ρ = bindE (f ρ) fun h ρ' => match capH ρ' h with | some d => .ok (.sh d) ρ' | none => .stuck := rfl
@[simp] theorem eSet_eq (f : EF) : eSet f ρ = bindE (f ρ) fun h ρ' => .ok (setl h) ρ' := rfl
/-- of two data -/
def resO (o : Option Hd) (ρ : Rho) : RE := match o with | some h => .ok h ρ | none => .stuck
@[simp] theorem resO_s (h : Hd) : resO (some h) ρ = .ok h ρ := rfl
@[simp] theorem resO_n : resO none ρ = .stuck := rfl
@[simp] theorem resO_if (a b : Option Hd) : resO (if c then a else b) ρ = if c then resO a ρ else resO b ρ := by split <;> rfl
def bin2 (o : D → D → Option Hd) (a b : Option D) (ρ : Rho) : RE := match a, b with
  | some x, some y => resO (o x y) ρ
  | _, _ => .stuck
@[simp] theorem bin2_s (o : D → D → Option Hd) (x y : D) : bin2 o (some x) (some y) ρ = resO (o x y) ρ := rfl
@[simp] theorem eBin_eq (o : D → D → Option Hd) (f g : EF) : eBin o f g ρ = bindE (eSet f ρ) fun ha ρ1 => bindE (eSet g ρ1) fun hb ρ2 => bin2 o (getH ρ2 ha) (getH ρ2 hb) ρ2 := by
  unfold eBin bin2 resO
  rfl
def chn (o' : D → D → Option Hd) (hb : Hd) (fc : EF) (r : Option Hd) (ρ2 : Rho) : RE := match r with
  | some (.sh (.bool b)) => if b then bindE (eSet fc ρ2) (fun hc ρ3 => bin2 o' (getH ρ3 hb) (getH ρ3 hc) ρ3) else .ok (.sh (.bool false)) ρ2
  | _ => .stuck
@[simp] theorem chn_b (o' : D → D → Option Hd) (hb : Hd) (fc : EF) (b : Bool) : chn o' hb fc (some (.sh (.bool b))) ρ = if b then bindE (eSet fc ρ) (fun hc ρ3 => bin2 o' (getH ρ3 hb) (getH ρ3 hc) ρ3) else .ok (.sh (.bool false)) ρ := rfl
def chn0 (o o' : D → D → Option Hd) (hb : Hd) (fc : EF) (a b : Option D) (ρ2 : Rho) : RE := match a, b with
  | some x, some y => chn o' hb fc (o x y) ρ2
  | _, _ => .stuck
@[simp] theorem chn0_s (o o' : D → D → Option Hd) (hb : Hd) (fc : EF) (x y : D) : chn0 o o' hb fc (some x) (some y) ρ = chn o' hb fc (o x y) ρ := rfl
@[simp] theorem eChain_eq (o o' : D → D → Option Hd) (fa fb fc : EF) : eChain o o' fa fb fc ρ = bindE (eSet fa ρ) fun ha ρ1 => bindE (eSet fb ρ1) fun hb ρ2 => chn0 o o' hb fc (getH ρ2 ha) (getH ρ2 hb) ρ2 := by
  unfold eChain chn0 chn bin2 resO
  rfl
def tst (d : Option D) (ρ : Rho) : RE := match d with
  | some (.bool b) => .ok (.sh (.bool b)) ρ
  | _ => .stuck
@[simp] theorem tst_b (b : Bool) : tst (some (.bool b)) ρ = .ok (.sh (.bool b)) ρ := rfl
@[simp] theorem eB_eq (f : EF) : eB f ρ = bindE (eSet f ρ) fun h ρ1 => tst (getH ρ1 h) ρ1 := by unfold eB tst; rfl
@[simp] theorem eNot_eq (f : EF) : eNot f ρ = bindB (f ρ) fun b ρ1 => .ok (.sh (.bool (!b))) ρ1 := rfl
@[simp] theorem eAnd_eq (f g : EF) : eAnd f g ρ = bindB (f ρ) fun b ρ1 => if b then g ρ1 else .ok (.sh (.bool false)) ρ1 := rfl
@[simp] theorem eOr_eq (f g : EF) : eOr f g ρ = bindB (f ρ) fun b ρ1 => if b then .ok (.sh (.bool true)) ρ1 else g ρ1 := rfl
@[simp] theorem eIf_eq (f g h : EF) : eIf f g h ρ = bindB (f ρ) fun b ρ1 => if b then g ρ1 else h ρ1 := rfl
@[simp] theorem ePart_n (k : Option Int → Rho → RE) : ePart none ρ k = k none ρ := rfl
def partR (d : Option D) (ρ : Rho) (k : Option Int → Rho → RE) : RE := match d with
  | some (.int i) => k (some i) ρ
  | _ => .stuck
@[simp] theorem partR_i (i : Int) (k : Option Int → Rho → RE) : partR (some (.int i)) ρ k = k (some i) ρ := rfl
@[simp] theorem ePart_s (f : EF) (k : Option Int → Rho → RE) : ePart (some f) ρ k = bindE (eSet f ρ) fun h ρ1 => partR (getH ρ1 h) ρ1 k := by unfold ePart partR; rfl
@[simp] theorem eSl_eq (fe : EF) (fl fh : Option EF) : eSl fe fl fh ρ = bindE (eSet fe ρ) fun h ρ1 => ePart fl ρ1 fun lo ρ2 => ePart fh ρ2 fun hi ρ3 => resO ((getH ρ3 h).bind (slD lo hi)) ρ3 := by unfold eSl resO; rfl
@[simp] theorem aNil_eq : aNil ρ = .ok [] ρ := rfl
def consA (h : Hd) (r : RA) : RA := match r with
  | .stuck => .stuck
  | .exc x ρ2 => .exc x ρ2
  | .ok hs ρ2 => .ok (h :: hs) ρ2
def bindEA (r : RE) (k : Hd → Rho → RA) : RA := match r with
  | .stuck => .stuck
  | .exc x ρ1 => .exc x ρ1
  | .ok h ρ1 => k h ρ1
@[simp] theorem bindEA_ok (h : Hd) (k : Hd → Rho → RA) : bindEA (.ok h ρ) k = k h ρ := rfl
@[simp] theorem bindEA_st (k : Hd → Rho → RA) : bindEA .stuck k = .stuck := rfl
@[simp] theorem bindEA_ex (x : Xc) (k : Hd → Rho → RA) : bindEA (.exc x ρ) k = .exc x ρ := rfl
@[simp] theorem bindEA_if (a b : RE) (k : Hd → Rho → RA) : bindEA (if c then a else b) k = if c then bindEA a k else bindEA b k := by split <;> rfl
@[simp] theorem consA_ok (h : Hd) (hs : List Hd) : consA h (.ok hs ρ) = .ok (h :: hs) ρ := rfl
@[simp] theorem consA_st (h : Hd) : consA h .stuck = .stuck := rfl
@[simp] theorem consA_if (h : Hd) (a b : RA) : consA h (if c then a else b) = if c then consA h a else consA h b := by split <;> rfl
@[simp] theorem aCons_eq (f : EF) (g : AF) : aCons f g ρ = bindEA (eSet f ρ) fun h ρ1 => consA h (g ρ1) := by unfold aCons bindEA consA; rfl
@[simp] theorem shs_nil : shs [] = some [] := rfl
@[simp] theorem shs_cons (d : D) (hs : List Hd) : shs (.sh d :: hs) = (shs hs).map (d :: ·) := rfl
def tupR (d : Option (List D)) (ρ : Rho) : RE := match d with
  | some ds => if ds.length ≤ 1000 then .ok (.sh (.tuple ds)) ρ else .stuck
  | none => .stuck
def lstR (d : Option (List D)) (ρ : Rho) : RE := match d with
  | some ds => if ds.length ≤ 1000 then .ok (.fr (.list ds)) ρ else .stuck
  | none => .stuck
@[simp] theorem tupR_s (ds : List D) : tupR (some ds) ρ = if ds.length ≤ 1000 then .ok (.sh (.tuple ds)) ρ else .stuck := rfl
@[simp] theorem lstR_s (ds : List D) : lstR (some ds) ρ = if ds.length ≤ 1000 then .ok (.fr (.list ds)) ρ else .stuck := rfl
@[simp] theorem eTup_eq (f : AF) : eTup f ρ = bindA (f ρ) fun hs ρ1 => tupR (shs hs) ρ1 := by unfold eTup tupR; rfl
@[simp] theorem eLst_eq (f : AF) : eLst f ρ = bindA (f ρ) fun hs ρ1 => lstR (shs hs) ρ1 := by unfold eLst lstR; rfl
@[simp] theorem gets_nil : gets ρ [] = some [] := rfl
def cons2 (a : Option D) (b : Option (List D)) : Option (List D) := match a, b with
  | some d, some ds => some (d :: ds)
  | _, _ => none
@[simp] theorem cons2_s (d : D) (ds : List D) : cons2 (some d) (some ds) = some (d :: ds) := rfl
@[simp] theorem gets_cons (h : Hd) (hs : List Hd) : gets ρ (h :: hs) = cons2 (getH ρ h) (gets ρ hs) := by
  unfold cons2
  rw [gets]
  try rfl
@[simp] theorem eCB_eq (o : List D → Option Hd) (f : AF) : eCB o f ρ = bindA (f ρ) fun hs ρ1 => resO ((gets ρ1 hs).bind o) ρ1 := by unfold eCB resO; rfl
@[simp] theorem un1_1 (o : D → Option Hd) (d : D) : un1 o [d] = o d := rfl
@[simp] theorem un2_2 (o : D → D → Option Hd) (d e : D) : un2 o [d, e] = o d e := rfl
def isiR (p : D → Bool) (d : Option D) (ρ : Rho) : RE := match d with
  | some d => .ok (.sh (.bool (p d))) ρ
  | none => .stuck
@[simp] theorem isiR_s (p : D → Bool) (d : D) : isiR p (some d) ρ = .ok (.sh (.bool (p d))) ρ := rfl
@[simp] theorem eIsi_eq (p : D → Bool) (f : EF) : eIsi p f ρ = bindE (eSet f ρ) fun h ρ1 => isiR p (getH ρ1 h) ρ1 := by unfold eIsi isiR; rfl
@[simp] theorem isTup_t (ds : List D) : isTup (.tuple ds) = true := rfl
@[simp] theorem isBool_b (b : Bool) : isBool (.bool b) = true := rfl
@[simp] theorem isStr_s (b : Str) : isStr (.str b) = true := rfl
@[simp] theorem sNil_eq : sNil ρ = .nx ρ := rfl
@[simp] theorem sSeq_eq (f g : SF) : sSeq f g ρ = bindS (f ρ) g := rfl
def retR (h : Hd) (ρ : Rho) : RS := match h with
  | .bw i => match capH ρ (.bw i) with
    | some d => .rt (.sh d) ρ
    | none => .stuck
  | h => .rt h ρ
@[simp] theorem retR_sh (d : D) : retR (.sh d) ρ = .rt (.sh d) ρ := rfl
@[simp] theorem retR_fr (d : D) : retR (.fr d) ρ = .rt (.fr d) ρ := rfl
@[simp] theorem sRet_eq (f : EF) : sRet f ρ = bindES (f ρ) retR := by unfold sRet; rfl
@[simp] theorem sIf_eq (ft : EF) (f g : SF) : sIf ft f g ρ = bindBS (ft ρ) fun b ρ1 => if b then f ρ1 else g ρ1 := rfl
@[simp] theorem ioAt_nil (i : Nat) : ioAt [] i = false := rfl
@[simp] theorem ioAt_zn : ioAt (none :: ρ) 0 = false := rfl
@[simp] theorem ioAt_zs (d : D) : ioAt (some ⟨d, .sh⟩ :: ρ) 0 = false := rfl
@[simp] theorem ioAt_zo (d : D) : ioAt (some ⟨d, .ow⟩ :: ρ) 0 = false := rfl
@[simp] theorem ioAt_succ (x : Option Cel) (i : Nat) : ioAt (x :: ρ) (i + 1) = ioAt ρ i := rfl
@[simp] theorem sSet_eq (i : Nat) (f : EF) : sSet i f ρ = bindES (f ρ) fun h ρ1 => setHd ρ1 i h := rfl
@[simp] theorem setHd_sh (i : Nat) (d : D) : setHd ρ i (.sh d) = setR ρ i ⟨d, .sh⟩ := rfl
@[simp] theorem setHd_fr (i : Nat) (d : D) : setHd ρ i (.fr d) = setR ρ i ⟨d, .ow⟩ := rfl
def bindI (r : RI) (k : List D → Rho → RS) : RS := match r with
  | .stuck => .stuck
  | .exc x ρ1 => .exc x ρ1
  | .ok ds ρ1 => k ds ρ1
@[simp] theorem bindI_ok (ds : List D) (k : List D → Rho → RS) : bindI (.ok ds ρ) k = k ds ρ := rfl
@[simp] theorem bindI_st (k : List D → Rho → RS) : bindI .stuck k = .stuck := rfl
@[simp] theorem bindI_if (a b : RI) (k : List D → Rho → RS) : bindI (if c then a else b) k = if c then bindI a k else bindI b k := by split <;> rfl
@[simp] theorem sFor_eq (fi : IF) (g : D → Rho → Option Rho) (b : SF) : sFor fi g b ρ = bindI (fi ρ) fun ds ρ1 => forL g b ds ρ1 := by unfold sFor bindI; rfl
def seqR (h : Hd) (ρ : Rho) : RI := match h with
  | .sh d => match items d with
    | some ds => .ok ds ρ
    | none => .stuck
  | _ => .stuck
@[simp] theorem seqR_l (ds : List D) : seqR (.sh (.list ds)) ρ = .ok ds ρ := rfl
@[simp] theorem seqR_t (ds : List D) : seqR (.sh (.tuple ds)) ρ = .ok ds ρ := rfl
@[simp] theorem seqR_s (z : Str) : seqR (.sh (.str z)) ρ = .ok (z.cps.toList.map fun c => .str ⟨#[c]⟩) ρ := rfl
@[simp] theorem iSq_eq (f : EF) : iSq f ρ = bindEI (eCap f ρ) seqR := by unfold iSq; rfl
def rgR (d : Option D) (ρ : Rho) : RI := match d with
  | some (.int j) => if okR j then .ok (rgD 0 j.toNat) ρ else .stuck
  | _ => .stuck
@[simp] theorem rgR_i (j : Int) : rgR (some (.int j)) ρ = if okR j then .ok (rgD 0 j.toNat) ρ else .stuck := rfl
@[simp] theorem iR1_eq (f : EF) : iR1 f ρ = bindEI (eSet f ρ) fun h ρ1 => rgR (getH ρ1 h) ρ1 := by unfold iR1 rgR; rfl
def bindIE (r : RI) (k : List D → Rho → RE) : RE := match r with
  | .stuck => .stuck
  | .exc x ρ1 => .exc x ρ1
  | .ok ds ρ1 => k ds ρ1
@[simp] theorem bindIE_ok (ds : List D) (k : List D → Rho → RE) : bindIE (.ok ds ρ) k = k ds ρ := rfl
@[simp] theorem bindIE_st (k : List D → Rho → RE) : bindIE .stuck k = .stuck := rfl
@[simp] theorem bindIE_if (a b : RI) (k : List D → Rho → RE) : bindIE (if c then a else b) k = if c then bindIE a k else bindIE b k := by split <;> rfl
@[simp] theorem eLc_eq (vs : List Nat) (fi : IF) (g : D → Rho → Option Rho) (ft fe : EF) : eLc vs fi g ft fe ρ = bindIE (fi ρ) fun ds ρ1 => if vs.all fun i => !ioAt ρ1 i then lcL vs g ft fe ds [] (wipeR ρ1 vs) else .stuck := by unfold eLc bindIE; rfl
@[simp] theorem eNox_eq (f : EF) : eNox f ρ = match f ρ with | .exc _ _ => .stuck | r => r := rfl
@[simp] theorem wipeR_nil : wipeR ρ [] = ρ := rfl
@[simp] theorem wipeR_cons (v : Nat) (vs : List Nat) : wipeR ρ (v :: vs) = (wipeR ρ vs).set v none := rfl
@[simp] theorem addD_i (i j : Int) : addD (.int i) (.int j) = some (.sh (.int (i + j))) := rfl
@[simp] theorem addD_s (i j : Str) : addD (.str i) (.str j) = if i.length + j.length ≤ sizeLine then some (.sh (.str (i ++ j))) else none := rfl
@[simp] theorem addD_t (i j : List D) : addD (.tuple i) (.tuple j) = if i.length + j.length ≤ sizeLine then some (.sh (.tuple (i ++ j))) else none := rfl
@[simp] theorem addD_l (i j : List D) : addD (.list i) (.list j) = if i.length + j.length ≤ sizeLine then some (.fr (.list (i ++ j))) else none := rfl
@[simp] theorem subD_i (i j : Int) : subD (.int i) (.int j) = some (.sh (.int (i - j))) := rfl
theorem mulD_i (i j : Int) : mulD (.int i) (.int j) = if cMul i j then some (.sh (.int (i * j))) else none := rfl
theorem divD_i (i j : Int) : divD (.int i) (.int j) = if decide (0 < j) && Nat.ble j.natAbs 1073741823 then some (.sh (.int (i / j))) else none := rfl
theorem modD_i (i j : Int) : modD (.int i) (.int j) = if decide (0 < j) then some (.sh (.int (i % j))) else none := rfl
@[simp] theorem resO_div {i j : Int} (h0 : 0 < j) (h1 : j < 1073741824) : resO (divD (.int i) (.int j)) ρ = .ok (.sh (.int (i / j))) ρ := by
  rw [divD_i, decide_eq_true h0, Nat.ble_eq_true_of_le (show j.natAbs ≤ 1073741823 by omega)]; rfl
@[simp] theorem resO_mod {i j : Int} (h0 : 0 < j) : resO (modD (.int i) (.int j)) ρ = .ok (.sh (.int (i % j))) ρ := by
  rw [modD_i, decide_eq_true h0]; rfl
@[simp] theorem resO_mul {i j : Int} (h : cMul i j = true) : resO (mulD (.int i) (.int j)) ρ = .ok (.sh (.int (i * j))) ρ := by
  rw [mulD_i, h]; rfl
theorem powD_i (i j : Int) : powD (.int i) (.int j) = if decide (0 ≤ j) && Nat.ble j.natAbs 1000000 && Nat.ble i.natAbs 18446744073709551615 then some (.sh (.int (i ^ j.toNat))) else none := rfl
@[simp] theorem resO_pow {i j : Int} (h0 : 0 ≤ j) (h1 : j ≤ 1000000) (h2 : i.natAbs < 18446744073709551616) : resO (powD (.int i) (.int j)) ρ = .ok (.sh (.int (i ^ j.toNat))) ρ := by
  rw [powD_i, decide_eq_true h0, Nat.ble_eq_true_of_le (show j.natAbs ≤ 1000000 by omega), Nat.ble_eq_true_of_le (show i.natAbs ≤ 18446744073709551615 by omega)]; rfl
@[simp] theorem ltI_i (f : Int → Int → Bool) (i j : Int) : ltI f (.int i) (.int j) = some (.sh (.bool (f i j))) := rfl
@[simp] theorem lenD_l (ds : List D) : lenD (.list ds) = some (.sh (.int ds.length)) := rfl
@[simp] theorem lenD_t (ds : List D) : lenD (.tuple ds) = some (.sh (.int ds.length)) := rfl
@[simp] theorem lenD_s (z : Str) : lenD (.str z) = if z.length ≤ sizeLine then some (.sh (.int z.length)) else none := rfl
@[simp] theorem ixD_l (ds : List D) (i : Int) : ixD (.list ds) (.int i) = (atI ds i).map Hd.sh := rfl
@[simp] theorem ixD_t (ds : List D) (i : Int) : ixD (.tuple ds) (.int i) = (atI ds i).map Hd.sh := rfl
@[simp] theorem ixD_s (z : Str) (i : Int) : ixD (.str z) (.int i) = if z.length ≤ sizeLine then (atI z.cps.toList i).map fun c => Hd.sh (.str ⟨#[c]⟩) else none := rfl
@[simp] theorem slD_l (lo hi : Option Int) (ds : List D) : slD lo hi (.list ds) = some (.fr (.list (cutD ds lo hi))) := rfl
@[simp] theorem slD_t (lo hi : Option Int) (ds : List D) : slD lo hi (.tuple ds) = some (.sh (.tuple (cutD ds lo hi))) := rfl
@[simp] theorem slD_s (lo hi : Option Int) (z : Str) : slD lo hi (.str z) = if z.length ≤ sizeLine then some (.sh (.str (cutS z lo hi))) else none := rfl
@[simp] theorem listD_l (ds : List D) : listD (.list ds) = some (.fr (.list ds)) := rfl
@[simp] theorem listD_t (ds : List D) : listD (.tuple ds) = some (.fr (.list ds)) := rfl
@[simp] theorem tupleD_l (ds : List D) : tupleD (.list ds) = some (.sh (.tuple ds)) := rfl
@[simp] theorem tupleD_t (ds : List D) : tupleD (.tuple ds) = some (.sh (.tuple ds)) := rfl
@[simp] theorem inD_c (neg : Bool) (c : Nat) (z : Str) : inD neg (.str ⟨#[c]⟩) (.str z) = some (.sh (.bool (neg ^^ decide (c ∈ z.cps.toList)))) := rfl
end
end GS
namespace GS
open PySem L2
section
variable {ρ ρ1 : Rho} {c : Prop} [Decidable c]
/-- a def's end -/
def finR (n : Nat) (r : RS) : RE := match r with
  | .rt (.bw _) _ => .stuck
  | .rt h ρ1 => .ok h (outR ρ1 n)
  | .nx ρ1 => .ok (.sh .none) (outR ρ1 n)
  | .exc x ρ1 => .exc x (outR ρ1 n)
  | _ => .stuck
@[simp] theorem finR_sh (n : Nat) (d : D) : finR n (.rt (.sh d) ρ) = .ok (.sh d) (outR ρ n) := rfl
@[simp] theorem finR_fr (n : Nat) (d : D) : finR n (.rt (.fr d) ρ) = .ok (.fr d) (outR ρ n) := rfl
@[simp] theorem finR_nx (n : Nat) : finR n (.nx ρ) = .ok (.sh .none) (outR ρ n) := rfl
@[simp] theorem finR_ex (n : Nat) (x : Xc) : finR n (.exc x ρ) = .exc x (outR ρ n) := rfl
@[simp] theorem finR_if (n : Nat) (a b : RS) : finR n (if c then a else b) = if c then finR n a else finR n b := by split <;> rfl
theorem fnF_eq (m n : Nat) (g : SF) : fnF m n g ρ = finR n (g (ρ ++ List.replicate (m - n) none)) := by unfold fnF finR; rfl
@[simp] theorem ioC_sh (d : D) : ioC (some ⟨d, .sh⟩) = none := rfl
@[simp] theorem ioC_ow (d : D) : ioC (some ⟨d, .ow⟩) = none := rfl
@[simp] theorem ioC_io (d : D) : ioC (some ⟨d, .io⟩) = some ⟨d, .io⟩ := rfl
@[simp] theorem ioC_no : ioC none = none := rfl
/-- a call -/
def backR (ρ1 : Rho) (io : Option Nat) (hs : List Hd) (r : RE) : RE := match r with
    | .stuck => .stuck
    | .ok h outs => match h, putB ρ1 io hs outs with
      | .bw _, _ => .stuck
      | _, none => .stuck
      | _, some ρ2 => .ok h ρ2
    | .exc x outs => match putB ρ1 io hs outs with
      | none => .stuck
      | some ρ2 => .exc x ρ2
@[simp] theorem backR_sh (d : D) (hs : List Hd) (outs : Rho) : backR ρ none hs (.ok (.sh d) outs) = .ok (.sh d) ρ := rfl
@[simp] theorem backR_fr (d : D) (hs : List Hd) (outs : Rho) : backR ρ none hs (.ok (.fr d) outs) = .ok (.fr d) ρ := rfl
@[simp] theorem backR_ex (x : Xc) (hs : List Hd) (outs : Rho) : backR ρ none hs (.exc x outs) = .exc x ρ := rfl
@[simp] theorem backR_if (io : Option Nat) (hs : List Hd) (a b : RE) : backR ρ io hs (if c then a else b) = if c then backR ρ io hs a else backR ρ io hs b := by split <;> rfl
def callR (n : Nat) (io : Option Nat) (F : FF) (hs : List Hd) (ρ1 : Rho) (a : Option Rho) : RE := match a with
  | none => .stuck
  | some ρ0 => if ρ0.length ≠ n then .stuck else backR ρ1 io hs (F ρ0)
@[simp] theorem callR_s (n : Nat) (io : Option Nat) (F : FF) (hs : List Hd) (ρ0 : Rho) : callR n io F hs ρ (some ρ0) = if ρ0.length ≠ n then .stuck else backR ρ io hs (F ρ0) := rfl
@[simp] theorem eCall_eq (n : Nat) (io : Option Nat) (F : FF) (fs : AF) : eCall n io F fs ρ = bindA (fs ρ) fun hs ρ1 => callR n io F hs ρ1 (args ρ1 io 0 hs) := by
  unfold eCall callR backR
  rfl
@[simp] theorem args_nil (io : Option Nat) (k : Nat) : args ρ io k [] = some [] := rfl
def consC (a : Option Cel) (b : Option Rho) : Option Rho := match a, b with
  | some c, some r => some (some c :: r)
  | _, _ => none
@[simp] theorem consC_s (c : Cel) (r : Rho) : consC (some c) (some r) = some (some c :: r) := rfl
@[simp] theorem args_cons (io : Option Nat) (k : Nat) (h : Hd) (hs : List Hd) : args ρ io k (h :: hs) = consC (argC ρ (decide (io = some k)) h) (args ρ io (k + 1) hs) := by
  unfold consC
  rw [args]
  try rfl
@[simp] theorem argC_shf (d : D) : argC ρ false (.sh d) = some ⟨d, .sh⟩ := rfl
theorem okR_nat {m : Nat} (h : m ≤ 1000000000) : okR (m : Int) = true := by
  unfold okR
  rw [Int.natAbs_natCast]
  exact Nat.ble_eq_true_of_le h
@[simp] theorem forL_nil (g : D → Rho → Option Rho) (b : SF) : forL g b [] ρ = .nx ρ := rfl
/-- one turn's end -/
def turnR (k : Rho → RS) (r : RS) : RS := match r with
  | .nx ρ2 => k ρ2
  | .ct ρ2 => k ρ2
  | .bk ρ2 => .nx ρ2
  | r => r
@[simp] theorem turnR_nx (k : Rho → RS) : turnR k (.nx ρ) = k ρ := rfl
@[simp] theorem turnR_ct (k : Rho → RS) : turnR k (.ct ρ) = k ρ := rfl
@[simp] theorem turnR_bk (k : Rho → RS) : turnR k (.bk ρ) = .nx ρ := rfl
@[simp] theorem turnR_rt (k : Rho → RS) (h : Hd) : turnR k (.rt h ρ) = .rt h ρ := rfl
@[simp] theorem turnR_ex (k : Rho → RS) (x : Xc) : turnR k (.exc x ρ) = .exc x ρ := rfl
@[simp] theorem turnR_st (k : Rho → RS) : turnR k .stuck = .stuck := rfl
@[simp] theorem turnR_if (k : Rho → RS) (a b : RS) : turnR k (if c then a else b) = if c then turnR k a else turnR k b := by split <;> rfl
def optR (o : Option Rho) (k : Rho → RS) : RS := match o with
  | none => .stuck
  | some ρ1 => k ρ1
@[simp] theorem optR_s (k : Rho → RS) : optR (some ρ) k = k ρ := rfl
theorem forL_cons (g : D → Rho → Option Rho) (b : SF) (d : D) (ds : List D) : forL g b (d :: ds) ρ = optR (g d ρ) fun ρ1 => turnR (forL g b ds) (b ρ1) := by
  unfold optR turnR
  rw [forL]
  try rfl
def optE (o : Option Rho) (k : Rho → RE) : RE := match o with
  | none => .stuck
  | some ρ1 => k ρ1
@[simp] theorem optE_s (k : Rho → RE) : optE (some ρ) k = k ρ := rfl
theorem lcL_nil (vs : List Nat) (g : D → Rho → Option Rho) (ft fe : EF) (acc : List D) : lcL vs g ft fe [] acc ρ = .ok (.fr (.list acc)) ρ := rfl
def lcR (acc : List D) (k : List D → Rho → RE) (h : Hd) (ρ3 : Rho) : RE := match h with
  | .sh y => if acc.length < sizeLine then k (acc ++ [y]) ρ3 else .stuck
  | _ => .stuck
@[simp] theorem lcR_s (acc : List D) (k : List D → Rho → RE) (y : D) : lcR acc k (.sh y) ρ = if acc.length < sizeLine then k (acc ++ [y]) ρ else .stuck := rfl
theorem lcL_cons (vs : List Nat) (g : D → Rho → Option Rho) (ft fe : EF) (d : D) (ds acc : List D) : lcL vs g ft fe (d :: ds) acc ρ = optE (g d ρ) fun ρ1 => bindB (ft ρ1) fun c ρ2 => if c then bindE (eCap fe ρ2) (lcR acc fun acc' ρ3 => lcL vs g ft fe ds acc' (wipeR ρ3 vs)) else lcL vs g ft fe ds acc (wipeR ρ2 vs) := by
  unfold optE lcR
  rw [lcL]
  try rfl
@[simp] theorem gN_eq (i : Nat) (d : D) : gN i d ρ = if i < ρ.length && !ioAt ρ i then some (ρ.set i (some ⟨d, .sh⟩)) else none := rfl
@[simp] theorem optR_if (a b : Option Rho) (k : Rho → RS) : optR (if c then a else b) k = if c then optR a k else optR b k := by split <;> rfl
@[simp] theorem optE_if (a b : Option Rho) (k : Rho → RE) : optE (if c then a else b) k = if c then optE a k else optE b k := by split <;> rfl
@[simp] theorem setR_eq (i : Nat) (c : Cel) : setR ρ i c = if i < ρ.length && !ioAt ρ i then .nx (ρ.set i (some c)) else .stuck := rfl
theorem rgD_mid {lo : Int} {n : Nat} {pre : List D} {d : D} {post : List D} (h : rgD lo n = pre ++ d :: post) : pre.length < n ∧ d = .int (lo + (pre.length : Int)) := by
  have hl : (rgD lo n).length = n := by unfold rgD; rw [List.length_map, List.length_range]
  have h2 : (rgD lo n)[pre.length]? = some d := by rw [h, List.getElem?_append_right (Nat.le_refl _), Nat.sub_self]; rfl
  have h3 : pre.length < n := by rw [← hl]; exact (List.getElem?_eq_some_iff.mp h2).1
  refine ⟨h3, ?_⟩
  unfold rgD at h2
  rw [List.getElem?_map, List.getElem?_range h3] at h2
  exact (Option.some.inj h2).symm
theorem rgD_len (lo : Int) (n : Nat) : (rgD lo n).length = n := by unfold rgD; rw [List.length_map, List.length_range]
@[simp] theorem atI_zero {α : Type} (x : α) (xs : List α) : atI (x :: xs) 0 = some x := by
  have := atI_nat (xs := x :: xs) (j := 0) (v := x) rfl
  exact this
theorem atI_lt {α : Type} {xs : List α} {i : Int} (h0 : 0 ≤ i) (h1 : i < xs.length) : ∃ x, atI xs i = some x ∧ x ∈ xs := by
  have hk : i.toNat < xs.length := by omega
  have e : i = ((i.toNat : Nat) : Int) := by omega
  have q := atI_nat (xs := xs) (List.getElem?_eq_getElem hk)
  rw [← e] at q
  exact ⟨_, q, List.getElem_mem hk⟩
end
end GS
namespace GS
open PySem L2
def kEq : D → D → Bool
  | .int i, .int j => decide (i = j)
  | .str i, .str j => decide (i = j)
  | .tuple xs, .tuple ys => match tkD xs, tkD ys with
    | some k, some l => decide (k = l)
    | _, _ => false
  | _, _ => false
/-- ints and texts -/
def isS : D → Bool
  | .int _ => true
  | .str _ => true
  | _ => false
/-- what may be a key -/
def isK : D → Bool
  | .int _ => true
  | .str _ => true
  | .tuple ds => (tkD ds).isSome
  | _ => false
/-- a key of another sort than the dict's first -/
def mixB (ps : List (D × D)) (k : D) : Bool := match ps with
  | [] => false
  | p :: _ => tupB p.1 != tupB k
def dGet : List (D × D) → D → Option D
  | [], _ => none
  | (a, d) :: r, k => if kEq a k then some d else dGet r k
def dPut (ps : List (D × D)) (k v : D) : List (D × D) := if ps.any (fun p => kEq p.1 k) then ps.map (fun p => if kEq p.1 k then (p.1, v) else p) else ps ++ [(k, v)]
theorem isS_k {d : D} (h : isS d = true) : ∃ k, d = kD k := by
  cases d <;> first | (cases h; done) | skip
  · exact ⟨.inl _, rfl⟩
  · exact ⟨.inr _, rfl⟩
theorem tkD_tup {ds : List D} {k : NestedKey} (h : tkD ds = some k) : ∃ ks, k = .tup ks ∧ nkL ds = some ks ∧ k.depth ≤ 8 := by
  obtain ⟨ks, e1, e2⟩ := Option.bind_eq_some_iff.mp h
  obtain ⟨c, rfl⟩ := if_some e2
  exact ⟨ks, rfl, e1, c⟩
theorem isK_key {d : D} (h : isK d = true) : ∃ k, keyD d = some k := by
  cases d <;> first | (cases h; done) | skip
  · exact ⟨_, rfl⟩
  · exact ⟨_, rfl⟩
  · exact ⟨_, Option.some_get h |>.symm⟩
theorem kEq_key {a b : D} {k l : NestedKey} (ha : keyD a = some k) (hb : keyD b = some l) : kEq a b = decide (k = l) := by
  cases a <;> first | (cases ha; done) | skip
  · cases b <;> first | (cases hb; done) | skip
    · cases ha; cases hb; simp [kEq]
    · cases ha; cases hb; simp [kEq]
    · cases ha
      obtain ⟨ks, rfl, _⟩ := tkD_tup hb
      simp [kEq]
  · cases b <;> first | (cases hb; done) | skip
    · cases ha; cases hb; simp [kEq]
    · cases ha; cases hb; simp [kEq]
    · cases ha
      obtain ⟨ks, rfl, _⟩ := tkD_tup hb
      simp [kEq]
  · cases b <;> first | (cases hb; done) | skip
    · cases hb
      obtain ⟨ks, rfl, _⟩ := tkD_tup ha
      simp [kEq]
    · cases hb
      obtain ⟨ks, rfl, _⟩ := tkD_tup ha
      simp [kEq]
    · rename_i xs ys
      show (match tkD xs, tkD ys with | some k, some l => decide (k = l) | _, _ => false) = _
      rw [show tkD xs = some k from ha, show tkD ys = some l from hb]
section
variable {K : KW} {B H : Hp} {ρ : Rho} {σ : St} {x y v : V} {Q : VK} {b : Bool}
theorem Tp.key {k : Key} (h : Tp K B H v (kD k)) : v = kV k := by
  cases k
  · exact h.int
  · exact h.str
theorem rpx_get {kd : D} {k : NestedKey} (hk : keyD kd = some k) : ∀ {xs : List (NestedKey × Value × Value)} {ps : List (D × D)}, RpX K B b xs ps → (∀ d, dGet ps kd = some d → ∃ u v, look xs k = some u ∧ RelV v u ∧ Rp K B v d) ∧ (dGet ps kd = none → look xs k = none)
  | _, _, .nil => ⟨fun d h => (by cases h), fun _ => rfl⟩
  | _, _, .cons (k := k') (ku := ku) (u := u') (v := v') (xs := xs) (kd := kd') (d := d') (ps := ps) h1 h2 h3 h4 h5 h6 h7 => by
    obtain ⟨q1, q2⟩ := rpx_get hk h7
    have e1 : dGet ((kd', d') :: ps) kd = if k' = k then some d' else dGet ps kd := by
      show (if kEq kd' kd then some d' else dGet ps kd) = _
      rw [kEq_key h1 hk]
      by_cases e : k' = k <;> simp [e]
    rw [e1]
    by_cases e : k' = k
    · rw [if_pos e]
      refine ⟨fun d hd => ?_, fun hd => (by cases hd)⟩
      cases hd
      exact ⟨u', v', by simp [look, e], h5, h6⟩
    · rw [if_neg e]
      have e2 : look ((k', ku, u') :: xs) k = look xs k := by simp [look, e]
      rw [e2]
      exact ⟨q1, q2⟩
theorem rpx_is {kd : D} {k : NestedKey} (hk : keyD kd = some k) {xs : List (NestedKey × Value × Value)} {ps : List (D × D)} (h : RpX K B b xs ps) : (look xs k).isSome = (dGet ps kd).isSome := by
  obtain ⟨q1, q2⟩ := rpx_get hk h
  cases e : dGet ps kd with
  | none => rw [q2 e]; rfl
  | some d => obtain ⟨u, v, q, _⟩ := q1 d e; rw [q]; rfl
theorem rpx_len : ∀ {xs : List (NestedKey × Value × Value)} {ps : List (D × D)}, RpX K B b xs ps → xs.length = ps.length
  | _, _, .nil => rfl
  | _, _, .cons _ _ _ _ _ _ h => by rw [List.length_cons, List.length_cons, rpx_len h]
mutual
theorem nk_of {H : Hp} (s : Same B H) : ∀ {v : V} (d : D) {k : NestedKey}, Rp K B v d → nkD d = some k → NK H v k
  | _, .none, _, .non, e => by cases e; exact .non
  | _, .bool _, _, .bl b, e => by cases e; exact .bl b
  | _, .int _, _, .int i, e => by cases e; exact .int i
  | _, .str _, _, .str x, e => by cases e; exact .str x
  | _, .tuple ds, _, .tup h t, e => by
    rw [nkD] at e
    obtain ⟨ks, e1, rfl⟩ := Option.map_eq_some_iff.mp e
    exact .tup (same_x s h) (nks_of s ds t e1)
  | _, .list _, _, .lst _ _, e => by rw [nkD] at e; cases e
  | _, .dict _, _, .dct _ _, e => by rw [nkD] at e; cases e
  | _, .dict _, _, .exn _ _ _ _, e => by rw [nkD] at e; cases e
theorem nks_of {H : Hp} (s : Same B H) : ∀ {vs : List V} (ds : List D) {ks : List NestedKey}, RpL K B vs ds → nkL ds = some ks → NKs H vs ks
  | _, [], _, .nil, e => by rw [nkL] at e; cases e; exact .nil
  | _, d :: ds, _, .cons h t, e => by
    rw [nkL] at e
    obtain ⟨k, e1, e2⟩ := Option.bind_eq_some_iff.mp e
    obtain ⟨ks, e3, rfl⟩ := Option.map_eq_some_iff.mp e2
    exact .cons (nk_of s d h e1) (nks_of s ds t e3)
end
/-- a key that is a tuple -/
theorem tk_of {H : Hp} (s : Same B H) {v : V} {kd : D} {k : NestedKey} (h : Rp K B v kd) (e : keyD kd = some k) (ht : tupB kd = true) : ∃ b, KeyAt H v b k := by
  cases kd <;> first | (cases ht; done) | skip
  rename_i ds
  obtain ⟨ks, rfl, e1, c⟩ := tkD_tup (show tkD ds = some k from e)
  cases h with
  | tup q t => exact ⟨_, rfl, .tup (same_x s q) (nks_of s ds t e1), c⟩
/-- a key that is none -/
theorem sk_of {v : V} {kd : D} {k : NestedKey} (h : Rp K B v kd) (e : keyD kd = some k) (ht : tupB kd = false) : ∃ kk, v = kV kk ∧ kd = kD kk ∧ k = nkK kk := by
  cases kd <;> first | (cases e; done) | (cases ht; done) | skip
  · cases e; cases h; exact ⟨.inl _, rfl, rfl, rfl⟩
  · cases e; cases h; exact ⟨.inr _, rfl, rfl, rfl⟩
theorem rpx_T {H : Hp} (s : Same B H) : ∀ {xs : List (NestedKey × Value × Value)} {ps : List (D × D)}, RpX K B true xs ps → ∃ ys : List (NestedKey × Addr × Value), xs = ys.map refK ∧ KOk H ys ∧ ∀ y ∈ ys, ∃ kd, Rp K B (.ref y.2.1) kd ∧ keyD kd = some y.1 ∧ tupB kd = true
  | _, _, .nil => ⟨[], rfl, (fun _ m => by cases m), fun _ m => by cases m⟩
  | _, _, .cons (k := k) (u := u) (kd := kd) h1 h2 h3 h4 h5 h6 h7 => by
    obtain ⟨ys, rfl, q2, q3⟩ := rpx_T s h7
    obtain ⟨b, rfl, q4, q5⟩ := tk_of s h3 h1 h2
    cases h4
    refine ⟨(k, b, u) :: ys, rfl, fun y m => ?_, fun y m => ?_⟩
    · cases m with
      | head => exact ⟨q4, q5⟩
      | tail _ m => exact q2 y m
    · cases m with
      | head => exact ⟨kd, h3, h1, h2⟩
      | tail _ m => exact q3 y m
/-- keys that are ints and texts, by key and value -/
def RpS (K : KW) (B : Hp) : List (Key × Value) → List (D × D) → Prop := Paired fun p q => q.1 = kD p.1 ∧ ∃ v, RelV v p.2 ∧ Rp K B v q.2
theorem rpx_S : ∀ {xs : List (NestedKey × Value × Value)} {ps : List (D × D)}, RpX K B false xs ps → ∃ ys, xs = ys.map valK ∧ SOk ys ∧ RpS K B (pairK ys) ps
  | _, _, .nil => ⟨[], rfl, (fun _ m => by cases m), .nil⟩
  | _, _, .cons (ku := ku) (u := u) h1 h2 h3 h4 h5 h6 h7 => by
    obtain ⟨ys, rfl, q2, q3⟩ := rpx_S h7
    obtain ⟨kk, rfl, rfl, rfl⟩ := sk_of h3 h1 h2
    refine ⟨(kk, ku, u) :: ys, rfl, fun y m => ?_, .cons ⟨rfl, _, h5, h6⟩ q3⟩
    cases m with
    | head => exact (by
        cases kk
        · obtain ⟨t, rfl⟩ := h4; exact keyIs_int _ t
        · obtain ⟨t, rfl⟩ := h4; exact keyIs_str _ t)
    | tail _ m => exact q2 y m
theorem rp_kV (k : Key) : Rp K B (kV k) (kD k) := by
  cases k
  · exact .int _
  · exact .str _
theorem relV_key {k : Key} {u : Value} (h : keyIs k u = true) : RelV (kV k) u := by
  rcases keyIs_shape h with ⟨i, t, rfl, rfl⟩ | ⟨x, t, rfl, rfl⟩
  · exact ⟨t, rfl⟩
  · exact ⟨t, rfl⟩
theorem keyD_k (k : Key) : keyD (kD k) = some (nkK k) ∧ tupB (kD k) = false := by cases k <;> exact ⟨rfl, rfl⟩
theorem rps_X : ∀ {ys : List (Key × Value × Value)} {ps : List (D × D)}, SOk ys → RpS K B (pairK ys) ps → RpX K B false (ys.map valK) ps
  | [], _, _, r => by cases r; exact .nil
  | y :: ys, _, h, r => by
    cases r with
    | @cons p q _ qs hq t =>
      obtain ⟨kd, d⟩ := q
      obtain ⟨e1, v, e2, e3⟩ := hq
      simp only at e1
      subst e1
      obtain ⟨e4, e5⟩ := keyD_k y.1
      exact .cons e4 e5 (rp_kV y.1) (relV_key (h y (by simp))) e2 e3 (rps_X (fun z m => h z (by simp [m])) t)
theorem kEq_k (a b : Key) : kEq (kD a) (kD b) = decide (a = b) := by
  cases a <;> cases b <;> simp [kD, kEq]
theorem rps_any {k : Key} : ∀ {vs : List (Key × Value)} {ps : List (D × D)}, RpS K B vs ps → (vs.any fun kv => decide (kv.1 = k)) = ps.any fun p => kEq p.1 (kD k)
  | _, _, .nil => rfl
  | _, _, .cons h t => by rw [List.any_cons, List.any_cons, rps_any t, h.1, kEq_k]
theorem rps_map {k : Key} {d : D} {v : V} {u : Value} (r : RelV v u) (q : Rp K B v d) : ∀ {vs : List (Key × Value)} {ps : List (D × D)}, RpS K B vs ps → RpS K B (vs.map fun kv => if kv.1 = k then (kv.1, u) else kv) (ps.map fun p => if kEq p.1 (kD k) then (p.1, d) else p)
  | _, _, .nil => .nil
  | _, _, .cons (a := p) (b := z) h t => by
    rw [List.map_cons, List.map_cons, h.1, kEq_k]
    by_cases e : p.1 = k
    · simp only [e, if_true, decide_true]
      exact .cons ⟨rfl, v, r, q⟩ (rps_map r q t)
    · simp only [e, if_false, decide_false, Bool.false_eq_true]
      exact .cons h (rps_map r q t)
theorem rps_app {k : Key} {d : D} {v : V} {u : Value} (r : RelV v u) (q : Rp K B v d) : ∀ {vs : List (Key × Value)} {ps : List (D × D)}, RpS K B vs ps → RpS K B (vs ++ [(k, u)]) (ps ++ [(kD k, d)])
  | _, _, .nil => .cons ⟨rfl, v, r, q⟩ .nil
  | _, _, .cons h t => .cons h (rps_app r q t)
theorem rps_put {k : Key} {d : D} {v : V} {u : Value} (r : RelV v u) (q : Rp K B v d) {vs : List (Key × Value)} {ps : List (D × D)} (h : RpS K B vs ps) : RpS K B (stored vs k u) (dPut ps (kD k) d) := by
  unfold stored dPut
  rw [rps_any h]
  split
  · exact rps_map r q h
  · exact rps_app r q h
/-- keys that are tuples, put -/
theorem rpx_any {kd : D} {k : NestedKey} (hk : keyD kd = some k) : ∀ {ys : List (NestedKey × Addr × Value)} {ps : List (D × D)}, RpX K B true (ys.map refK) ps → (ps.any fun p => kEq p.1 kd) = (atKey ys k).isSome
  | [], _, h => by cases h; rfl
  | y :: ys, _, h => by
    cases h with
    | cons h1 h2 h3 h4 h5 h6 h7 =>
      have ih := rpx_any hk h7
      rw [List.any_cons, kEq_key h1 hk, ih]
      by_cases e : y.1 = k <;> simp [atKey, e]
theorem rpx_map {kd d : D} {k : NestedKey} {u : Value} {v : V} (hk : keyD kd = some k) (r : RelV v u) (q : Rp K B v d) : ∀ {ys : List (NestedKey × Addr × Value)} {ps : List (D × D)}, RpX K B true (ys.map refK) ps → RpX K B true ((ys.map (putAt k u)).map refK) (ps.map fun p => if kEq p.1 kd then (p.1, d) else p)
  | [], _, h => by cases h; exact .nil
  | y :: ys, _, h => by
    cases h with
    | cons h1 h2 h3 h4 h5 h6 h7 =>
      have ih := rpx_map hk r q h7
      rw [List.map_cons, List.map_cons, List.map_cons, kEq_key h1 hk]
      by_cases e : y.1 = k
      · simp only [putAt, e, if_true, decide_true]
        exact .cons (e ▸ h1) h2 h3 h4 r q ih
      · simp only [putAt, e, if_false, decide_false, Bool.false_eq_true]
        exact .cons h1 h2 h3 h4 h5 h6 ih
theorem rpx_app {kd d : D} {k : NestedKey} {a : Addr} {u : Value} {v : V} (hk : keyD kd = some k) (ht : tupB kd = true) (ha : Rp K B (.ref a) kd) (r : RelV v u) (q : Rp K B v d) : ∀ {ys : List (NestedKey × Addr × Value)} {ps : List (D × D)}, RpX K B true (ys.map refK) ps → RpX K B true ((ys ++ [(k, a, u)]).map refK) (ps ++ [(kd, d)])
  | [], _, h => by cases h; exact .cons hk ht ha rfl r q .nil
  | y :: ys, _, h => by
    cases h with
    | cons h1 h2 h3 h4 h5 h6 h7 => exact .cons h1 h2 h3 h4 h5 h6 (rpx_app hk ht ha r q h7)
theorem rpx_put {kd d : D} {k : NestedKey} {a : Addr} {u : Value} {v : V} (hk : keyD kd = some k) (ht : tupB kd = true) (ha : Rp K B (.ref a) kd) (r : RelV v u) (q : Rp K B v d) {ys : List (NestedKey × Addr × Value)} {ps : List (D × D)} (h : RpX K B true (ys.map refK) ps) : RpX K B true ((storedH ys k a u).map refK) (dPut ps kd d) := by
  unfold storedH dPut
  rw [rpx_any hk h]
  split
  · exact rpx_map hk r q h
  · exact rpx_app hk ht ha r q h
/-- of the sort of the key asked for -/
theorem rpx_sort {xs : List (NestedKey × Value × Value)} {ps : List (D × D)} {kd : D} (h : RpX K B b xs ps) (m : mixB ps kd = false) : RpX K B (tupB kd) xs ps := by
  cases h with
  | nil => exact .nil
  | cons h1 h2 h3 h4 h5 h6 h7 =>
    have m : (tupB _ != tupB kd) = false := m
    rw [h2] at m
    have e : b = tupB kd := by simpa using m
    subst e
    exact .cons h1 h2 h3 h4 h5 h6 h7
theorem rpx_got {xs : List (NestedKey × Value × Value)} {ps : List (D × D)} {kd d : D} {k : NestedKey} (hk : keyD kd = some k) (h : RpX K B b xs ps) (e : dGet ps kd = some d) : b = tupB kd := by
  induction ps generalizing xs with
  | nil => cases e
  | cons p ps ih =>
    cases h with
    | @cons _ k' _ _ _ _ _ kd' _ _ h1 h2 h3 h4 h5 h6 h7 =>
      by_cases q : k' = k
      · subst q
        rw [← h2]
        cases kd' <;> first | (cases h1; done) | skip
        · cases h1
          cases kd <;> first | (cases hk; done) | rfl | skip
          obtain ⟨ks, z, _⟩ := tkD_tup hk
          cases z
        · cases h1
          cases kd <;> first | (cases hk; done) | rfl | skip
          obtain ⟨ks, z, _⟩ := tkD_tup hk
          cases z
        · obtain ⟨ks, rfl, _⟩ := tkD_tup h1
          cases kd <;> first | (cases hk; done) | rfl
      · refine ih h7 ?_
        have e : (if kEq kd' kd then some _ else dGet ps kd) = some d := e
        rw [kEq_key h1 hk] at e
        simpa [q] using e
/-- y may be asked of it -/
theorem look_of {H : Hp} (s : Same B H) {a : Addr} {ep : Nat} {xs : List (NestedKey × Value × Value)} {ps : List (D × D)} {kd : D} {k : NestedKey} (e : H a = some (dX K.w a ep xs)) (h : RpX K B (tupB kd) xs ps) (hk : keyD kd = some k) (r : Rp K B y kd) : LookX K.w H a y (look xs k) := by
  refine ⟨ep, xs, k, e, rfl, ?_⟩
  cases ht : tupB kd with
  | true =>
    rw [ht] at h
    obtain ⟨ys, rfl, q2, _⟩ := rpx_T s h
    obtain ⟨b, q⟩ := tk_of s r hk ht
    exact .inl ⟨b, ys, rfl, q2, q⟩
  | false =>
    rw [ht] at h
    obtain ⟨ys, rfl, q2, _⟩ := rpx_S h
    obtain ⟨kk, rfl, rfl, rfl⟩ := sk_of r hk ht
    exact .inr ⟨ys, kk, rfl, q2, rfl, rfl⟩
/-- what a dict stands as -/
theorem Tp.dcs {H : Hp} {v : V} {ps : List (D × D)} (h : Tp K B H v (.dict ps)) (hx : (∃ d, ps = [(.none, d)]) → False) : ∃ a ep b xs, v = .ref a ∧ H a = some (dX K.w a ep xs) ∧ RpX K B b xs ps := by
  rcases h with h | ⟨z, h⟩
  · exact h
  · cases h with
    | dct _ r =>
      cases r with
      | nil => cases z
      | @cons _ _ _ _ _ _ _ kd _ _ h1 _ _ _ _ _ _ => cases kd <;> first | (cases z; done) | cases h1
    | exn _ _ _ _ => exact (hx ⟨_, rfl⟩).elim
theorem dGet_xn {ps : List (D × D)} (h : ∃ d, ps = [(.none, d)]) (k : D) : dGet ps k = none := by
  obtain ⟨d, rfl⟩ := h
  cases k <;> rfl
/-- a key as it stands -/
theorem Tp.rpK {H : Hp} {v : V} {kd : D} {k : NestedKey} (h : Tp K B H v kd) (hk : keyD kd = some k) : Rp K B v kd := by
  cases kd <;> first | (cases hk; done) | exact h
def dgD : D → D → Option Hd
  | .dict ps, k => if isK k then (dGet ps k).map Hd.sh else none
  | _, _ => none
theorem ol_dg : OpL K (rXG K.w) dgD := fun ρ σ B H x y dx dy h Q S tx ty e k => by
  cases dx <;> first | (cases (show none = some h from e); done) | skip
  rename_i ps
  replace e : (if isK dy then (dGet ps dy).map Hd.sh else none) = some h := e
  split at e
  · rename_i hk
    obtain ⟨d, e1, rfl⟩ := Option.map_eq_some_iff.mp e
    obtain ⟨a, ep, b, xs, rfl, ha, ra⟩ := tx.dcs fun z => by
      rw [dGet_xn z dy] at e1
      cases e1
    obtain ⟨nk, hn⟩ := isK_key hk
    have eb := rpx_got hn ra e1
    subst eb
    obtain ⟨u, v, q1, q2, q3⟩ := (rpx_get hn ra).1 d e1
    have q4 := look_of S.bh ha ra hn (ty.rpK hn)
    rw [q1] at q4
    exact ⟨a, u, v, rfl, q4, q2, now S q3 k⟩
  · cases e
def ixA : D → D → Option Hd
  | .dict ps, k => dgD (.dict ps) k
  | d, k => ixD d k
def rIxA (K : PySem.W.Frag) (w : World) : R2 := fun x y H Q => rIx K x y H Q ∨ rXG w x y H Q
theorem ol_ixA : OpL K (rIxA K K.w) ixA := fun ρ σ B H x y dx dy h Q S tx ty e k => by
  cases dx with
  | dict ps => exact .inr (ol_dg ρ σ B H x y _ dy h Q S tx ty e k)
  | _ => exact .inl (ol_ix ρ σ B H x y _ dy h Q S tx ty e k)
def dinD (neg : Bool) : D → D → Option Hd
  | k, .dict ps => if isK k && !xnB ps && !mixB ps k then some (.sh (.bool (neg ^^ (dGet ps k).isSome))) else none
  | _, _ => none
theorem ol_din {neg : Bool} : OpL K (rXin neg K.w) (dinD neg) := fun ρ σ B H x y dx dy h Q S tx ty e k => by
  cases dy <;> first | (cases dx <;> cases (show none = some h from e); done) | skip
  rename_i ps
  replace e : (if isK dx && !xnB ps && !mixB ps dx then some (Hd.sh (.bool (neg ^^ (dGet ps dx).isSome))) else none) = some h := by cases dx <;> exact e
  obtain ⟨hk, rfl⟩ := if_some e
  rw [Bool.and_eq_true, Bool.and_eq_true] at hk
  obtain ⟨⟨hk, hx⟩, hm⟩ := hk
  have hm : mixB ps dx = false := by simpa using hm
  obtain ⟨a, ep, b, xs, rfl, ha, ra⟩ := ty.dcs fun z => by
    obtain ⟨d, rfl⟩ := z
    cases hx
  obtain ⟨nk, hn⟩ := isK_key hk
  have ra := rpx_sort ra hm
  refine ⟨a, _, rfl, look_of S.bh ha ra hn (tx.rpK hn), ?_⟩
  rw [rpx_is hn ra]
  exact now S (.bl _) k
def inB (neg : Bool) : D → D → Option Hd
  | k, .dict ps => dinD neg k (.dict ps)
  | a, b => inD neg a b
theorem op_inB {X : Cx} (hu : X.A.units + 65 < cLine) : OpR X (compareOp .In) (fun x y H Q => rInA X.K x y H Q ∨ rXin false X.w x y H Q) := OpR.or (op_inA hu) (op_Xin hu)
theorem op_notInB {X : Cx} (hu : X.A.units + 65 < cLine) : OpR X (compareOp .NotIn) (fun x y H Q => rNotInA X.K x y H Q ∨ rXin true X.w x y H Q) := OpR.or (op_notInA hu) (op_Xni hu)
theorem ol_inB : OpL K (fun x y H Q => rInA K x y H Q ∨ rXin false K.w x y H Q) (inB false) := fun ρ σ B H x y dx dy h Q S tx ty e k => by
  cases dy with
  | dict ps => exact .inr (ol_din ρ σ B H x y dx _ h Q S tx ty (by cases dx <;> exact e) k)
  | _ => exact .inl (ol_in ρ σ B H x y dx _ h Q S tx ty (by cases dx <;> exact e) k)
theorem ol_notInB : OpL K (fun x y H Q => rNotInA K x y H Q ∨ rXin true K.w x y H Q) (inB true) := fun ρ σ B H x y dx dy h Q S tx ty e k => by
  cases dy with
  | dict ps => exact .inr (ol_din ρ σ B H x y dx _ h Q S tx ty (by cases dx <;> exact e) k)
  | _ => exact .inl (ol_notIn ρ σ B H x y dx _ h Q S tx ty (by cases dx <;> exact e) k)
end
section
variable {X : Cx} {C : Ct} {a b e : Expr} {ta tb te : TE} {fa fb fe : EF} {pos pos' q1 : Pos} {ρ ρ1 : Rho} {σ : St} {B H B1 H1 : Hp}
theorem se_ixA (hu : X.A.units + 65 < cLine) (la : SE X C a ta fa) (lb : SE X C b tb fb) (hk : X.K = C.K := by rfl) (hw : X.w = C.K.w := by rfl) (hs : PlainIx b := by intro _ _; rfl) : SE X C (.Subscript a b pos) (tOp (rIxA C.K C.K.w) ta tb) (eBin ixA fa fb) :=
  ⟨by rw [← hk, ← hw]; exact pe_ix (IxR.or ix_seq (ix_dX hu)) la.pe lb.pe hs, lk_op ol_ixA la.lk lb.lk⟩
def setD (k y : D) : D → Option D
  | .list ds => match k with
    | .int i => (ixN ds.length i).map fun j => .list (ds.set j y)
    | _ => none
  | .dict ps => if isK k && !mixB ps k && decide (ps.length < sizeLine) then some (.dict (dPut ps k y)) else none
  | _ => none
def rSetA (w : World) : TSet := fun o i v H Q => rSetL o i v H Q ∨ rXS w o i v H Q
theorem set_any (hu : X.A.units + 65 < cLine) : PSet X (rSetA X.w) := by
  intro pins s σ H o i v ov iv u Q I ro ri rv h
  rcases h with h | h
  · exact set_list pins s σ H o i v ov iv u Q I ro ri rv h
  · exact set_dX hu pins s σ H o i v ov iv u Q I ro ri rv h
def sPut (i : Nat) (fi fe : EF) : SF := fun ρ => bindES (eCap fe ρ) fun h ρ1 => match h with
  | .sh y => match slot ρ1 i with
    | none => .stuck
    | some _ => bindES (eCap fi ρ1) fun hi ρ2 => match hi with
      | .sh k => mutS ρ2 i (setD k y)
      | _ => .stuck
  | _ => .stuck
theorem ss_put {i : Nat} {x : Str} (hu : X.A.units + 65 < cLine) (lb : SE X C b tb fb) (l : SE X C e te fe) (hN : X.N[i]? = some x := by rfl) (hv : Vis X.env.scope x := by first | exact Or.inl rfl | exact Or.inr (Or.inl rfl) | exact Or.inr (Or.inr rfl)) (hd : (x == ("__debug__" : Str)) = false := by decide)
    (hcd : (x == ("__classdict__" : Str)) = false := by decide)
    (ha : ∀ v, assign (.Subscript (.Name x q1) b pos') X.env v = (do
      let ov ← holding [v] (eval (.Name x q1) X.env)
      let iv ← holding [v, ov] (eval b X.env)
      standAt pos'
      holding [v, ov, iv] (setItem ov iv v)
      release [v, ov, iv] []) := by intro _; rfl)
    (hs : swapsWithSole [.Subscript (.Name x q1) b pos'] e pos.line X.env = pure false := by rfl) (hw : X.w = C.K.w := by rfl) :
    SS X C (.Assign [.Subscript (.Name x q1) b pos'] e pos) (tAsg te (gSub (tVar i) tb (rSetA C.K.w))) (sPut i fb fe) := by
  refine ⟨by rw [← hw]; exact ps_asg l.pe (pg_sub (pe_var hN hv hd hcd) lb.pe (set_any hu) ha) hs, fun ρ σ B H E S g => ?_⟩
  refine l.lk.cap.bindS S g fun hd ρ1 v B1 H1 S1 x1 y1 g1 => ?_
  cases hd with
  | sh y =>
    dsimp only at g1
    split at g1
    · exact g1.elim
    rename_i c ec
    obtain ⟨v0, e0, _⟩ := S1.sl i c (slot_some ec)
    refine ⟨v0, e0, ?_⟩
    refine lb.lk.cap.bindS S1 (GoodS.ext x1 g1) fun hi ρ2 w B2 H2 S2 x2 y2 g2 => ?_
    cases hi with
    | sh k =>
      obtain ⟨c, d', h1, h2, h3, h4⟩ := mutS_ok g2
      obtain ⟨a', ea', hb, ow⟩ := S2.own h1 h2
      rw [e0] at ea'
      cases ea'
      obtain ⟨d, fl⟩ := c
      have y1' : Rp C.K B2 v y := Rp.mono x2.bb y1
      cases d with
      | list ds =>
        cases k <;> first | (cases h3; done) | skip
        rename_i ki
        obtain ⟨j, ej, rfl⟩ := Option.map_eq_some_iff.mp h3
        obtain ⟨ws, ew, rw'⟩ := ow
        have ow' : Ow C.K B2 a' (some (.lst (ws.set j v))) (.list (ds.set j y)) := ⟨_, rfl, RpL.set y1' j rw'⟩
        obtain ⟨S3, x3⟩ := S2.mut h1 h2 e0 ow'
        cases (show Rp C.K B2 w (.int ki) from y2)
        exact .inl ⟨a', ws, ki, j, rfl, rfl, ew, by rw [rw'.length]; exact ej, h4 _ _ _ S3 (x2.trans x3)⟩
      | dict ps =>
        obtain ⟨hc, rfl⟩ := if_some (show (if isK k && !mixB ps k && decide (ps.length < sizeLine) then some (PyData.dict (dPut ps k y)) else none) = some d' from h3)
        rw [Bool.and_eq_true, Bool.and_eq_true] at hc
        obtain ⟨⟨hk, hm⟩, hz⟩ := hc
        have hm : mixB ps k = false := by simpa using hm
        have hz := of_decide_eq_true hz
        obtain ⟨nk, hn⟩ := isK_key hk
        obtain ⟨ep, b, xs, ew, rk⟩ := ow
        have rk := rpx_sort rk hm
        refine .inr ⟨a', ep, xs, rfl, ew, by rw [rpx_len rk]; exact hz, ?_⟩
        cases ht : tupB k with
        | true =>
          rw [ht] at rk
          obtain ⟨ys, rfl, q2, _⟩ := rpx_T S2.bh rk
          obtain ⟨b, q⟩ := tk_of S2.bh y2 hn ht
          obtain rfl := q.1
          refine .inl ⟨b, ys, nk, rfl, q2, q, fun ep u ru => ?_⟩
          have ow' : Ow C.K B2 a' (some (dX C.K.w a' ep ((storedH ys nk b u).map refK))) (.dict (dPut ps k y)) := ⟨ep, true, _, rfl, rpx_put hn ht y2 ru y1' rk⟩
          obtain ⟨S3, x3⟩ := S2.mut h1 h2 e0 ow'
          exact h4 _ _ _ S3 (x2.trans x3)
        | false =>
          rw [ht] at rk
          obtain ⟨ys, rfl, q2, q3⟩ := rpx_S rk
          obtain ⟨kk, rfl, rfl, rfl⟩ := sk_of y2 hn ht
          refine .inr ⟨ys, kk, rfl, q2, rfl, fun ep u zs ru z1 z2 => ?_⟩
          have ow' : Ow C.K B2 a' (some (dX C.K.w a' ep (zs.map valK))) (.dict (dPut ps (kD kk) y)) := ⟨ep, false, _, rfl, rps_X z1 (by rw [z2]; exact rps_put ru y1' q3)⟩
          obtain ⟨S3, x3⟩ := S2.mut h1 h2 e0 ow'
          exact h4 _ _ _ S3 (x2.trans x3)
      | _ => cases h3
    | _ => exact g2.elim
  | _ => exact g1.elim
end
end GS
namespace GS
open PySem L2
inductive RP where | stuck | ok (ps : List (D × D)) (ρ : Rho) | exc (x : Xc) (ρ : Rho)
abbrev PF := Rho → RP
section
variable {X : Cx} {C : Ct} {a b e : Expr} {ta tb te tk tv : TE} {fa fb fe fk fv : EF} {pos pos' q1 : Pos} {ρ ρ1 : Rho} {σ : St} {B H B1 H1 : Hp} {K : KW}
def dNil : PF := fun ρ => .ok [] ρ
def dCons (fk fv : EF) (g : PF) : PF := fun ρ => match eCap fk ρ with
  | .stuck => .stuck
  | .exc x ρ1 => .exc x ρ1
  | .ok (.sh k) ρ1 => (match eCap fv ρ1 with
    | .stuck => .stuck
    | .exc x ρ2 => .exc x ρ2
    | .ok (.sh v) ρ2 => (match g ρ2 with
      | .stuck => .stuck
      | .exc x ρ3 => .exc x ρ3
      | .ok ps ρ3 => if isS k then .ok ((k, v) :: ps) ρ3 else .stuck)
    | .ok _ _ => .stuck)
  | .ok _ _ => .stuck
def GoodP (C : Ct) (ρ : Rho) (σ : St) (B H : Hp) (Q : List (V × V) → Hp → Prop) : RP → Prop
  | .stuck => False
  | .ok ps ρ' => ∀ kvs B' H', Sim C.K ρ' σ B' H' → Ext ρ σ B H ρ' σ B' H' → RpK C.K B' kvs ps → Q (kvs.map fun kv => (kV kv.1, kv.2)) H'
  | .exc x ρ' => ∀ cls dct B' H', Sim C.K ρ' σ B' H' → Ext ρ σ B H ρ' σ B' H' → XcOk C B' x cls dct → C.W cls dct σ H'
structure SD (X : Cx) (C : Ct) (pos : Pos) (keys : List (Option Expr)) (values : List Expr) (trs : List (TE × TE)) (g : PF) : Prop where
  pp : PPs X pos keys values trs
  lk : ∀ ρ σ B H Q, Sim C.K ρ σ B H → GoodP C ρ σ B H Q (g ρ) → tPairs trs σ H Q
theorem GoodP.ext {Q : List (V × V) → Hp → Prop} (x : Ext ρ σ B H ρ1 σ B1 H1) : ∀ {r : RP}, GoodP C ρ σ B H Q r → GoodP C ρ1 σ B1 H1 Q r
  | .stuck, g => g
  | .ok _ _, g => fun vs B' H' s y z => g vs B' H' s (x.trans y) z
  | .exc _ _, g => fun c d B' H' s y z => g c d B' H' s (x.trans y) z
theorem sd_nil : SD X C pos [] [] [] dNil := ⟨pps_nil, fun ρ σ B H Q S g => g [] B H S Ext.refl .nil⟩
theorem sd_cons {ks : List (Option Expr)} {vs : List Expr} {trs : List (TE × TE)} {g : PF} (lk : SE X C a tk fk) (lv : SE X C b tv fv) (r : SD X C pos ks vs trs g) : SD X C pos (some a :: ks) (b :: vs) ((tk, tv) :: trs) (dCons fk fv g) := by
  refine ⟨pps_cons lk.pe lv.pe r.pp, fun ρ σ B H Q S gd => ?_⟩
  refine lk.lk.cap ρ σ B H _ S ?_
  unfold dCons at gd
  cases e1 : eCap fk ρ with
  | stuck => rw [e1] at gd; exact gd
  | exc x ρ1 => rw [e1] at gd; exact gd
  | ok h1 ρ1 =>
    rw [e1] at gd
    cases h1 with
    | sh k =>
      intro x B1 H1 S1 x1 y1
      refine lv.lk.cap ρ1 σ B1 H1 _ S1 ?_
      dsimp only at gd
      cases e2 : eCap fv ρ1 with
      | stuck => rw [e2] at gd; exact gd
      | exc x ρ2 => rw [e2] at gd; exact fun c d B' H' s y z => gd c d B' H' s (x1.trans y) z
      | ok h2 ρ2 =>
        rw [e2] at gd
        cases h2 with
        | sh v =>
          intro y B2 H2 S2 x2 y2
          refine r.lk ρ2 σ B2 H2 _ S2 ?_
          dsimp only at gd
          cases e3 : g ρ2 with
          | stuck => rw [e3] at gd; exact gd
          | exc x ρ3 => rw [e3] at gd; exact fun c d B' H' s y z => gd c d B' H' s ((x1.trans x2).trans y) z
          | ok ps ρ3 =>
            rw [e3] at gd
            dsimp only at gd
            intro kvs B3 H3 S3 x3 y3
            split at gd
            · rename_i hk
              obtain ⟨ky, rfl⟩ := isS_k hk
              have ek : x = kV ky := (Tp.of S1.bh y1).key
              subst ek
              exact gd ((ky, y) :: kvs) B3 H3 S3 ((x1.trans x2).trans x3) (.cons (Rp.mono x3.bb y2) y3)
            · exact gd.elim
        | _ => exact gd.elim
    | _ => exact gd.elim
def dMerge (ps : List (D × D)) : List (D × D) := ps.foldl (fun acc p => dPut acc p.1 p.2) []
theorem rpk_S {kvs : List (Key × V)} {ps : List (D × D)} (h : RpK K B kvs ps) : ∀ {vs : List (Key × Value)}, KV kvs vs → RpS K B vs ps := by
  induction kvs generalizing ps with
  | nil => cases h; intro vs r; cases r; exact .nil
  | cons kv kvs ih =>
    cases h with
    | cons r t =>
      intro vs q
      cases q with
      | cons q1 q2 => exact .cons ⟨by rw [← q1.1], _, q1.2, r⟩ (ih t q2)
theorem rpk_any {k : Key} : ∀ {kvs : List (Key × V)} {ps : List (D × D)}, RpK K B kvs ps → (kvs.any fun kv => decide (kv.1 = k)) = ps.any fun p => kEq p.1 (kD k)
  | _, _, .nil => rfl
  | _, _, .cons h t => by rw [List.any_cons, List.any_cons, rpk_any t, kEq_k]
theorem rpk_map {k : Key} {v : V} {d : D} (r : Rp K B v d) : ∀ {kvs : List (Key × V)} {ps : List (D × D)}, RpK K B kvs ps → RpK K B (kvs.map fun kv => if kv.1 = k then (kv.1, v) else kv) (ps.map fun p => if kEq p.1 (kD k) then (p.1, d) else p)
  | _, _, .nil => .nil
  | _, _, .cons (k := k') h t => by
    rw [List.map_cons, List.map_cons, kEq_k]
    by_cases e : k' = k
    · simp only [e, if_true, decide_true]
      exact .cons r (rpk_map r t)
    · simp only [e, if_false, decide_false, Bool.false_eq_true]
      exact .cons h (rpk_map r t)
theorem rpk_app {k : Key} {v : V} {d : D} (r : Rp K B v d) : ∀ {kvs : List (Key × V)} {ps : List (D × D)}, RpK K B kvs ps → RpK K B (kvs ++ [(k, v)]) (ps ++ [(kD k, d)])
  | _, _, .nil => .cons r .nil
  | _, _, .cons h t => .cons h (rpk_app r t)
theorem rpk_len : ∀ {kvs : List (Key × V)} {ps : List (D × D)}, RpK K B kvs ps → kvs.length = ps.length
  | _, _, .nil => rfl
  | _, _, .cons _ t => by rw [List.length_cons, List.length_cons, rpk_len t]
theorem rpk_put {k : Key} {v : V} {d : D} {kvs : List (Key × V)} {ps : List (D × D)} (h : RpK K B kvs ps) (r : Rp K B v d) : RpK K B (putK kvs k v) (dPut ps (kD k) d) := by
  unfold putK dPut
  rw [rpk_any h]
  split
  · exact rpk_map r h
  · exact rpk_app r h
theorem rpk_merge {kvs : List (Key × V)} {ps : List (D × D)} (h : RpK K B kvs ps) : ∀ {k0 : List (Key × V)} {p0 : List (D × D)}, RpK K B k0 p0 → RpK K B (mergeK k0 kvs) (ps.foldl (fun acc p => dPut acc p.1 p.2) p0) := by
  induction kvs generalizing ps with
  | nil => cases h; exact fun h0 => h0
  | cons kv kvs ih =>
    cases h with
    | cons r t =>
      intro k0 p0 h0
      exact ih t (rpk_put h0 r)
def eDct (g : PF) : EF := fun ρ => match g ρ with
  | .stuck => .stuck
  | .exc x ρ1 => .exc x ρ1
  | .ok ps ρ1 => if ps.length ≤ 15 then .ok (.fr (.dict (dMerge ps))) ρ1 else .stuck
theorem se_dct {keys : List (Option Expr)} {values : List Expr} {trs : List (TE × TE)} {g : PF} (l : SD X C pos keys values trs g) (hall : keys.all (·.isSome) = true := by rfl) (hl : keys.length = values.length := by rfl) (h0 : keys ≠ [] := by intro h; cases h)
    (h15 : keys.length ≤ 15 := by decide) (hw : X.w = C.K.w := by rfl) : SE X C (.Dict keys values pos) (tRe C.K.w (tDisp trs)) (eDct g) := by
  refine ⟨by rw [← hw]; exact pe_re (pe_disp l.pp hall hl h0 h15), fun ρ σ B H Q S gd p hp => ?_⟩
  obtain ⟨S1, x1⟩ := S.newH hp (.dK [])
  obtain ⟨bp, np⟩ := S.free hp
  refine l.lk ρ σ B _ _ S1 ?_
  unfold eDct at gd
  cases e : g ρ with
  | stuck => rw [e] at gd; exact gd
  | exc x ρ1 => rw [e] at gd; exact fun c d B' H' s y z => gd c d B' H' s (x1.trans y) z
  | ok ps ρ1 =>
    rw [e] at gd
    dsimp only at gd
    split at gd
    · rename_i hlen
      intro kvs B2 H2 S2 x2 r2
      have hp1 : (upd H p (.dK [])) p = some (.dK []) := upd_same
      have nown : ¬ OwnA ρ σ p := np
      have h2p : H2 p = some (.dK []) := x2.kp p _ hp1 nown
      have notnew : ¬ New ρ σ (upd H p (.dK [])) p := fun z => by
        rcases z with z | z
        · rw [hp1] at z; cases z
        · exact nown z
      have b2p : B2 p = none := by
        cases eb : B2 p with
        | none => rfl
        | some o =>
          rcases x2.nw p o eb with z | z
          · rw [bp] at z; cases z
          · exact absurd z notnew
      have n2 : ¬ OwnA ρ1 σ p := fun z => notnew (x2.sub p z)
      refine ⟨h2p, kvs, rfl, by rw [rpk_len r2]; exact hlen, ?_⟩
      refine ⟨p, _, rfl, upd_same, fun ep ys y1 y2 => ?_⟩
      rw [upd_upd]
      have S3 := S2.tweak (o := dX C.K.w p ep (ys.map valK)) b2p n2
      have x3 : Ext ρ σ B H ρ1 σ B2 (upd H2 p (dX C.K.w p ep (ys.map valK))) := (x1.trans x2).tweak (.inl hp)
      exact gd _ _ _ S3 x3 ⟨p, rfl, b2p, ⟨ep, false, _, upd_same, rps_X y1 (rpk_S (rpk_merge r2 .nil) y2)⟩, n2, .inl hp⟩
    · exact gd.elim
end
end GS
namespace GS
open PySem L2
section
variable {X : Cx} {C : Ct} {e0 : Expr} {es : List Expr} {pos p : Pos} {x : Str} {k n : Nat} {f : Addr} {fd : FuncData} {ps : List Str} {F : FF} {t : TA} {g : AF} {t0 : TE} {f0 : EF}
end
end GS
namespace GS
open PySem L2
section
variable {K : KW} {ρ : Rho} {σ : St} {B H : Hp} {v x y : V} {Q : VK}
def rRepS : R2 := fun x y H Q => ∃ z k, x = .str z ∧ y = .int k ∧ 0 ≤ k ∧ k ≤ 1000 ∧ z.length ≤ 1000 ∧ Q (.str (Txt.mul z k)) H
theorem op_repS {X : Cx} : OpR X (binaryOp .Mult) rRepS := by
  intro pins s σ H x y v u Q I rx ry h
  obtain ⟨z, k, rfl, rfl, h0, h1, hz, q⟩ := h
  obtain ⟨t, rfl⟩ := rx
  obtain ⟨t', rfl⟩ := ry
  refine SB.mul ⟨?_, fun a b => ?_, fun a b => ?_⟩ fun t'' k' => ⟨.str _, H, I.tok _, ⟨_, rfl⟩, q⟩
  · rw [decide_eq_false (by omega), decide_eq_false (by omega)]; rfl
  · have : (1000 : Int) ≤ (2 ^ 63 - 1) / k := by
      apply Int.le_ediv_of_mul_le (by omega)
      omega
    omega
  · have : z.length * k.toNat ≤ 1000 * 1000 := Nat.mul_le_mul hz (by omega)
    unfold Builtin.Str.tooLong
    rw [sizeLine_eq]
    simp
    omega
/-- a tuple so often, told exactly -/
def rRepX (K : PySem.W.Frag) : R2 := fun x y H Q => ∃ m k ys, x = .ref m ∧ y = .int k ∧ SqT K H m ys ∧ (ys ≠ [] ∧ 2 ≤ k ∧ k ≤ 1000 ∧ ys.length ≤ 1000) ∧ ∀ p o, H p = none → o.dict = none → Q (.ref p) (upd H p (.frz o (.tup (List.replicate k.toNat ys).flatten)))
theorem op_repX {X : Cx} : OpR X (binaryOp .Mult) (rRepX X.K) := by
  rintro pins s σ H x y v u Q J rx ry ⟨m, k, ys, rfl, rfl, hT, ⟨ne, k1, k2, hz⟩, q⟩
  cases rx
  obtain ⟨tt, rfl⟩ := ry
  obtain ⟨us, rv, ⟨⟨oc, od, oda, osl⟩, hob, ec, nn, ed⟩, hs⟩ := J.tuple hT
  simp only at ec ed
  subst ec ed
  have ll : us.length = ys.length := rv.length.symm
  have ie : us.toArray.isEmpty = false := by
    cases us with
    | nil => exact absurd (List.eq_nil_of_length_eq_zero ll.symm) ne
    | cons _ _ => rfl
  have sz : us.toArray.size = ys.length := by rw [List.size_toArray, ll]
  have pr : k.toNat * ys.length ≤ 1000 * 1000 := Nat.mul_le_mul (by omega) hz
  have pm : ((us.toArray.size : Nat) : Int) * k ≤ 1000000 := by
    rw [sz]
    have : ((ys.length : Nat) : Int) * k ≤ 1000 * k := Int.mul_le_mul_of_nonneg_right (by omega) (by omega)
    omega
  have fl : (List.replicate k.toNat us).flatten.length ≤ sizeLine := by
    rw [PyProof.Rows.lm_len_rep_flat, ll, sizeLine_eq]
    omega
  have d0 : (decide (k < -(2 ^ 63)) || decide (k ≥ 2 ^ 63)) = false := by rw [decide_eq_false (by omega), decide_eq_false (by omega)] <;> rfl
  have d1 : (us.toArray.isEmpty || k == 1) = false := by rw [ie, Bool.false_or]; exact beq_eq_false_iff_ne.mpr (by omega)
  have d2 : (decide (k ≤ 0) || us.toArray.isEmpty) = false := by rw [ie, Bool.or_false]; exact decide_eq_false (by omega)
  have d4 : Builtin.Tuple.tupleTooMany (((us.toArray.size : Nat) : Int) * k) = false := by
    unfold Builtin.Tuple.tupleTooMany
    rw [sizeLine_eq, decide_eq_false_iff_not]
    omega
  refine wpAny_binaryOp_repeat_ref (T := "tuple") (U := "int") (by decide) ⟨_, hob, rfl⟩ (fun z => typeIs_int z k tt) noFill_tuple_mul F.fills_int_mul F.slot_int_rmul repeat_tuple F.slot_int_index.lookup
    (call_meets F.slot_int_rmul (typeIs_int s k tt) F.entry_int_rmul (F.args_int_rmul_2 _ _) (int_rmul_tuple k tt m us.toArray nn od osl)
      ⟨hob, rfl, ⟨_, hob, rfl⟩, call_meets F.slot_tuple_mul ⟨_, hob, rfl⟩ F.entry_tuple_mul (F.args_tuple_mul_2 _ _) (tuple_mulW m us.toArray nn od osl k tt d0 d1 d2 (by omega) d4 (by rw [size_rep, List.size_toArray]; exact fl)) ⟨hob, ?_⟩⟩)
  rw [size_rep]
  exact ⟨.ref s.heap.objs.size, _, laidX (tk := s.toks) J (rv.rep k.toNat) (by rw [PyProof.Rows.lm_len_rep_flat, sizeLine_eq]; omega), rfl, q _ _ (J.hok.fresh (Nat.le_refl _)) rfl⟩
def mulA : D → D → Option Hd
  | .str z, .int k => if decide (0 ≤ k) && Nat.ble k.natAbs 1000 && Nat.ble z.length 1000 then some (.sh (.str (Txt.mul z k))) else none
  | .tuple ds, .int k => if decide (0 ≤ k) && Nat.ble 2 k.natAbs && Nat.ble k.natAbs 1000 && Nat.ble 1 ds.length && Nat.ble ds.length 1000 then some (.sh (.tuple (List.replicate k.toNat ds).flatten)) else none
  | d, e => mulD d e
def rMulA (K : PySem.W.Frag) : R2 := fun x y H Q => (rI CMul fun i j => .int (i * j)) x y H Q ∨ (rRepS x y H Q ∨ rRepX K x y H Q)
theorem op_mulA {X : Cx} : OpR X (binaryOp .Mult) (rMulA X.K) := OpR.or op_mul (OpR.or op_repS op_repX)
theorem RpL.rep {vs : List V} {ds : List D} (h : RpL K B vs ds) : ∀ n, RpL K B (List.replicate n vs).flatten (List.replicate n ds).flatten
  | 0 => .nil
  | n + 1 => by
    rw [List.replicate_succ, List.replicate_succ, List.flatten_cons, List.flatten_cons]
    exact h.append (RpL.rep h n)
theorem ol_mulA : OpL K (rMulA K) mulA := fun ρ σ B H x y dx dy h Q S tx ty e k => by
  cases dx with
  | str z =>
    cases dy <;> first | (cases (show none = some h from e); done) | skip
    rename_i i
    obtain ⟨c, rfl⟩ := if_some (show (if decide (0 ≤ i) && Nat.ble i.natAbs 1000 && Nat.ble z.length 1000 then some (Hd.sh (.str (Txt.mul z i))) else none) = some h from e)
    simp only [Bool.and_eq_true, decide_eq_true_eq] at c
    have h1 := Nat.le_of_ble_eq_true c.1.2
    rw [tx.str, ty.int]
    exact .inr (.inl ⟨z, i, rfl, rfl, c.1.1, by omega, Nat.le_of_ble_eq_true c.2, now S (.str _) k⟩)
  | tuple ds =>
    cases dy <;> first | (cases (show none = some h from e); done) | skip
    rename_i i
    obtain ⟨c, rfl⟩ := if_some (show (if decide (0 ≤ i) && Nat.ble 2 i.natAbs && Nat.ble i.natAbs 1000 && Nat.ble 1 ds.length && Nat.ble ds.length 1000 then some (Hd.sh (.tuple (List.replicate i.toNat ds).flatten)) else none) = some h from e)
    simp only [Bool.and_eq_true, decide_eq_true_eq] at c
    have h1 := Nat.le_of_ble_eq_true c.1.1.1.2
    have h2 := Nat.le_of_ble_eq_true c.1.1.2
    have h3 := Nat.le_of_ble_eq_true c.1.2
    have h4 := Nat.le_of_ble_eq_true c.2
    obtain ⟨a, vs, rfl, ha, ra⟩ := tx.tup
    have hl := ra.length
    rw [ty.int]
    exact .inr (.inr ⟨a, i, vs, rfl, rfl, same_t S.bh ha, ⟨fun z => by subst z; cases ra; simp at h3, by omega, by omega, by omega⟩, newT S (ra.rep _) k⟩)
  | _ => exact .inl (ol_mul ρ σ B H x y _ dy h Q S tx ty e k)
def bools : List D → Option (List Bool)
  | [] => some []
  | .bool b :: ds => (bools ds).map (b :: ·)
  | _ :: _ => none
def intsL : List D → Option (List Int)
  | [] => some []
  | .int b :: ds => (intsL ds).map (b :: ·)
  | _ :: _ => none
theorem bools_ok : ∀ {vs : List V} {ds : List D} {bs : List Bool}, RpL K B vs ds → bools ds = some bs → vs = bs.map V.bl
  | _, _, _, .nil, e => by cases e; rfl
  | _, d :: ds, _, .cons h t, e => by
    cases d <;> first | (cases e; done) | skip
    obtain ⟨r, er, rfl⟩ := Option.map_eq_some_iff.mp e
    cases h
    rw [bools_ok t er]; rfl
theorem intsL_ok : ∀ {vs : List V} {ds : List D} {bs : List Int}, RpL K B vs ds → intsL ds = some bs → vs = bs.map V.int
  | _, _, _, .nil, e => by cases e; rfl
  | _, d :: ds, _, .cons h t, e => by
    cases d <;> first | (cases e; done) | skip
    obtain ⟨r, er, rfl⟩ := Option.map_eq_some_iff.mp e
    cases h
    rw [intsL_ok t er]; rfl
def allD : D → Option Hd
  | .list ds => (bools ds).map fun bs => .sh (.bool (bs.all id))
  | _ => none
theorem cl_all : CalL K (rAll K) (un1 allD) := CalL.one fun ρ σ B H x d h Q S t e k => by
  cases d <;> first | (cases (show none = some h from e); done) | skip
  obtain ⟨bs, e1, rfl⟩ := Option.map_eq_some_iff.mp e
  obtain ⟨a, vs, rfl, ha, ra⟩ := t
  have := bools_ok ra e1
  subst this
  exact ⟨a, bs, rfl, ha, now S (.bl _) k⟩
end
section
variable {X : Cx} {C : Ct} {a b e : Expr} {ta tb te : TE} {fa fb fe : EF} {pos p p1 p2 p3 : Pos}
end
end GS
namespace GS
open PySem L2
def mapR (k : Rho → Rho) : RS → RS
  | .stuck => .stuck
  | .nx ρ => .nx (k ρ)
  | .bk ρ => .bk (k ρ)
  | .ct ρ => .ct (k ρ)
  | .rt h ρ => .rt h (k ρ)
  | .exc x ρ => .exc x (k ρ)
/-- less is known -/
structure Weak (ρ ρ' : Rho) : Prop where
  len : ρ'.length = ρ.length
  sub : ∀ (i : Nat) (c : Cel), ρ'[i]? = some (some c) → ρ[i]? = some (some c)
  io : ∀ (i : Nat) (c : Cel), ρ[i]? = some (some c) → c.fl = .io → ρ'[i]? = some (some c)
section
variable {K : KW} {X : Cx} {C : Ct} {ρ ρ1 ρ2 : Rho} {σ σ1 : St} {B H B1 H1 : Hp} {Ed : Ends} {t u : TS} {f g : SF} {st : Stmt} {rest : List Stmt} {pos : Pos}
theorem OwnA.weak (w : Weak ρ ρ1) {a : Addr} (h : OwnA ρ1 σ a) : OwnA ρ σ a := by
  obtain ⟨i, c, h1, h2, h3⟩ := h
  exact ⟨i, c, w.sub i c h1, h2, h3⟩
theorem Sim.weak (S : Sim K ρ σ B H) (w : Weak ρ ρ1) : Sim K ρ1 σ B H :=
  ⟨S.bh, w.len.trans S.len, fun i c h => S.sl i c (w.sub i c h), fun i j ci cj a hi hj => S.dj i j ci cj a (w.sub i ci hi) (w.sub j cj hj)⟩
theorem Ext.weak (x : Ext ρ σ B H ρ1 σ1 B1 H1) (w : Weak ρ1 ρ2) : Ext ρ σ B H ρ2 σ1 B1 H1 :=
  ⟨x.bb, x.nw, x.kp, fun a h => x.sub a (OwnA.weak w h), fun i c h1 h2 => by
    obtain ⟨e1, c1, q1, q2⟩ := x.io i c h1 h2
    exact ⟨e1, c1, w.io i c1 q1 q2, q2⟩, fun i c h1 h2 => x.oi i c (w.sub i c h1) h2⟩
theorem HdOk.weak {N : Addr → Prop} {v : V} (w : Weak ρ ρ1) : ∀ {h : Hd}, HdOk K N ρ σ B H v h → HdOk K N ρ1 σ B H v h
  | .sh _, q => q
  | .fr _, ⟨a, h1, h2, h3, h4, h5⟩ => ⟨a, h1, h2, h3, fun z => h4 (OwnA.weak w z), h5⟩
  | .bw _, q => q
theorem lk_weak {k : Rho → Rho} {f : SF} (hk : ∀ ρ' σ' B' H', Ext ρ σ B H ρ' σ' B' H' → Weak ρ' (k ρ')) (g : GoodS C ρ σ B H Ed (mapR k (f ρ))) : GoodS C ρ σ B H Ed (f ρ) := by
  cases e : f ρ with
  | stuck => rw [e] at g; exact g
  | nx ρ' => rw [e] at g; exact fun σ' B' H' s x => g σ' B' H' (s.weak (hk _ _ _ _ x)) (x.weak (hk _ _ _ _ x))
  | bk ρ' => rw [e] at g; exact fun σ' B' H' s x => g σ' B' H' (s.weak (hk _ _ _ _ x)) (x.weak (hk _ _ _ _ x))
  | ct ρ' => rw [e] at g; exact fun σ' B' H' s x => g σ' B' H' (s.weak (hk _ _ _ _ x)) (x.weak (hk _ _ _ _ x))
  | rt h ρ' => rw [e] at g; exact fun v σ' B' H' s x y => g v σ' B' H' (s.weak (hk _ _ _ _ x)) (x.weak (hk _ _ _ _ x)) (y.weak (hk _ _ _ _ x))
  | exc y ρ' => rw [e] at g; exact fun c d σ' B' H' s x z => g c d σ' B' H' (s.weak (hk _ _ _ _ x)) (x.weak (hk _ _ _ _ x)) z
def sKill (vs : List Nat) (f : SF) : SF := fun ρ => if vs.all fun i => !ioAt ρ i then mapR (fun ρ => wipeR ρ vs) (f ρ) else .stuck
theorem weak_wipe {vs : List Nat} (h : ∀ i ∈ vs, ∀ c, ρ[i]? = some (some c) → c.fl ≠ .io) : Weak ρ (wipeR ρ vs) :=
  ⟨wipeR_len _ _, fun i c e => (wipeR_some e).1, fun i c e z => by
    have ni : i ∉ vs := fun q => h i q c e z
    rw [wipeR_keep ni]; exact e⟩
theorem lk_kill {vs : List Nat} (l : LkS C t f) : LkS C t (sKill vs f) := fun ρ σ B H D S g => by
  unfold sKill at g
  split at g
  · rename_i hv
    refine l ρ σ B H D S (lk_weak (fun ρ' σ' B' H' x => weak_wipe fun i hi c hc hf => ?_) g)
    have := List.all_eq_true.mp hv i hi
    obtain ⟨c', q1, q2⟩ := x.oi i c hc hf
    exact not_io (by simpa using this) q1 q2
  · exact g.elim
theorem ss_kill {vs : List Nat} (l : SS X C st t f) : SS X C st t (sKill vs f) := ⟨l.ps, lk_kill l.lk⟩
theorem sss_kill {vs : List Nat} {sts : List Stmt} (l : SSs X C sts t f) : SSs X C sts t (sKill vs f) := ⟨l.ps, lk_kill l.lk⟩
theorem weak_io : Weak ρ (ρ.map ioC) := by
  refine ⟨List.length_map _, fun i c e => ?_, fun i c e z => ?_⟩
  · rw [List.getElem?_map] at e
    obtain ⟨o, h1, h2⟩ := Option.map_eq_some_iff.mp e
    rw [h1, (ioC_some h2).1]
  · rw [List.getElem?_map, e]
    obtain ⟨d, fl⟩ := c
    cases z
    rfl
/-- only what is lent stays -/
def sEnd (f : SF) : SF := fun ρ => mapR (fun ρ => ρ.map ioC) (f ρ)
theorem lk_end (l : LkS C t f) : LkS C t (sEnd f) := fun ρ σ B H D S g => l ρ σ B H D S (lk_weak (fun _ _ _ _ _ => weak_io) g)
theorem ss_end (l : SS X C st t f) : SS X C st t (sEnd f) := ⟨l.ps, lk_end l.lk⟩
end
end GS
namespace GS
open PySem L2
def flatEq : D → D → Option Bool
  | .str i, .str j => some (decide (i = j))
  | .int i, .int j => some (decide (i = j))
  | .bool i, .bool j => some (decide (i = j))
  | .none, .none => some true
  | .none, .str _ => some false
  | .str _, .none => some false
  | .none, .int _ => some false
  | .int _, .none => some false
  | _, _ => none
/-- no dicts, at most 190 deep -/
def okW (d : D) : Bool := GS.plain d && PyData.canLay0 d && Nat.ble d.depth 190
def eqB (neg : Bool) : D → D → Option Hd := fun x y => match flatEq x y with
  | some b => some (.sh (.bool (neg ^^ b)))
  | none => if okW x && okW y then some (.sh (.bool (neg ^^ PyData.eqv x y))) else none
def rEqW (K : PySem.W.Frag) : R2 := fun x y H Q => ∃ d e, Dp K H x d ∧ Dp K H y e ∧ PyData.canLay0 d = true ∧ PyData.canLay0 e = true ∧ d.depth ≤ 190 ∧ Q (.bl (PyData.eqv d e)) H
def rNeW (K : PySem.W.Frag) : R2 := fun x y H Q => ∃ d e, Dp K H x d ∧ Dp K H y e ∧ PyData.canLay0 d = true ∧ PyData.canLay0 e = true ∧ d.depth ≤ 190 ∧ Q (.bl (!PyData.eqv d e)) H
theorem op_eqW {X : Cx} (hu : X.A.units + 199 < cLine) : OpR X (compareOp .Eq) (rEqW X.K) := by
  intro pins s σ H x y v u Q I rx ry h
  obtain ⟨d, e, hd, he, sd, se, dp, q⟩ := h
  obtain ⟨as, r1⟩ := Dp.reads I d x v hd rx
  obtain ⟨bs, r2⟩ := Dp.reads I e y u he ry
  exact SeqAt.compareEq_reads r1 r2 sd se (by omega) ⟨.bl _, H, I, rfl, q⟩
theorem op_neW {X : Cx} (hu : X.A.units + 199 < cLine) : OpR X (compareOp .NotEq) (rNeW X.K) := by
  intro pins s σ H x y v u Q I rx ry h
  obtain ⟨d, e, hd, he, sd, se, dp, q⟩ := h
  obtain ⟨as, r1⟩ := Dp.reads I d x v hd rx
  obtain ⟨bs, r2⟩ := Dp.reads I e y u he ry
  exact SeqAt.compareNe_reads r1 r2 sd se (by omega) ⟨.bl _, H, I, rfl, q⟩
section
variable {K : KW}
theorem flatEq_V {B H : Hp} {x y : V} {dx dy : D} {b : Bool} (tx : Tp K B H x dx) (ty : Tp K B H y dy) (e : flatEq dx dy = some b) : scal x y = true ∧ decide (x = y) = b := by
  cases dx <;> cases dy <;> first | (cases (show none = some b from e); done) | skip
  · cases e; rw [tx.non, ty.non]; exact ⟨rfl, rfl⟩
  · cases e; rw [tx.non, ty.int]; exact ⟨rfl, by simp⟩
  · cases e; rw [tx.non, ty.str]; exact ⟨rfl, by simp⟩
  · cases e; rw [tx.bl, ty.bl]; exact ⟨rfl, by simp⟩
  · cases e; rw [tx.int, ty.non]; exact ⟨rfl, by simp⟩
  · cases e; rw [tx.int, ty.int]; exact ⟨rfl, by simp⟩
  · cases e; rw [tx.str, ty.non]; exact ⟨rfl, by simp⟩
  · cases e; rw [tx.str, ty.str]; exact ⟨rfl, by simp⟩
theorem op_eqB {X : Cx} (hu : X.A.units + 199 < cLine) : OpR X (compareOp .Eq) (fun x y H Q => rEq x y H Q ∨ rEqW X.K x y H Q) := OpR.or op_eq (op_eqW hu)
theorem op_neB {X : Cx} (hu : X.A.units + 199 < cLine) : OpR X (compareOp .NotEq) (fun x y H Q => rNe x y H Q ∨ rNeW X.K x y H Q) := OpR.or op_ne (op_neW hu)
theorem okW_ok {d : D} (h : okW d = true) : GS.plain d = true ∧ PyData.canLay0 d = true ∧ d.depth ≤ 190 := by
  unfold okW at h
  rw [Bool.and_eq_true, Bool.and_eq_true] at h
  exact ⟨h.1.1, h.1.2, Nat.le_of_ble_eq_true h.2⟩
theorem ol_eqB : OpL K (fun x y H Q => rEq x y H Q ∨ rEqW K x y H Q) (eqB false) := fun ρ σ B H x y dx dy h Q S tx ty e k => by
  unfold eqB at e
  split at e
  · rename_i b eb
    cases e
    obtain ⟨q1, q2⟩ := flatEq_V tx ty eb
    refine .inl ⟨q1, ?_⟩
    rw [q2]
    have := now (v := .bl (false ^^ b)) S (.bl _) k
    rwa [Bool.false_xor] at this
  · obtain ⟨c, rfl⟩ := if_some e
    rw [Bool.and_eq_true] at c
    obtain ⟨p1, c1, d1⟩ := okW_ok c.1
    obtain ⟨p2, c2, d2⟩ := okW_ok c.2
    refine .inr ⟨dx, dy, (tx.rp S.bh).dp _ p1, (ty.rp S.bh).dp _ p2, c1, c2, d1, ?_⟩
    have := now (v := .bl (false ^^ PyData.eqv dx dy)) S (.bl _) k
    rwa [Bool.false_xor] at this
theorem ol_neB : OpL K (fun x y H Q => rNe x y H Q ∨ rNeW K x y H Q) (eqB true) := fun ρ σ B H x y dx dy h Q S tx ty e k => by
  unfold eqB at e
  split at e
  · rename_i b eb
    cases e
    obtain ⟨q1, q2⟩ := flatEq_V tx ty eb
    refine .inl ⟨q1, ?_⟩
    rw [q2]
    have := now (v := .bl (true ^^ b)) S (.bl _) k
    rwa [Bool.true_xor] at this
  · obtain ⟨c, rfl⟩ := if_some e
    rw [Bool.and_eq_true] at c
    obtain ⟨p1, c1, d1⟩ := okW_ok c.1
    obtain ⟨p2, c2, d2⟩ := okW_ok c.2
    refine .inr ⟨dx, dy, (tx.rp S.bh).dp _ p1, (ty.rp S.bh).dp _ p2, c1, c2, d1, ?_⟩
    have := now (v := .bl (true ^^ PyData.eqv dx dy)) S (.bl _) k
    rwa [Bool.true_xor] at this
end
end GS
namespace GS
open PySem L2
def stuckF : FF := fun _ => .stuck
section
variable {ρ ρ1 : Rho} {c : Prop} [Decidable c]
@[simp] theorem mapR_st (k : Rho → Rho) : mapR k .stuck = .stuck := rfl
@[simp] theorem mapR_nx (k : Rho → Rho) : mapR k (.nx ρ) = .nx (k ρ) := rfl
@[simp] theorem mapR_bk (k : Rho → Rho) : mapR k (.bk ρ) = .bk (k ρ) := rfl
@[simp] theorem mapR_ct (k : Rho → Rho) : mapR k (.ct ρ) = .ct (k ρ) := rfl
@[simp] theorem mapR_rt (k : Rho → Rho) (h : Hd) : mapR k (.rt h ρ) = .rt h (k ρ) := rfl
@[simp] theorem mapR_ex (k : Rho → Rho) (x : Xc) : mapR k (.exc x ρ) = .exc x (k ρ) := rfl
@[simp] theorem mapR_if (k : Rho → Rho) (a b : RS) : mapR k (if c then a else b) = if c then mapR k a else mapR k b := by split <;> rfl
@[simp] theorem sKill_eq (vs : List Nat) (f : SF) : sKill vs f ρ = if vs.all fun i => !ioAt ρ i then mapR (fun ρ => wipeR ρ vs) (f ρ) else .stuck := rfl
@[simp] theorem sEnd_eq (f : SF) : sEnd f ρ = mapR (fun ρ => ρ.map ioC) (f ρ) := rfl
@[simp] theorem ioAt_zi (d : D) : ioAt (some ⟨d, .io⟩ :: ρ) 0 = true := rfl
@[simp] theorem outR_zero : outR ρ 0 = [] := rfl
@[simp] theorem outR_succ (x : Option Cel) (n : Nat) : outR (x :: ρ) (n + 1) = ioC x :: outR ρ n := by
  unfold outR
  rw [List.range_succ_eq_map, List.map_cons, List.map_map, slot_zero]
  rfl
@[simp] theorem ixA_l (ds : List D) (i : Int) : ixA (.list ds) (.int i) = (atI ds i).map Hd.sh := rfl
@[simp] theorem ixA_t (ds : List D) (i : Int) : ixA (.tuple ds) (.int i) = (atI ds i).map Hd.sh := rfl
@[simp] theorem ixA_s (z : Str) (i : Int) : ixA (.str z) (.int i) = if z.length ≤ sizeLine then (atI z.cps.toList i).map fun c => Hd.sh (.str ⟨#[c]⟩) else none := rfl
@[simp] theorem ixA_d (ps : List (D × D)) (k : D) : ixA (.dict ps) k = if isK k then (dGet ps k).map Hd.sh else none := rfl
@[simp] theorem isS_s (z : Str) : isS (.str z) = true := rfl
@[simp] theorem isS_i (z : Int) : isS (.int z) = true := rfl
@[simp] theorem mixB_nil (k : D) : mixB [] k = false := rfl
@[simp] theorem mixB_ss (z w : Str) (d : D) (ps : List (D × D)) : mixB ((.str z, d) :: ps) (.str w) = false := rfl
@[simp] theorem mixB_ii (z w : Int) (d : D) (ps : List (D × D)) : mixB ((.int z, d) :: ps) (.int w) = false := rfl
@[simp] theorem mixB_tt (z w : List D) (d : D) (ps : List (D × D)) : mixB ((.tuple z, d) :: ps) (.tuple w) = false := rfl
@[simp] theorem xnB_tup (z : List D) (d : D) (ps : List (D × D)) : xnB ((.tuple z, d) :: ps) = false := rfl
@[simp] theorem isK_s (z : Str) : isK (.str z) = true := rfl
@[simp] theorem isK_i (z : Int) : isK (.int z) = true := rfl
@[simp] theorem kEq_s (z w : Str) : kEq (.str z) (.str w) = decide (z = w) := rfl
@[simp] theorem kEq_i (z w : Int) : kEq (.int z) (.int w) = decide (z = w) := rfl
@[simp] theorem dGet_nil (k : D) : dGet [] k = none := rfl
@[simp] theorem dGet_cons (a d : D) (r : List (D × D)) (k : D) : dGet ((a, d) :: r) k = if kEq a k then some d else dGet r k := rfl
@[simp] theorem ofS_inj (a b : String) : (Str.ofString a = Str.ofString b) ↔ a = b := by
  constructor
  · intro h
    rw [Str.ofString_eq_toList, Str.ofString_eq_toList, Str.mk.injEq] at h
    have h2 : a.toList.map Char.toNat = b.toList.map Char.toNat := by
      have := congrArg Array.toList h
      simpa using this
    have h3 : a.toList = b.toList := (List.map_inj_right (fun x y e => Char.toNat_inj.mp e)).mp h2
    exact String.toList_inj.mp h3
  · intro h; rw [h]
theorem ofS_len (a : String) : (Str.ofString a).length = a.toList.length := by
  rw [Str.ofString_eq_toList]
  show (List.toArray _).size = _
  simp
theorem ofS_cps (a : String) : (Str.ofString a).cps.toList = a.toList.map Char.toNat := by
  rw [Str.ofString_eq_toList]
@[simp] theorem xnB_nil : xnB [] = false := rfl
@[simp] theorem xnB_str (x : Str) (d : D) (ps : List (D × D)) : xnB ((.str x, d) :: ps) = false := rfl
@[simp] theorem xnB_int (x : Int) (d : D) (ps : List (D × D)) : xnB ((.int x, d) :: ps) = false := rfl
@[simp] theorem inB_d (neg : Bool) (k : D) (ps : List (D × D)) : inB neg k (.dict ps) = if isK k && !xnB ps && !mixB ps k then some (.sh (.bool (neg ^^ (dGet ps k).isSome))) else none := by cases k <;> rfl
@[simp] theorem inB_c (neg : Bool) (c : Nat) (z : Str) : inB neg (.str ⟨#[c]⟩) (.str z) = some (.sh (.bool (neg ^^ decide (c ∈ z.cps.toList)))) := rfl
@[simp] theorem inB_t (neg : Bool) (d : D) (ds : List D) : inB neg d (.tuple ds) = if flatD d && ds.all flatD then some (.sh (.bool (neg ^^ ds.any fun z => PyData.eqv z d))) else none := by cases d <;> rfl
@[simp] theorem inB_l (neg : Bool) (d : D) (ds : List D) : inB neg d (.list ds) = if okEq d && okEq (.list ds) then some (.sh (.bool (neg ^^ ds.any fun z => PyData.eqv z d))) else none := by cases d <;> rfl
@[simp] theorem mulA_i (i j : Int) : mulA (.int i) (.int j) = mulD (.int i) (.int j) := rfl
@[simp] theorem eqB_i (neg : Bool) (i j : Int) : eqB neg (.int i) (.int j) = some (.sh (.bool (neg ^^ decide (i = j)))) := rfl
@[simp] theorem eqB_s (neg : Bool) (i j : Str) : eqB neg (.str i) (.str j) = some (.sh (.bool (neg ^^ decide (i = j)))) := rfl
@[simp] theorem eqB_b (neg : Bool) (i j : Bool) : eqB neg (.bool i) (.bool j) = some (.sh (.bool (neg ^^ decide (i = j)))) := rfl
@[simp] theorem eqB_nn (neg : Bool) : eqB neg .none .none = some (.sh (.bool (neg ^^ true))) := rfl
@[simp] theorem eqB_ns (neg : Bool) (j : Str) : eqB neg .none (.str j) = some (.sh (.bool (neg ^^ false))) := rfl
@[simp] theorem eqB_sn (neg : Bool) (j : Str) : eqB neg (.str j) .none = some (.sh (.bool (neg ^^ false))) := rfl
@[simp] theorem eqB_ni (neg : Bool) (j : Int) : eqB neg .none (.int j) = some (.sh (.bool (neg ^^ false))) := rfl
@[simp] theorem eqB_in (neg : Bool) (j : Int) : eqB neg (.int j) .none = some (.sh (.bool (neg ^^ false))) := rfl
/-- any two data that can be compared -/
theorem eqB_of {x y : D} (neg : Bool) (hx : okW x = true) (hy : okW y = true) : eqB neg x y = some (.sh (.bool (neg ^^ PyData.eqv x y))) := by
  unfold eqB
  split
  · rename_i b e
    congr 4
    cases x <;> cases y <;> first | (cases (show none = some b from e); done) | (cases e; simp [PyData.eqv]; done) | skip
    · cases e; simp [PyData.eqv]; rw [Bool.eq_iff_iff]; simp
    · cases e; simp [PyData.eqv]; rw [Bool.eq_iff_iff]; simp
    · cases e; simp [PyData.eqv]; rw [Bool.eq_iff_iff]; simp
  · rw [hx, hy]
    rfl
@[simp] theorem isD_nn (neg : Bool) : isD neg .none .none = some (.sh (.bool (!neg))) := rfl
@[simp] theorem isD_bn (neg b : Bool) : isD neg (.bool b) .none = some (.sh (.bool neg)) := rfl
@[simp] theorem isD_in (neg : Bool) (b : Int) : isD neg (.int b) .none = some (.sh (.bool neg)) := rfl
@[simp] theorem isD_sn (neg : Bool) (b : Str) : isD neg (.str b) .none = some (.sh (.bool neg)) := rfl
@[simp] theorem isD_tn (neg : Bool) (b : List D) : isD neg (.tuple b) .none = some (.sh (.bool neg)) := rfl
@[simp] theorem isD_ln (neg : Bool) (b : List D) : isD neg (.list b) .none = some (.sh (.bool neg)) := rfl
@[simp] theorem isD_dn (neg : Bool) (b : List (D × D)) : isD neg (.dict b) .none = some (.sh (.bool neg)) := rfl
@[simp] theorem isD_bb (neg a b : Bool) : isD neg (.bool a) (.bool b) = some (.sh (.bool (neg ^^ decide (a = b)))) := rfl
@[simp] theorem allD_l (bs : List Bool) : allD (.list (bs.map .bool)) = some (.sh (.bool (bs.all id))) := by
  have : bools (bs.map .bool) = some bs := by
    induction bs with
    | nil => rfl
    | cons b bs ih => rw [List.map_cons]; unfold bools; rw [ih]; rfl
  unfold allD
  dsimp only
  rw [this]; rfl
def mutO (fl : Fl) (o : Option D) (ρ : Rho) (i : Nat) : RS := match o with
  | some d' => .nx (ρ.set i (some ⟨d', fl⟩))
  | none => .stuck
def mutC (s : Option Cel) (ρ : Rho) (i : Nat) (k : D → Option D) : RS := match s with
  | some ⟨d, .ow⟩ => mutO .ow (k d) ρ i
  | some ⟨d, .io⟩ => mutO .io (k d) ρ i
  | _ => .stuck
@[simp] theorem mutO_s (fl : Fl) (d : D) (i : Nat) : mutO fl (some d) ρ i = .nx (ρ.set i (some ⟨d, fl⟩)) := rfl
@[simp] theorem mutO_if (fl : Fl) (a b : Option D) (i : Nat) : mutO fl (if c then a else b) ρ i = if c then mutO fl a ρ i else mutO fl b ρ i := by split <;> rfl
@[simp] theorem mutO_n (fl : Fl) (i : Nat) : mutO fl none ρ i = .stuck := rfl
@[simp] theorem mutC_ow (d : D) (i : Nat) (k : D → Option D) : mutC (some ⟨d, .ow⟩) ρ i k = mutO .ow (k d) ρ i := rfl
@[simp] theorem mutC_io (d : D) (i : Nat) (k : D → Option D) : mutC (some ⟨d, .io⟩) ρ i k = mutO .io (k d) ρ i := rfl
@[simp] theorem mutS_eq (i : Nat) (k : D → Option D) : mutS ρ i k = mutC (slot ρ i) ρ i k := by
  unfold mutS mutC mutO
  rfl
@[simp] theorem appD_l (y : D) (ds : List D) : appD y (.list ds) = if ds.length < sizeLine then some (.list (ds ++ [y])) else none := rfl
def isLC : Option Cel → Bool
  | some ⟨.list _, _⟩ => true
  | _ => false
@[simp] theorem isLC_l (ds : List D) (fl : Fl) : isLC (some ⟨.list ds, fl⟩) = true := rfl
@[simp] theorem isL_eq (i : Nat) : isL ρ i = isLC (slot ρ i) := rfl
def appR (i : Nat) (h : Hd) (ρ : Rho) : RS := match h with
  | .sh y => mutS ρ i (appD y)
  | _ => .stuck
@[simp] theorem appR_sh (i : Nat) (y : D) : appR i (.sh y) ρ = mutS ρ i (appD y) := rfl
@[simp] theorem sApp_eq (i : Nat) (f : EF) : sApp i f ρ = if isL ρ i then bindES (eCap f ρ) (appR i) else .stuck := by unfold sApp; rfl
def putK (i : Nat) (y : D) (h : Hd) (ρ : Rho) : RS := match h with
  | .sh k => mutS ρ i (setD k y)
  | _ => .stuck
def putC (s : Option Cel) (i : Nat) (fi : EF) (y : D) (ρ : Rho) : RS := match s with
  | none => .stuck
  | some _ => bindES (eCap fi ρ) (putK i y)
def putR (i : Nat) (fi : EF) (h : Hd) (ρ : Rho) : RS := match h with
  | .sh y => putC (slot ρ i) i fi y ρ
  | _ => .stuck
@[simp] theorem putK_sh (i : Nat) (k y : D) : putK i y (.sh k) ρ = mutS ρ i (setD k y) := rfl
@[simp] theorem putC_s (x : Cel) (i : Nat) (fi : EF) (y : D) : putC (some x) i fi y ρ = bindES (eCap fi ρ) (putK i y) := rfl
@[simp] theorem putR_sh (i : Nat) (fi : EF) (y : D) : putR i fi (.sh y) ρ = putC (slot ρ i) i fi y ρ := rfl
@[simp] theorem sPut_eq (i : Nat) (fi fe : EF) : sPut i fi fe ρ = bindES (eCap fe ρ) (putR i fi) := by
  unfold sPut putR putC putK
  rfl
@[simp] theorem setD_d (k y : D) (ps : List (D × D)) : setD k y (.dict ps) = if isK k && !mixB ps k && decide (ps.length < sizeLine) then some (.dict (dPut ps k y)) else none := rfl
@[simp] theorem setD_l (i : Int) (y : D) (ds : List D) : setD (.int i) y (.list ds) = (ixN ds.length i).map fun j => .list (ds.set j y) := rfl
@[simp] theorem gT_t (n : Nat) (f : List D → Rho → Option Rho) (ds : List D) : gT n f (.tuple ds) ρ = if ds.length = n then f ds ρ else none := rfl
@[simp] theorem gT_l (n : Nat) (f : List D → Rho → Option Rho) (ds : List D) : gT n f (.list ds) ρ = if ds.length = n then f ds ρ else none := rfl
@[simp] theorem gsN_n : gsN [] ρ = some ρ := rfl
@[simp] theorem gsC_c (f : D → Rho → Option Rho) (g : List D → Rho → Option Rho) (d : D) (ds : List D) : gsC f g (d :: ds) ρ = (f d ρ).bind (g ds) := rfl
def unpO (o : Option Rho) : RS := match o with
  | some ρ => .nx ρ
  | none => .stuck
def unpR (g : D → Rho → Option Rho) (h : Hd) (ρ : Rho) : RS := match h with
  | .sh d => unpO (g d ρ)
  | _ => .stuck
@[simp] theorem unpO_s : unpO (some ρ) = .nx ρ := rfl
@[simp] theorem unpO_if (a b : Option Rho) : unpO (if c then a else b) = if c then unpO a else unpO b := by split <;> rfl
@[simp] theorem unpR_sh (g : D → Rho → Option Rho) (d : D) : unpR g (.sh d) ρ = unpO (g d ρ) := rfl
@[simp] theorem sUnp_eq (g : D → Rho → Option Rho) (f : EF) : sUnp g f ρ = bindES (eCap f ρ) (unpR g) := by
  unfold sUnp unpR unpO
  rfl
def bindP (r : RP) (k : List (D × D) → Rho → RE) : RE := match r with
  | .stuck => .stuck
  | .exc x ρ1 => .exc x ρ1
  | .ok ps ρ1 => k ps ρ1
@[simp] theorem bindP_ok (ps : List (D × D)) (k : List (D × D) → Rho → RE) : bindP (.ok ps ρ) k = k ps ρ := rfl
@[simp] theorem eDct_eq (g : PF) : eDct g ρ = bindP (g ρ) fun ps ρ1 => if ps.length ≤ 15 then .ok (.fr (.dict (dMerge ps))) ρ1 else .stuck := by unfold eDct bindP; rfl
@[simp] theorem dNil_eq : dNil ρ = .ok [] ρ := rfl
def consP (k v : D) (r : RP) : RP := match r with
  | .stuck => .stuck
  | .exc x ρ3 => .exc x ρ3
  | .ok ps ρ3 => if isS k then .ok ((k, v) :: ps) ρ3 else .stuck
@[simp] theorem consP_ok (k v : D) (ps : List (D × D)) : consP k v (.ok ps ρ) = if isS k then .ok ((k, v) :: ps) ρ else .stuck := rfl
def valP (k : D) (g : PF) (r : RE) : RP := match r with
  | .stuck => .stuck
  | .exc x ρ2 => .exc x ρ2
  | .ok (.sh v) ρ2 => consP k v (g ρ2)
  | .ok _ _ => .stuck
@[simp] theorem valP_ok (k v : D) (g : PF) : valP k g (.ok (.sh v) ρ) = consP k v (g ρ) := rfl
def keyP (fv : EF) (g : PF) (r : RE) : RP := match r with
  | .stuck => .stuck
  | .exc x ρ1 => .exc x ρ1
  | .ok (.sh k) ρ1 => valP k g (eCap fv ρ1)
  | .ok _ _ => .stuck
@[simp] theorem keyP_ok (k : D) (fv : EF) (g : PF) : keyP fv g (.ok (.sh k) ρ) = valP k g (eCap fv ρ) := rfl
@[simp] theorem dCons_eq (fk fv : EF) (g : PF) : dCons fk fv g ρ = keyP fv g (eCap fk ρ) := by
  unfold dCons keyP valP consP
  rfl
@[simp] theorem argC_bwo (i : Nat) : argC ρ true (.bw i) = match slot ρ i with
    | some ⟨d, .ow⟩ => some ⟨d, .io⟩
    | some ⟨d, .io⟩ => some ⟨d, .io⟩
    | _ => none := rfl
def putBC (ρ : Rho) (i : Nat) (a b : Option Cel) : Option Rho := match a, b with
  | some c, some c' => some (ρ.set i (some ⟨c'.d, c.fl⟩))
  | _, _ => none
@[simp] theorem putBC_s (i : Nat) (a b : Cel) : putBC ρ i (some a) (some b) = some (ρ.set i (some ⟨b.d, a.fl⟩)) := rfl
theorem putB_bw (i j : Nat) (hs : List Hd) (outs : Rho) (h : hs[j]? = some (.bw i)) : putB ρ (some j) hs outs = putBC ρ i (slot ρ i) (slot outs j) := by
  unfold putB putBC
  dsimp only
  rw [h]
  try rfl
/-- one argument lent, the first one -/
@[simp] theorem backR_io0 (i : Nat) (hs : List Hd) (d : D) (d' : D) (fl : Fl) (outs : Rho) : backR ρ (some 0) (.bw i :: hs) (.ok (.sh d) (some ⟨d', fl⟩ :: outs)) = match slot ρ i with
    | some c => .ok (.sh d) (ρ.set i (some ⟨d', c.fl⟩))
    | none => .stuck := by
  unfold backR
  dsimp only
  rw [putB_bw i 0 _ _ rfl, slot_zero]
  cases slot ρ i <;> rfl
@[simp] theorem backR_io0f (i : Nat) (hs : List Hd) (d : D) (d' : D) (fl : Fl) (outs : Rho) : backR ρ (some 0) (.bw i :: hs) (.ok (.fr d) (some ⟨d', fl⟩ :: outs)) = match slot ρ i with
    | some c => .ok (.fr d) (ρ.set i (some ⟨d', c.fl⟩))
    | none => .stuck := by
  unfold backR
  dsimp only
  rw [putB_bw i 0 _ _ rfl, slot_zero]
  cases slot ρ i <;> rfl
/-- a loop that only looks: it leaves with r at the first item that p does not hold of -/
theorem forL_look {α : Type} {g : D → Rho → Option Rho} {b : SF} (ρ ρ' : Rho) (it : α → D) (p : α → Bool) (r : Hd) : ∀ (as : List α),
    (∀ a, a ∈ as → optR (g (it a) ρ) b = if p a then .nx ρ else .rt r ρ') → forL g b (as.map it) ρ = if as.all p then .nx ρ else .rt r ρ'
  | [], _ => rfl
  | a :: as, k => by
    have h1 := k a (List.mem_cons_self ..)
    have q := forL_look ρ ρ' it p r as fun a m => k a (List.mem_cons_of_mem _ m)
    rw [List.map_cons, forL_cons]
    unfold optR at h1 ⊢
    split at h1
    · split at h1 <;> cases h1
    · dsimp only
      rw [h1]
      cases hp : p a <;> simp [hp, q]
/-- .. of the datum itself -/
theorem forL_lookD {g : D → Rho → Option Rho} {b : SF} (ρ ρ' : Rho) (p : D → Bool) (r : Hd) (ds : List D) (k : ∀ a, a ∈ ds → optR (g a ρ) b = if p a then .nx ρ else .rt r ρ') : forL g b ds ρ = if ds.all p then .nx ρ else .rt r ρ' := by
  have := forL_look (α := D) (g := g) (b := b) ρ ρ' id p r ds k
  simpa using this
/-- a loop by an invariant of its own state -/
theorem forL_by' {S : Type} {g : D → Rho → Option Rho} {b : SF} (emb : S → Rho) {all : List D} (P : List D → S → Prop) : ∀ (ds pre : List D) (s : S), pre ++ ds = all → P pre s →
    (∀ pre d post s, all = pre ++ d :: post → P pre s → ∃ s', optR (g d (emb s)) b = .nx (emb s') ∧ P (pre ++ [d]) s') → ∃ s', forL g b ds (emb s) = .nx (emb s') ∧ P all s'
  | [], pre, s, e, h, _ => ⟨s, rfl, by rw [← e, List.append_nil]; exact h⟩
  | a :: as, pre, s, e, h, k => by
    obtain ⟨s1, h1, h2⟩ := k pre a as s e.symm h
    obtain ⟨s2, q1, q2⟩ := forL_by' emb P as (pre ++ [a]) s1 (by rw [List.append_assoc]; exact e) h2 k
    refine ⟨s2, ?_, q2⟩
    rw [forL_cons]
    unfold optR at h1 ⊢
    split at h1
    · cases h1
    · dsimp only
      rw [h1, turnR_nx, q1]
theorem forL_by {S : Type} {g : D → Rho → Option Rho} {b : SF} (emb : S → Rho) (P : List D → S → Prop) (ds : List D) (s : S) (h : P [] s)
    (k : ∀ pre d post s, ds = pre ++ d :: post → P pre s → ∃ s', optR (g d (emb s)) b = .nx (emb s') ∧ P (pre ++ [d]) s') : ∃ s', forL g b ds (emb s) = .nx (emb s') ∧ P ds s' :=
  forL_by' emb P ds [] s rfl h k
/-- a comprehension over things, by a test and an element -/
theorem lcL_fm {α : Type} {vs : List Nat} {g : D → Rho → Option Rho} {ft fe : EF} (ρ : Rho) (it : α → D) (p : α → Bool) (el : α → D) : ∀ (as : List α) (acc : List D), acc.length + as.length ≤ sizeLine →
    (∀ a, a ∈ as → ∃ ρ1, g (it a) ρ = some ρ1 ∧ (∃ ρ2, ft ρ1 = .ok (.sh (.bool (p a))) ρ2 ∧ wipeR ρ2 vs = ρ ∧ (p a = true → ∃ ρ3, eCap fe ρ2 = .ok (.sh (el a)) ρ3 ∧ wipeR ρ3 vs = ρ))) →
    lcL vs g ft fe (as.map it) acc ρ = .ok (.fr (.list (acc ++ (as.filter p).map el))) ρ
  | [], acc, _, _ => by simp [lcL_nil]
  | a :: as, acc, hl, k => by
    rw [List.length_cons] at hl
    obtain ⟨ρ1, h1, ρ2, h2, h3, h4⟩ := k a (List.mem_cons_self ..)
    rw [List.map_cons, lcL_cons, h1, optE_s, h2, bindB_ok]
    cases hp : p a with
    | true =>
      obtain ⟨ρ3, h5, h6⟩ := h4 hp
      rw [if_pos rfl, h5, bindE_ok, lcR_s, if_pos (by omega), h6, lcL_fm ρ it p el as _ (by rw [List.length_append, List.length_singleton]; omega) fun a m => k a (List.mem_cons_of_mem _ m), List.filter_cons_of_pos hp]
      simp
    | false =>
      rw [if_neg Bool.false_ne_true, h3, lcL_fm ρ it p el as _ (by omega) fun a m => k a (List.mem_cons_of_mem _ m), List.filter_cons_of_neg (by rw [hp]; exact Bool.false_ne_true)]
/-- .. where nothing else changes; up: what a turn sees -/
theorem lcL_up {α : Type} {vs : List Nat} {g : D → Rho → Option Rho} {ft fe : EF} (ρ : Rho) (it : α → D) (up : α → Rho) (p : α → Bool) (el : α → D) (as : List α) (acc : List D) (hl : acc.length + as.length ≤ sizeLine)
    (k : ∀ a, a ∈ as → g (it a) ρ = some (up a) ∧ ft (up a) = .ok (.sh (.bool (p a))) (up a) ∧ wipeR (up a) vs = ρ ∧ (p a = true → eCap fe (up a) = .ok (.sh (el a)) (up a))) :
    lcL vs g ft fe (as.map it) acc ρ = .ok (.fr (.list (acc ++ (as.filter p).map el))) ρ :=
  lcL_fm ρ it p el as acc hl fun a m => by
    obtain ⟨h1, h2, h3, h4⟩ := k a m
    exact ⟨_, h1, _, h2, h3, fun h => ⟨_, h4 h, h3⟩⟩
/-- .. without a test -/
theorem lcL_all {α : Type} {vs : List Nat} {g : D → Rho → Option Rho} {fe : EF} (ρ : Rho) (it : α → D) (up : α → Rho) (el : α → D) (as : List α) (acc : List D) (hl : acc.length + as.length ≤ sizeLine)
    (k : ∀ a, a ∈ as → g (it a) ρ = some (up a) ∧ wipeR (up a) vs = ρ ∧ eCap fe (up a) = .ok (.sh (el a)) (up a)) :
    lcL vs g (eNox eYes) fe (as.map it) acc ρ = .ok (.fr (.list (acc ++ as.map el))) ρ := by
  have := lcL_up (ft := eNox eYes) (fe := fe) ρ it up (fun _ => true) el as acc hl fun a m => by
    obtain ⟨h1, h2, h3⟩ := k a m
    exact ⟨h1, rfl, h2, fun _ => h3⟩
  rw [this, List.filter_eq_self.mpr fun _ _ => rfl]
end
theorem fits {n : Nat} (h : n ≤ 1000000) : n ≤ sizeLine := Nat.le_trans h (by decide)
theorem fitsl {n : Nat} (h : n < 1000000) : n < sizeLine := Nat.lt_of_lt_of_le h (by decide)
theorem len_eq (s : Str) : s.length = s.cps.toList.length := by rw [Array.length_toList]; rfl
theorem app_len (a b : Str) : (a ++ b).length = a.length + b.length := by
  show (a.cps ++ b.cps).size = a.cps.size + b.cps.size
  exact Array.size_append
theorem cut_ints (ns : List Int) (lo hi : Option Int) : ∃ ms : List Int, cutD (ns.map .int) lo hi = ms.map .int ∧ ms.length ≤ ns.length := by
  refine ⟨(ns.drop (HT.sIx ns.length 0 lo)).take (HT.sIx ns.length ns.length hi - HT.sIx ns.length 0 lo), ?_, ?_⟩
  · unfold cutD
    rw [List.length_map, List.map_take, List.map_drop]
  · rw [List.length_take, List.length_drop]; omega
end GS
namespace GM
open PySem L2 GS
/-- is_name(text); slots 0:text 1:letter -/
def m_is_name_b1 : SF := (sKill [1] (sIf (eAnd (eB (eBin (inB true) (eVb 1) (eC (.str (Str.ofString "ABCDEFGHIJKLMNOPQRSTUVWXYZ"))))) (eB (eBin (inB true) (eVb 1) (eC (.str (Str.ofString "0123456789")))))) (sEnd (sRet (eC (.bool false)))) sNil))
def m_is_name : SF := (sSeq (sIf (eOr (eNot (eB (eChain (ltI fun i j => decide (i ≤ j)) (ltI fun i j => decide (i ≤ j)) (eC (.int 1)) (eCB (un1 lenD) (aCons (eVb 0) aNil)) (eC (.int 24))))) (eB (eBin (inB true) (eBin ixA (eVb 0) (eC (.int 0))) (eC (.str (Str.ofString "ABCDEFGHIJKLMNOPQRSTUVWXYZ")))))) (sEnd (sRet (eC (.bool false)))) sNil) (sSeq (sFor (iSq (eMv 0)) (gN 1) (m_is_name_b1)) (sEnd (sRet (eC (.bool true))))))
theorem m_is_name_eq (ρ : Rho) : fnF 2 1 (m_is_name) ρ = finR 1 (m_is_name (ρ ++ [none])) := fnF_eq 2 1 _
/-- is_sign(text); slots 0:text 1:letter -/
def m_is_sign_b1 : SF := (sKill [1] (sIf (eB (eBin (inB true) (eVb 1) (eC (.str (Str.ofString "abcdefghijklmnopqrstuvwxyz"))))) (sEnd (sRet (eC (.bool false)))) sNil))
def m_is_sign : SF := (sSeq (sIf (eNot (eB (eChain (ltI fun i j => decide (i ≤ j)) (ltI fun i j => decide (i ≤ j)) (eC (.int 1)) (eCB (un1 lenD) (aCons (eVb 0) aNil)) (eC (.int 6))))) (sEnd (sRet (eC (.bool false)))) sNil) (sSeq (sFor (iSq (eMv 0)) (gN 1) (m_is_sign_b1)) (sEnd (sRet (eC (.bool true))))))
theorem m_is_sign_eq (ρ : Rho) : fnF 2 1 (m_is_sign) ρ = finR 1 (m_is_sign (ρ ++ [none])) := fnF_eq 2 1 _
end GM
namespace GM
open PySem L2 GS
abbrev GRT : Str := Str.ofString "ABCDEFGHIJKLMNOPQRSTUVWXYZ"
abbrev SML : Str := Str.ofString "abcdefghijklmnopqrstuvwxyz"
abbrev FIG : Str := Str.ofString "0123456789"
def okN (F : Str) (c : Nat) : Bool := decide (c ∈ F.cps) || decide (c ∈ FIG.cps)
def nameL (F : Str) : List Nat → Bool
  | [] => false
  | c :: cs => decide ((c :: cs).length ≤ 24) && decide (c ∈ F.cps) && (c :: cs).all (okN F)
def nameB (s : Str) : Bool := nameL GRT s.cps.toList
def keyB (s : Str) : Bool := nameL SML s.cps.toList
def signB (s : Str) : Bool := decide (1 ≤ s.cps.toList.length) && decide (s.cps.toList.length ≤ 6) && s.cps.toList.all fun c => decide (c ∈ SML.cps)
theorem is_name_ok (s : Str) (hs : s.length ≤ sizeLine) : fnF 2 1 m_is_name [some ⟨.str s, .sh⟩] = .ok (.sh (.bool (nameB s))) [none] := by
  rw [m_is_name_eq]
  have hl := len_eq s
  have h2 := forL_look (g := gN 1) (b := m_is_name_b1) [some ⟨.str s, .sh⟩, none] [none, none] (fun c => .str ⟨#[c]⟩) (okN GRT) (.sh (.bool false)) s.cps.toList
    (fun c _ => by by_cases h1 : c ∈ GRT.cps <;> by_cases h2 : c ∈ FIG.cps <;> simp [m_is_name_b1, okN, h1, h2])
  unfold nameB
  cases hc : s.cps.toList with
  | nil =>
    rw [hc] at hl
    simp [m_is_name, hs, hl, nameL]
  | cons c cs =>
    rw [hc] at hl h2
    rw [List.map_cons] at h2
    rw [List.length_cons] at hl
    rw [hl] at hs
    by_cases q1 : cs.length + 1 ≤ 24
    · have q2 : ¬ (24 : Int) < cs.length + 1 := by omega
      have q3 : (1 : Int) ≤ cs.length + 1 := by omega
      by_cases q4 : c ∈ GRT.cps
      · by_cases q5 : (c :: cs).all (okN GRT) = true
        · rw [if_pos q5] at h2
          simp [m_is_name, hs, hl, nameL, hc, q2, q3, q4, h2, q5, q1]
        · rw [if_neg q5] at h2
          simp [m_is_name, hs, hl, nameL, hc, q2, q3, q4, h2, q5, q1]
      · simp [m_is_name, hs, hl, nameL, hc, q2, q3, q4]
    · have q2 : (24 : Int) < cs.length + 1 := by omega
      have q3 : (1 : Int) ≤ cs.length + 1 := by omega
      have q4 : ¬ cs.length ≤ 23 := by omega
      simp [m_is_name, hs, hl, nameL, hc, q2, q3, q4]
theorem is_sign_ok (s : Str) (hs : s.length ≤ sizeLine) : fnF 2 1 m_is_sign [some ⟨.str s, .sh⟩] = .ok (.sh (.bool (signB s))) [none] := by
  rw [m_is_sign_eq]
  have hl := len_eq s
  have h2 := forL_look (g := gN 1) (b := m_is_sign_b1) [some ⟨.str s, .sh⟩, none] [none, none] (fun c => .str ⟨#[c]⟩) (fun c => decide (c ∈ SML.cps)) (.sh (.bool false)) s.cps.toList
    (fun c _ => by by_cases h1 : c ∈ SML.cps <;> simp [m_is_sign_b1, h1])
  unfold signB
  obtain ⟨cs, hc⟩ : ∃ cs, s.cps.toList = cs := ⟨_, rfl⟩
  rw [hc] at hl h2
  rw [hl] at hs
  rw [hc]
  by_cases q1 : 1 ≤ cs.length
  · have q3 : (1 : Int) ≤ cs.length := by omega
    by_cases q2 : cs.length ≤ 6
    · have q4 : ¬ (6 : Int) < cs.length := by omega
      by_cases q5 : (cs.all fun c => decide (c ∈ SML.cps)) = true
      · rw [if_pos q5] at h2
        simp only [q5]
        simp [m_is_sign, hs, hl, hc, q3, q4, h2, q1, q2]
      · rw [if_neg q5] at h2
        simp only [q5]
        simp [m_is_sign, hs, hl, hc, q3, q4, h2, q1, q2]
    · have q4 : (6 : Int) < cs.length := by omega
      simp [m_is_sign, hs, hl, q3, q4, q1, q2]
  · have q3 : ¬ (1 : Int) ≤ cs.length := by omega
    simp [m_is_sign, hs, hl, q3, q1]
/-- what a callee is held to -/
def NameSp (F : FF) : Prop := ∀ s : Str, s.length ≤ sizeLine → F [some ⟨.str s, .sh⟩] = .ok (.sh (.bool (nameB s))) [none]
def SignSp (F : FF) : Prop := ∀ s : Str, s.length ≤ sizeLine → F [some ⟨.str s, .sh⟩] = .ok (.sh (.bool (signB s))) [none]
theorem nameB_len {s : Str} (h : nameB s = true) : 1 ≤ s.length ∧ s.length ≤ 24 := by
  have hl := len_eq s
  unfold nameB at h
  cases hc : s.cps.toList with
  | nil => rw [hc] at h; cases h
  | cons c cs =>
    rw [hc] at h hl
    unfold nameL at h
    simp only [Bool.and_eq_true, decide_eq_true_eq] at h
    rw [hl]
    exact ⟨by simp, h.1.1⟩
theorem signB_len {s : Str} (h : signB s = true) : 1 ≤ s.length ∧ s.length ≤ 6 := by
  have hl := len_eq s
  unfold signB at h
  simp only [Bool.and_eq_true, decide_eq_true_eq] at h
  rw [hl]
  exact ⟨h.1.1, h.1.2⟩
end GM
namespace GM
open PySem L2 GS
/-- are_takes(thing); slots 0:thing -/
def m_are_takes (F_is_name : FF) : SF := (sSeq (sIf (eB (eBin (isD false) (eVb 0) (eC .none))) (sRet (eC (.bool true))) sNil) (sSeq (sIf (eOr (eNot (eB (eIsi isTup (eVb 0)))) (eOr (eB (eBin (eqB true) (eCB (un1 lenD) (aCons (eVb 0) aNil)) (eC (.int 2)))) (eNot (eB (eIsi isBool (eBin ixA (eVb 0) (eC (.int 1)))))))) (sRet (eC (.bool false))) sNil) (sEnd (sRet (eAnd (eB (eIsi isStr (eBin ixA (eVb 0) (eC (.int 0))))) (eCall 1 none F_is_name (aCons (eBin ixA (eVb 0) (eC (.int 0))) aNil)))))))
theorem m_are_takes_eq (F_is_name : FF) (ρ : Rho) : fnF 1 1 (m_are_takes F_is_name) ρ = finR 1 (m_are_takes F_is_name (ρ ++ [])) := fnF_eq 1 1 _
/-- is_knot(thing); slots 0:thing 1:kid -/
def m_is_knot_b1 (F_is_tree F_are_takes F_is_name : FF) : SF := (sKill [1] (sIf (eNot (eB (eCall 1 none F_is_tree (aCons (eMv 1) aNil)))) (sEnd (sRet (eC (.bool false)))) sNil))
def m_is_knot (F_is_tree F_are_takes F_is_name : FF) : SF := (sSeq (sIf (eOr (eB (eBin (eqB true) (eCB (un1 lenD) (aCons (eVb 0) aNil)) (eC (.int 4)))) (eOr (eNot (eB (eIsi isStr (eBin ixA (eVb 0) (eC (.int 1)))))) (eOr (eNot (eB (eCall 1 none F_is_name (aCons (eBin ixA (eVb 0) (eC (.int 1))) aNil)))) (eNot (eB (eCall 1 none F_are_takes (aCons (eBin ixA (eVb 0) (eC (.int 2))) aNil))))))) (sEnd (sRet (eC (.bool false)))) sNil) (sSeq (sIf (eOr (eNot (eB (eIsi isTup (eBin ixA (eVb 0) (eC (.int 3)))))) (eNot (eB (eChain (ltI fun i j => decide (i ≤ j)) (ltI fun i j => decide (i ≤ j)) (eC (.int 1)) (eCB (un1 lenD) (aCons (eBin ixA (eVb 0) (eC (.int 3))) aNil)) (eC (.int 8)))))) (sEnd (sRet (eC (.bool false)))) sNil) (sSeq (sFor (iSq (eBin ixA (eVb 0) (eC (.int 3)))) (gN 1) (m_is_knot_b1 F_is_tree F_are_takes F_is_name)) (sEnd (sRet (eC (.bool true)))))))
theorem m_is_knot_eq (F_is_tree F_are_takes F_is_name : FF) (ρ : Rho) : fnF 2 1 (m_is_knot F_is_tree F_are_takes F_is_name) ρ = finR 1 (m_is_knot F_is_tree F_are_takes F_is_name (ρ ++ [none])) := fnF_eq 2 1 _
/-- is_tree(thing); slots 0:thing -/
def m_is_tree (F_is_name F_is_sign F_is_knot : FF) : SF := (sSeq (sIf (eOr (eNot (eB (eIsi isTup (eVb 0)))) (eOr (eB (eBin (eqB false) (eCB (un1 lenD) (aCons (eVb 0) aNil)) (eC (.int 0)))) (eNot (eB (eIsi isStr (eBin ixA (eVb 0) (eC (.int 0)))))))) (sRet (eC (.bool false))) sNil) (sSeq (sIf (eB (eBin (eqB false) (eBin ixA (eVb 0) (eC (.int 0))) (eC (.str (Str.ofString "knot"))))) (sEnd (sRet (eCall 1 none F_is_knot (aCons (eMv 0) aNil)))) sNil) (sSeq (sIf (eB (eBin (eqB false) (eBin ixA (eVb 0) (eC (.int 0))) (eC (.str (Str.ofString "void"))))) (sEnd (sRet (eBin (eqB false) (eCB (un1 lenD) (aCons (eVb 0) aNil)) (eC (.int 1))))) sNil) (sSeq (sIf (eOr (eB (eBin (eqB true) (eCB (un1 lenD) (aCons (eVb 0) aNil)) (eC (.int 2)))) (eNot (eB (eIsi isStr (eBin ixA (eVb 0) (eC (.int 1))))))) (sRet (eC (.bool false))) sNil) (sSeq (sIf (eB (eBin (eqB false) (eBin ixA (eVb 0) (eC (.int 0))) (eC (.str (Str.ofString "sign"))))) (sEnd (sRet (eCall 1 none F_is_sign (aCons (eBin ixA (eVb 0) (eC (.int 1))) aNil)))) sNil) (sEnd (sRet (eAnd (eB (eBin (inB false) (eBin ixA (eVb 0) (eC (.int 0))) (eTup (aCons (eC (.str (Str.ofString "hole"))) (aCons (eC (.str (Str.ofString "foot"))) aNil))))) (eCall 1 none F_is_name (aCons (eBin ixA (eVb 0) (eC (.int 1))) aNil))))))))))
theorem m_is_tree_eq (F_is_name F_is_sign F_is_knot : FF) (ρ : Rho) : fnF 1 1 (m_is_tree F_is_name F_is_sign F_is_knot) ρ = finR 1 (m_is_tree F_is_name F_is_sign F_is_knot (ρ ++ [])) := fnF_eq 1 1 _
end GM
namespace GM
open PySem L2 GS
mutual
/-- no text in it is too long -/
def szB : D → Bool
  | .str s => Nat.ble s.length 100000
  | .list ds => szL ds
  | .tuple ds => szL ds
  | .dict _ => false
  | _ => true
def szL : List D → Bool
  | [] => true
  | d :: ds => szB d && szL ds
end
theorem szL_mem {ds : List D} (h : szL ds = true) : ∀ d ∈ ds, szB d = true := by
  induction ds with
  | nil => intro d m; cases m
  | cons e ds ih =>
    unfold szL at h
    rw [Bool.and_eq_true] at h
    intro d m
    cases m with
    | head => exact h.1
    | tail _ m => exact ih h.2 d m
theorem szB_t {ds : List D} (h : szB (.tuple ds) = true) : ∀ d ∈ ds, szB d = true := by
  unfold szB at h; exact szL_mem h
theorem szB_s {s : Str} (h : szB (.str s) = true) : s.length ≤ sizeLine := by
  unfold szB at h
  exact fits (Nat.le_trans (Nat.le_of_ble_eq_true h) (by decide))
theorem dep_mem {ds : List D} {d : D} (m : d ∈ ds) : d.depth ≤ PyData.depthAll ds := by
  induction ds with
  | nil => cases m
  | cons e ds ih =>
    rw [PyData.depthAll]
    cases m with
    | head => omega
    | tail _ m => have := ih m; omega
def takesB : D → Bool
  | .none => true
  | .tuple [.str n, .bool _] => nameB n
  | _ => false
mutual
def isTree : D → Bool
  | .tuple (.str w :: r) =>
    if w = Str.ofString "knot" then (match r with
      | [.str n, tk, .tuple ks] => nameB n && (takesB tk && (decide (1 ≤ ks.length) && (decide (ks.length ≤ 8) && isTreeL ks)))
      | _ => false)
    else if w = Str.ofString "void" then r.isEmpty
    else (match r with
      | [.str s] => if w = Str.ofString "sign" then signB s else if w = Str.ofString "hole" then nameB s else if w = Str.ofString "foot" then nameB s else false
      | _ => false)
  | _ => false
def isTreeL : List D → Bool
  | [] => true
  | d :: ds => isTree d && isTreeL ds
end
theorem isTreeL_all (ds : List D) : isTreeL ds = ds.all isTree := by
  induction ds with
  | nil => rfl
  | cons d ds ih => unfold isTreeL; rw [ih, List.all_cons]
def TakesSp (F : FF) : Prop := ∀ d : D, szB d = true → F [some ⟨d, .sh⟩] = .ok (.sh (.bool (takesB d))) [none]
theorem are_takes_ok {F : FF} (hn : NameSp F) : TakesSp (fnF 1 1 (m_are_takes F)) := fun d hd => by
  rw [m_are_takes_eq]
  cases d with
  | none => simp [m_are_takes, takesB]
  | tuple ds =>
    match ds, hd with
    | [], _ => simp [m_are_takes, takesB]
    | [_], _ => simp [m_are_takes, takesB]
    | [a, b], hd =>
      have ha := szB_t hd a (by simp)
      cases b with
      | bool b =>
        cases a with
        | str s => simp [m_are_takes, takesB, hn s (szB_s ha), L2.atI, ixN]
        | _ => simp [m_are_takes, takesB, isStr, L2.atI, ixN]
      | _ => cases a <;> simp [m_are_takes, takesB, isBool, L2.atI, ixN]
    | _ :: _ :: _ :: r, _ =>
      have : ¬ ((r.length : Int) + 1 + 1 + 1 = 2) := by omega
      simp [m_are_takes, takesB, this]
  | _ => simp [m_are_takes, takesB, isTup]
def knotB : List D → Bool
  | [_, .str n, tk, .tuple ks] => nameB n && (takesB tk && (decide (1 ≤ ks.length) && (decide (ks.length ≤ 8) && isTreeL ks)))
  | _ => false
def leafB (w : Str) : List D → Bool
  | [.str s] => if w = Str.ofString "sign" then signB s else if w = Str.ofString "hole" then nameB s else if w = Str.ofString "foot" then nameB s else false
  | _ => false
theorem isTree_knot (r : List D) : isTree (.tuple (.str (Str.ofString "knot") :: r)) = knotB (.str (Str.ofString "knot") :: r) := by
  unfold isTree
  rw [if_pos rfl]
  split
  · rfl
  · rename_i h
    unfold knotB
    split
    · rename_i h2
      cases h2
      exact absurd rfl (h _ _ _)
    · rfl
theorem isTree_void (r : List D) : isTree (.tuple (.str (Str.ofString "void") :: r)) = r.isEmpty := by
  unfold isTree
  rw [if_neg (by simp), if_pos rfl]
theorem isTree_leaf {w : Str} (r : List D) (w1 : w ≠ Str.ofString "knot") (w2 : w ≠ Str.ofString "void") : isTree (.tuple (.str w :: r)) = leafB w r := by
  unfold isTree
  rw [if_neg w1, if_neg w2]
  rfl
def TreeSp (n : Nat) (F : FF) : Prop := ∀ d : D, szB d = true → d.depth ≤ n → F [some ⟨d, .sh⟩] = .ok (.sh (.bool (isTree d))) [none]
def KnotSp (n : Nat) (F : FF) : Prop := ∀ ds : List D, szB (.tuple ds) = true → (PyData.tuple ds).depth ≤ n → F [some ⟨.tuple ds, .sh⟩] = .ok (.sh (.bool (knotB ds))) [none]
theorem is_tree_ok {n : Nat} {Fn Fs Fk : FF} (hn : NameSp Fn) (hs : SignSp Fs) (hk : KnotSp n Fk) : TreeSp n (fnF 1 1 (m_is_tree Fn Fs Fk)) := fun d hd dp => by
  rw [m_is_tree_eq]
  cases d with
  | tuple ds =>
    cases ds with
    | nil => simp [m_is_tree, isTree]
    | cons a r =>
      cases a with
      | str w =>
        have z : ¬ ((r.length : Int) + 1 = 0) := by omega
        by_cases w1 : w = Str.ofString "knot"
        · have e := hk _ hd dp
          subst w1
          rw [isTree_knot]
          simp [m_is_tree, e, z]
        · by_cases w2 : w = Str.ofString "void"
          · subst w2
            cases r with
            | nil => simp [m_is_tree, isTree_void]
            | cons b r =>
              have : ¬ ((r.length : Int) + 1 + 1 = 1) := by omega
              have z : ¬ ((r.length : Int) + 1 + 1 = 0) := by omega
              simp [m_is_tree, isTree_void, this, z]
          · rw [isTree_leaf r w1 w2]
            match r, hd, z with
            | [], _, _ => simp [m_is_tree, leafB, w1, w2]
            | b :: c :: r, _, z =>
              have : ¬ ((r.length : Int) + 1 + 1 + 1 = 2) := by omega
              have z : ¬ ((r.length : Int) + 1 + 1 + 1 = 0) := by omega
              simp [m_is_tree, leafB, w1, w2, this, z]
            | [b], hd, _ =>
              have h1 := szB_t hd b (by simp)
              cases b with
              | str s =>
                have e1 := hn s (szB_s h1)
                have e2 := hs s (szB_s h1)
                by_cases w3 : w = Str.ofString "sign"
                · simp [m_is_tree, leafB, w3, e2, L2.atI, ixN]
                · by_cases w4 : w = Str.ofString "hole"
                  · subst w4
                    simp [m_is_tree, leafB, e1, L2.atI, ixN, flatD, PyData.eqv]
                  · by_cases w5 : w = Str.ofString "foot"
                    · subst w5
                      simp [m_is_tree, leafB, e1, L2.atI, ixN, flatD, PyData.eqv]
                    · have w4' : ¬ (Str.ofString "hole" = w) := fun e => w4 e.symm
                      have w5' : ¬ (Str.ofString "foot" = w) := fun e => w5 e.symm
                      simp [m_is_tree, leafB, w1, w2, w3, w4, w5, w4', w5', e1, L2.atI, ixN, flatD, PyData.eqv]
              | _ => simp [m_is_tree, leafB, w1, w2, L2.atI, ixN, isStr]
      | _ => simp [m_is_tree, isTree, isStr]
  | _ => simp [m_is_tree, isTree, isTup]
end GM
namespace GM
open PySem L2 GS
inductive Tr where
  | sign (s : Str)
  | void
  | hole (n : Str)
  | foot (n : Str)
  | knot (n : Str) (tk : Option (Str × Bool)) (ks : List Tr)
  deriving Inhabited
def encTk : Option (Str × Bool) → D
  | none => .none
  | some (m, b) => .tuple [.str m, .bool b]
def okTk : Option (Str × Bool) → Bool
  | none => true
  | some (m, _) => nameB m
mutual
def Tr.enc : Tr → D
  | .sign s => .tuple [.str (Str.ofString "sign"), .str s]
  | .void => .tuple [.str (Str.ofString "void")]
  | .hole n => .tuple [.str (Str.ofString "hole"), .str n]
  | .foot n => .tuple [.str (Str.ofString "foot"), .str n]
  | .knot n tk ks => .tuple [.str (Str.ofString "knot"), .str n, encTk tk, .tuple (Tr.encL ks)]
def Tr.encL : List Tr → List D
  | [] => []
  | t :: ts => t.enc :: Tr.encL ts
end
mutual
def Tr.ok : Tr → Bool
  | .sign s => signB s
  | .void => true
  | .hole n => nameB n
  | .foot n => nameB n
  | .knot n tk ks => nameB n && (okTk tk && (decide (1 ≤ ks.length) && (decide (ks.length ≤ 8) && Tr.okL ks)))
def Tr.okL : List Tr → Bool
  | [] => true
  | t :: ts => t.ok && Tr.okL ts
end
mutual
def Tr.ht : Tr → Nat
  | .knot _ _ ks => Tr.htL ks + 1
  | _ => 0
def Tr.htL : List Tr → Nat
  | [] => 0
  | t :: ts => max t.ht (Tr.htL ts)
end
theorem encL_map (ts : List Tr) : Tr.encL ts = ts.map Tr.enc := by
  induction ts with
  | nil => rfl
  | cons t ts ih => rw [Tr.encL, ih, List.map_cons]
theorem encL_len (ts : List Tr) : (Tr.encL ts).length = ts.length := by rw [encL_map, List.length_map]
theorem okL_mem {ts : List Tr} (h : Tr.okL ts = true) : ∀ t ∈ ts, t.ok = true := by
  induction ts with
  | nil => intro t m; cases m
  | cons e ts ih =>
    rw [Tr.okL, Bool.and_eq_true] at h
    intro t m
    cases m with
    | head => exact h.1
    | tail _ m => exact ih h.2 t m
theorem okL_of {ts : List Tr} (h : ∀ t ∈ ts, t.ok = true) : Tr.okL ts = true := by
  induction ts with
  | nil => rfl
  | cons e ts ih => rw [Tr.okL, h e (by simp), ih fun t m => h t (by simp [m])]; rfl
theorem ht_mem {ts : List Tr} {t : Tr} (m : t ∈ ts) : t.ht ≤ Tr.htL ts := by
  induction ts with
  | nil => cases m
  | cons e ts ih =>
    rw [Tr.htL]
    cases m with
    | head => omega
    | tail _ m => have := ih m; omega
theorem htL_of {ts : List Tr} {n : Nat} (h : ∀ t ∈ ts, t.ht ≤ n) : Tr.htL ts ≤ n := by
  induction ts with
  | nil => rw [Tr.htL]; omega
  | cons e ts ih =>
    rw [Tr.htL]
    have := h e (by simp)
    have := ih fun t m => h t (by simp [m])
    omega
theorem takesB_enc {tk : Option (Str × Bool)} (h : okTk tk = true) : takesB (encTk tk) = true := by
  cases tk with
  | none => rfl
  | some p => exact h
mutual
theorem isTree_enc : ∀ t : Tr, t.ok = true → isTree t.enc = true
  | .sign s, h => by rw [Tr.enc, isTree_leaf _ (by simp) (by simp)]; simpa [leafB, Tr.ok] using h
  | .void, _ => by rw [Tr.enc, isTree_void]; rfl
  | .hole n, h => by rw [Tr.enc, isTree_leaf _ (by simp) (by simp)]; simpa [leafB, Tr.ok] using h
  | .foot n, h => by rw [Tr.enc, isTree_leaf _ (by simp) (by simp)]; simpa [leafB, Tr.ok] using h
  | .knot n tk ks, h => by
    rw [Tr.ok] at h
    simp only [Bool.and_eq_true, decide_eq_true_eq] at h
    rw [Tr.enc, isTree_knot]
    simp only [knotB, Bool.and_eq_true, decide_eq_true_eq, encL_len]
    exact ⟨h.1, takesB_enc h.2.1, h.2.2.1, h.2.2.2.1, isTreeL_enc ks h.2.2.2.2⟩
theorem isTreeL_enc : ∀ ts : List Tr, Tr.okL ts = true → isTreeL (Tr.encL ts) = true
  | [], _ => rfl
  | t :: ts, h => by
    rw [Tr.okL, Bool.and_eq_true] at h
    rw [Tr.encL, isTreeL, isTree_enc t h.1, isTreeL_enc ts h.2]; rfl
end
theorem nameB_sz {n : Str} (h : nameB n = true) : szB (.str n) = true := by
  have := nameB_len h
  rw [szB]; exact Nat.ble_eq_true_of_le (by omega)
theorem signB_sz {n : Str} (h : signB n = true) : szB (.str n) = true := by
  have := signB_len h
  rw [szB]; exact Nat.ble_eq_true_of_le (by omega)
theorem szW (w : String) (h : (Str.ofString w).length ≤ 100000) : szB (.str (Str.ofString w)) = true := by rw [szB]; exact Nat.ble_eq_true_of_le h
theorem szTk {tk : Option (Str × Bool)} (h : okTk tk = true) : szB (encTk tk) = true := by
  cases tk with
  | none => rfl
  | some p => simp only [encTk, szB, szL, Bool.and_true]; exact nameB_sz h
mutual
theorem sz_enc : ∀ t : Tr, t.ok = true → szB t.enc = true
  | .sign s, h => by rw [Tr.enc, szB, szL, szL, szL, szW _ (by decide +kernel), signB_sz h]; rfl
  | .void, _ => by decide +kernel
  | .hole n, h => by rw [Tr.enc, szB, szL, szL, szL, szW _ (by decide +kernel), nameB_sz h]; rfl
  | .foot n, h => by rw [Tr.enc, szB, szL, szL, szL, szW _ (by decide +kernel), nameB_sz h]; rfl
  | .knot n tk ks, h => by
    rw [Tr.ok] at h
    simp only [Bool.and_eq_true, decide_eq_true_eq] at h
    rw [Tr.enc, szB, szL, szL, szL, szL, szL, szW _ (by decide +kernel), nameB_sz h.1, szTk h.2.1, szB, szL_enc ks h.2.2.2.2]; rfl
theorem szL_enc : ∀ ts : List Tr, Tr.okL ts = true → szL (Tr.encL ts) = true
  | [], _ => rfl
  | t :: ts, h => by
    rw [Tr.okL, Bool.and_eq_true] at h
    rw [Tr.encL, szL, sz_enc t h.1, szL_enc ts h.2]; rfl
end
theorem depth_tk (tk : Option (Str × Bool)) : (encTk tk).depth ≤ 1 := by
  cases tk with
  | none => simp [encTk, PyData.depth]
  | some p => simp [encTk, PyData.depth, PyData.depthAll]
mutual
theorem depth_enc : ∀ t : Tr, t.enc.depth ≤ 2 * t.ht + 1
  | .sign s => by simp [Tr.enc, PyData.depth, PyData.depthAll]
  | .void => by simp [Tr.enc, PyData.depth, PyData.depthAll]
  | .hole n => by simp [Tr.enc, PyData.depth, PyData.depthAll]
  | .foot n => by simp [Tr.enc, PyData.depth, PyData.depthAll]
  | .knot n tk ks => by
    have h1 := depth_tk tk
    have h2 := depthL_enc ks
    simp only [Tr.enc, PyData.depth, PyData.depthAll, Tr.ht]
    omega
theorem depthL_enc : ∀ ts : List Tr, PyData.depthAll (Tr.encL ts) ≤ 2 * Tr.htL ts + 1
  | [] => by simp [Tr.encL, PyData.depthAll]
  | t :: ts => by
    have h1 := depth_enc t
    have h2 := depthL_enc ts
    simp only [Tr.encL, PyData.depthAll, Tr.htL]
    omega
end
mutual
/-- no dicts, texts of code points -/
def cleanB : D → Bool
  | .str x => PyData.strOk x
  | .list ds => cleanL ds
  | .tuple ds => cleanL ds
  | .dict _ => false
  | _ => true
def cleanL : List D → Bool
  | [] => true
  | d :: ds => cleanB d && cleanL ds
end
mutual
theorem clean_ok : ∀ d : D, cleanB d = true → plain d = true ∧ PyData.canLay0 d = true
  | .none, _ => ⟨rfl, rfl⟩
  | .bool _, _ => ⟨rfl, rfl⟩
  | .int _, _ => ⟨rfl, rfl⟩
  | .str x, h => ⟨rfl, h⟩
  | .list ds, h => by
    rw [cleanB] at h
    obtain ⟨h1, h2⟩ := cleanL_ok ds h
    exact ⟨by rw [GS.plain]; exact h1, by rw [PyData.canLay0]; exact h2⟩
  | .tuple ds, h => by
    rw [cleanB] at h
    obtain ⟨h1, h2⟩ := cleanL_ok ds h
    exact ⟨by rw [GS.plain]; exact h1, by rw [PyData.canLay0]; exact h2⟩
  | .dict _, h => by cases h
theorem cleanL_ok : ∀ ds : List D, cleanL ds = true → plainL ds = true ∧ PyData.canLayAll0 ds = true
  | [], _ => ⟨rfl, rfl⟩
  | d :: ds, h => by
    rw [cleanL, Bool.and_eq_true] at h
    obtain ⟨h1, h2⟩ := clean_ok d h.1
    obtain ⟨h3, h4⟩ := cleanL_ok ds h.2
    exact ⟨by rw [plainL, h1, h3]; rfl, by rw [PyData.canLayAll0, h2, h4]; rfl⟩
end
theorem okEq_of {d : D} (h : cleanB d = true) (hd : d.depth ≤ 64) : okEq d = true := by
  obtain ⟨h1, h2⟩ := clean_ok d h
  unfold okEq SeqAt.shaped
  rw [h1, h2, decide_eq_true hd]; rfl
theorem okW_of {d : D} (h : cleanB d = true) (hd : d.depth ≤ 190) : okW d = true := by
  obtain ⟨h1, h2⟩ := clean_ok d h
  unfold okW
  rw [h1, h2, Nat.ble_eq_true_of_le hd]; rfl
theorem cleanL_mem {ds : List D} (h : cleanL ds = true) : ∀ d ∈ ds, cleanB d = true := by
  induction ds with
  | nil => intro d m; cases m
  | cons e ds ih =>
    rw [cleanL, Bool.and_eq_true] at h
    intro d m
    cases m with
    | head => exact h.1
    | tail _ m => exact ih h.2 d m
theorem cleanL_of {ds : List D} (h : ∀ d ∈ ds, cleanB d = true) : cleanL ds = true := by
  induction ds with
  | nil => rfl
  | cons e ds ih => rw [cleanL, h e (by simp), ih fun t m => h t (by simp [m])]; rfl
theorem szL_of {ds : List D} (h : ∀ d ∈ ds, szB d = true) : szL ds = true := by
  induction ds with
  | nil => rfl
  | cons e ds ih => rw [szL, h e (by simp), ih fun t m => h t (by simp [m])]; rfl
theorem depthAll_of {ds : List D} {n : Nat} (h : ∀ d ∈ ds, d.depth ≤ n) : PyData.depthAll ds ≤ n := by
  induction ds with
  | nil => rw [PyData.depthAll]; omega
  | cons e ds ih =>
    rw [PyData.depthAll]
    have := h e (by simp)
    have := ih fun t m => h t (by simp [m])
    omega
theorem lowG : ∀ c ∈ GRT.cps.toList, c < 0x110000 := by decide +kernel
theorem lowS : ∀ c ∈ SML.cps.toList, c < 0x110000 := by decide +kernel
theorem lowF : ∀ c ∈ FIG.cps.toList, c < 0x110000 := by decide +kernel
theorem strOk_of {s : Str} (h : ∀ c ∈ s.cps.toList, c < 0x110000) : PyData.strOk s = true := by
  unfold PyData.strOk
  rw [← Array.all_toList, List.all_eq_true]
  intro c m
  exact decide_eq_true (h c m)
theorem nameL_mem {F s : Str} (h : nameL F s.cps.toList = true) : ∀ c ∈ s.cps.toList, c ∈ F.cps.toList ∨ c ∈ FIG.cps.toList := by
  intro c m
  cases hc : s.cps.toList with
  | nil => rw [hc] at m; cases m
  | cons a as =>
    rw [hc] at h m
    simp only [nameL, Bool.and_eq_true] at h
    have := List.all_eq_true.mp h.2 c m
    simpa [okN] using this
theorem nameB_strOk {s : Str} (h : nameB s = true) : PyData.strOk s = true := strOk_of fun c m => (nameL_mem h c m).elim (lowG c) (lowF c)
theorem keyB_strOk {s : Str} (h : keyB s = true) : PyData.strOk s = true := strOk_of fun c m => (nameL_mem h c m).elim (lowS c) (lowF c)
theorem signB_mem {s : Str} (h : signB s = true) : ∀ c ∈ s.cps.toList, c ∈ SML.cps.toList := by
  intro c m
  unfold signB at h
  simp only [Bool.and_eq_true] at h
  have := List.all_eq_true.mp h.2 c m
  simpa using this
theorem signB_strOk {s : Str} (h : signB s = true) : PyData.strOk s = true := strOk_of fun c m => lowS c (signB_mem h c m)
mutual
theorem clean_enc : ∀ t : Tr, t.ok = true → cleanB t.enc = true
  | .sign s, h => by rw [Tr.enc, cleanB, cleanL, cleanL, cleanL, show cleanB (.str s) = true from signB_strOk h]; decide +kernel
  | .void, _ => by decide +kernel
  | .hole n, h => by rw [Tr.enc, cleanB, cleanL, cleanL, cleanL, show cleanB (.str n) = true from nameB_strOk h]; decide +kernel
  | .foot n, h => by rw [Tr.enc, cleanB, cleanL, cleanL, cleanL, show cleanB (.str n) = true from nameB_strOk h]; decide +kernel
  | .knot n tk ks, h => by
    rw [Tr.ok] at h
    simp only [Bool.and_eq_true, decide_eq_true_eq] at h
    have h2 : cleanB (encTk tk) = true := by
      cases tk with
      | none => rfl
      | some p => rw [encTk, cleanB, cleanL, cleanL, cleanL, show cleanB (.str p.1) = true from nameB_strOk h.2.1]; rfl
    rw [Tr.enc, cleanB, cleanL, cleanL, cleanL, cleanL, cleanL, show cleanB (.str n) = true from nameB_strOk h.1, h2, show cleanB (.tuple (Tr.encL ks)) = true from cleanL_enc ks h.2.2.2.2]; decide +kernel
theorem cleanL_enc : ∀ ts : List Tr, Tr.okL ts = true → cleanL (Tr.encL ts) = true
  | [], _ => rfl
  | t :: ts, h => by
    rw [Tr.okL, Bool.and_eq_true] at h
    rw [Tr.encL, cleanL, clean_enc t h.1, cleanL_enc ts h.2]; rfl
end
end GM
namespace GM
open PySem L2 GS
/-- _law_cell(state); slots 0:state -/
def m_law_cell : SF := (sSeq (sPut 0 (eC (.str (Str.ofString "at"))) (eBin addD (eBin ixA (eVb 0) (eC (.str (Str.ofString "at")))) (eC (.int 1)))) (sSeq (sIf (eB (eBin (ltI fun i j => decide (j < i)) (eBin ixA (eVb 0) (eC (.str (Str.ofString "at")))) (eCB (un1 lenD) (aCons (eBin ixA (eVb 0) (eC (.str (Str.ofString "script")))) aNil)))) (sRet (eC (.int 0))) sNil) (sEnd (sRet (eBin ixA (eBin ixA (eVb 0) (eC (.str (Str.ofString "script")))) (eBin subD (eBin ixA (eVb 0) (eC (.str (Str.ofString "at")))) (eC (.int 1))))))))
theorem m_law_cell_eq (ρ : Rho) : fnF 1 1 (m_law_cell) ρ = finR 1 (m_law_cell (ρ ++ [])) := fnF_eq 1 1 _
end GM
namespace GS
open PySem L2
/-- one of a list -/
def pick {α : Type} [Inhabited α] (xs : List α) (i : Int) : α := (atI xs i).getD default
theorem atI_pick {α : Type} [Inhabited α] {xs : List α} {i : Int} (h0 : 0 ≤ i) (h1 : i < xs.length) : atI xs i = some (pick xs i) ∧ pick xs i ∈ xs := by
  obtain ⟨x, h2, h3⟩ := atI_lt h0 h1
  unfold pick
  rw [h2]
  exact ⟨rfl, h3⟩
@[simp] theorem atI_mod {α : Type} [Inhabited α] {xs : List α} {c n : Int} (h0 : 0 < n) (h : n = xs.length) : atI xs (c % n) = some (pick xs (c % n)) :=
  (atI_pick (Int.emod_nonneg _ (by omega)) (by rw [← h]; exact Int.emod_lt_of_pos _ h0)).1
theorem pick_mem {α : Type} [Inhabited α] {xs : List α} {c n : Int} (h0 : 0 < n) (h : n = xs.length) : pick xs (c % n) ∈ xs :=
  (atI_pick (Int.emod_nonneg _ (by omega)) (by rw [← h]; exact Int.emod_lt_of_pos _ h0)).2
@[simp] theorem atI_1 {α : Type} (a b : α) (r : List α) : atI (a :: b :: r) 1 = some b := by
  have := atI_nat (xs := a :: b :: r) (j := 1) (v := b) rfl
  exact this
@[simp] theorem atI_2 {α : Type} (a b c : α) (r : List α) : atI (a :: b :: c :: r) 2 = some c := by
  have := atI_nat (xs := a :: b :: c :: r) (j := 2) (v := c) rfl
  exact this
@[simp] theorem atI_3 {α : Type} (a b c d : α) (r : List α) : atI (a :: b :: c :: d :: r) 3 = some d := by
  have := atI_nat (xs := a :: b :: c :: d :: r) (j := 3) (v := d) rfl
  exact this
instance : Inhabited D := ⟨.none⟩
@[simp] theorem strOk_ofS (a : String) : PyData.strOk (Str.ofString a) = true := by
  unfold PyData.strOk
  rw [← Array.all_toList, ofS_cps, List.all_eq_true]
  intro c m
  obtain ⟨ch, _, rfl⟩ := List.mem_map.mp m
  have := ch.valid
  refine decide_eq_true ?_
  unfold Char.toNat
  rcases this with h | h
  · have : ch.val.toNat < 0xd800 := h
    omega
  · exact h.2
end GS
namespace GM
open PySem L2 GS
/-- the state that cells are drawn from -/
def stD (ns : List Int) (a : Int) : Option Int → D
  | none => .dict [(.str (Str.ofString "script"), .list (ns.map .int)), (.str (Str.ofString "at"), .int a)]
  | some k => .dict [(.str (Str.ofString "script"), .list (ns.map .int)), (.str (Str.ofString "at"), .int a), (.str (Str.ofString "keys"), .int k)]
def CellSp (F : FF) : Prop := ∀ (ns : List Int) (a : Nat) (ex : Option Int), ∃ (c : Int) (a' : Nat), F [some ⟨stD ns a ex, .io⟩] = .ok (.sh (.int c)) [some ⟨stD ns a' ex, .io⟩]
theorem law_cell_ok : CellSp (fnF 1 1 m_law_cell) := fun ns a ex => by
  have l2 : 2 < sizeLine := by decide
  have l3 : 3 < sizeLine := by decide
  by_cases h : a < ns.length
  · have h' : ¬ ((ns.length : Int) < a + 1) := by omega
    have e : L2.atI (ns.map PyData.int) (a : Int) = some (.int (ns[a])) := by
      rw [atI_nat (xs := ns.map PyData.int) (j := a) (v := .int (ns[a])) (by simp [h])]
    refine ⟨ns[a], a + 1, ?_⟩
    rw [m_law_cell_eq]
    cases ex <;> simp [m_law_cell, stD, dPut, h', e, l2, l3]
  · have h' : (ns.length : Int) < a + 1 := by omega
    refine ⟨0, a + 1, ?_⟩
    rw [m_law_cell_eq]
    cases ex <;> simp [m_law_cell, stD, dPut, h', l2, l3]
end GM
namespace GS
open PySem L2
theorem cutD_to (ds : List D) (i : Nat) : cutD ds none (some (i : Int)) = ds.take i := by
  unfold cutD
  rw [HT.sIx_none, HT.sIx_nat]
  simp only [List.drop_zero, Nat.sub_zero]
  by_cases h : i ≤ ds.length
  · rw [Nat.min_eq_left h]
  · rw [Nat.min_eq_right (by omega), List.take_of_length_le (Nat.le_refl _), List.take_of_length_le (by omega)]
theorem cutD_from (ds : List D) (i : Nat) : cutD ds (some (i : Int)) none = ds.drop i := by
  unfold cutD
  rw [HT.sIx_none, HT.sIx_nat]
  by_cases h : i ≤ ds.length
  · rw [Nat.min_eq_left h, List.take_of_length_le (by rw [List.length_drop]; omega)]
  · rw [Nat.min_eq_right (by omega), List.drop_of_length_le (Nat.le_refl _), List.drop_of_length_le (by omega), List.take_nil]
end GS
namespace PySem
open Sem (wp)
open AutoSeq1 (wpAny_loadPart')
theorem meets_enumerate_newT (l : Addr) (items : Array Value) (n : Nat) (dct : Option Addr) (sl : Array (Option Value)) :
    Meets (Builtin.«enumerate.__new__» ⟨[.type "enumerate", .ref l], []⟩) (fun _ R s => s.heap.get? l = some { cls := .type "tuple", dict := dct, data := .seq items n, slots := sl } ∧
      R (.ok (.ret (.ref (s.heap.push { cls := .type "tuple_iterator", data := .fields #[.ref l, .int 0 0] }).objs.size)))
        { s with heap := (s.heap.push { cls := .type "tuple_iterator", data := .fields #[.ref l, .int 0 0] }).push { cls := .type "enumerate", data := .fields #[.none, .bool false, .ref s.heap.objs.size, rawInt 0, .none, .none] } }) :=
  .of_wp fun prog w A R s h => by
    obtain ⟨hp, g, d, tk, os⟩ := s; obtain ⟨hl, h⟩ := h
    have hsub := sub_enumerate
    have hL : Heap.IsTuple (Shared.heap ⟨hp, g, d, tk, os⟩) l items := ⟨_, hl, rfl, n, rfl⟩
    wp_walk using wpAny_loadPart' hl
    refine wpAny_stack_any fun st => wpAny_pure ?_
    split
    · rename_i c _ _ _ _ _
      cases (c == Value.type "enumerate")
      · wp_walk using wpAny_loadPart' hl, wpAny_pyIter_tuple hL
        exact ⟨_, rfl, h⟩
      · wp_walk using wpAny_loadPart' hl, wpAny_pyIter_tuple hL
        exact ⟨_, rfl, h⟩
    · wp_walk using wpAny_loadPart' hl, wpAny_pyIter_tuple hL
      exact ⟨_, rfl, h⟩
section
variable {prog : Program} {w : World} {A : Around} {E : Value → Shared → Prop} {s : Shared}
theorem call_enumerate_tuple {l : Addr} {items : Array Value} {Q : Value → Shared → Prop} (hL : s.heap.IsTuple l items)
    (h : ∀ h', IsEnum h' (s.heap.objs.size + 1) s.heap.objs.size 0 .none → h'.IsTupleIter s.heap.objs.size l 0 → h'.objs.size = s.heap.objs.size + 2 →
      (∀ b o, s.heap.get? b = some o → h'.get? b = some o) → Q (.ref (s.heap.objs.size + 1)) { s with heap := h' }) :
    wpAny (model prog w) A (call (.type "enumerate") [.ref l]) Q E s := by
  obtain ⟨⟨c, dct, dt, sl⟩, hl, hc, n, hd⟩ := hL
  replace hc : c = .type "tuple" := hc
  replace hd : dt = .seq items n := hd
  subst hc hd
  refine callType_new F.called_enumerate (by decide) (F.typeCall_enumerate_1 _) (F.newCall_enumerate_1 _) (fun obj => F.args_object_init_2 obj _) F.entry_enumerate_new
    (meets_enumerate_newT l items n dct sl) ⟨hl, ?_⟩
  have hz : (s.heap.push { cls := .type "tuple_iterator", data := .fields #[.ref l, .int 0 0] }).objs.size = s.heap.objs.size + 1 := Heap.size_push ..
  show _ ∧ _
  rw [hz]
  have he : IsEnum ((s.heap.push { cls := .type "tuple_iterator", data := .fields #[.ref l, .int 0 0] }).push
      { cls := .type "enumerate", data := .fields #[.none, .bool false, .ref s.heap.objs.size, rawInt 0, .none, .none] }) (s.heap.objs.size + 1) s.heap.objs.size 0 .none := by
    have := Heap.get?_push_size (s.heap.push { cls := .type "tuple_iterator", data := .fields #[.ref l, .int 0 0] })
      (o := { cls := .type "enumerate", data := .fields #[.none, .bool false, .ref s.heap.objs.size, rawInt 0, .none, .none] }) rfl
    rw [hz] at this; exact this
  refine ⟨⟨_, he, rfl⟩, h _ he ⟨_, Heap.get?_push_of_some _ (Heap.get?_push_size _ rfl), rfl, rfl⟩ (by rw [Heap.size_push, hz]) fun b o x => Heap.get?_push_of_some _ (Heap.get?_push_of_some _ x)⟩
theorem wpAny_pyNext_enumT_end {e it l : Addr} {i : Nat} {items : Array Value} {old : Value} {Q : Option Value → Shared → Prop} (hh : A.handled = none)
    (he : IsEnum s.heap e it i old) (hit : s.heap.IsTupleIter it l i) (hl : s.heap.IsTuple l items) (hx : items[i]? = none)
    (hQ : ∀ h', Heap.ExtBut it s.heap h' → Q none { s with heap := h' }) : wpAny (model prog w) A (pyNext (.ref e)) Q E s := by
  have hT : s.TypeIs (.ref e) "enumerate" := ⟨_, he, rfl⟩
  unfold pyNext
  refine wpAny_bind (wpAny_attempt (wpAny_callSpecial?_slot (name := Str.ofString "__next__") hT F.slot_enumerate_next
    (wpAny_call_entry F.slot_enumerate_next hT F.entry_enumerate_next ?_ (F.args_enumerate_next_1 _))))
  show wpAny _ _ (field (.ref e) 2 >>= _) _ _ _
  refine wpAny_bind (wpAny_field he rfl (x := .ref it) rfl ?_)
  refine wpAny_bind (wpAny_nextOf_tuple_end hh hit hl hx fun h' x he' hx' => ?_)
  obtain ⟨o, ho, hc⟩ := hx'
  refine wpAny_bind (wpAny_isInstance (T := "StopIteration") (b := true) ⟨o, ho, hc⟩ isSubtype_stop ?_)
  exact wpAny_pure (hQ _ he')
end
end PySem
namespace L2
open PySem PySem.Spec PyProof.Rows
def Iet (K : PySem.W.Frag) (a : Addr) : It :=
  ⟨fun i H => ∃ (xs : List V) (x : V), SqT K H a xs ∧ xs[i]? = some x, fun i H v H' => ∃ T o x, v = .ref T ∧ H T = none ∧ o.dict = none ∧ H' = upd H T (.frz o (.tup [.int (i : Nat), x])) ∧ ∀ xs, SqT K H a xs → xs[i]? = some x, fun i H => ∃ xs : List V, SqT K H a xs ∧ xs.length ≤ i⟩
theorem turn_enumT {P : Program} {w : World} {K : PySem.W.Frag} {elts : List Expr} {kk : Nat} {tpos : Pos} (a e it : Addr) :
    Turn P w K (.Tuple elts kk tpos) (Iet K a) [e, it] e (fun i h => (∃ old, IsEnum h e it ((i : Nat) : Int) old) ∧ h.IsTupleIter it a i ∧ e ≠ it) where
  mem := by simp
  obj := fun i h st b hb => by
    obtain ⟨⟨old, he⟩, ⟨o, ho, hc, hd⟩, _⟩ := st
    have e' : b = e ∨ b = it := by simpa using hb
    rcases e' with z | z
    · rw [z]; exact ⟨_, he, fun v q => nomatch q⟩
    · rw [z]; exact ⟨o, ho, fun v q => by rw [hd] at q; cases q⟩
  keep := fun i h h' st k => let ⟨⟨old, he⟩, hi, hne⟩ := st; ⟨⟨old, k e (by simp) _ he⟩, hi.at fun o q => k it (by simp) o q, hne⟩
  item := by
    intro X hP hw hK hc i pins s σ H E I hf st hg
    subst hP hw hK
    obtain ⟨⟨old, he⟩, hit, hne⟩ := st
    obtain ⟨xs, x, hq, hx⟩ := hg
    obtain ⟨its, rv, p, hz⟩ := I.tuple hq
    obtain ⟨u, hu, ru⟩ := rv.get hx
    have hel : e < s.heap.objs.size := Heap.lt_size he
    have hil : it < s.heap.objs.size := by obtain ⟨_, q, _⟩ := hit; exact Heap.lt_size q
    have pt : s.heap.IsTuple a its.toArray := p
    have hea : e ≠ a := fun z => by
      obtain ⟨o, ho, hc', _⟩ := pt
      rw [← z] at ho
      have he' : s.heap.get? e = _ := he
      rw [he'] at ho
      cases ho
      simp at hc'
    have hai : a ≠ it := fun z => by
      obtain ⟨o, ho, hc', _⟩ := pt
      obtain ⟨o2, ho2, hc2, _⟩ := hit
      rw [z, ho2] at ho
      cases ho
      rw [hc2] at hc'
      simp at hc'
    have hlen : i < its.toArray.size := by
      have := (List.getElem?_eq_some_iff.mp hu).1
      simpa using this
    refine wpAny_pyNext_enum_itemD (Draws.tuple (show X.A.in1.handled = none from I.ok.hd hc) it a hai its.toArray) he ⟨hit, pt⟩ hlen hne (by simp; exact ⟨hne, hea⟩) fun u' h' tk hu' ho hst hT hsz hk => ?_
    have eu : u' = u := by
      have h1 : its.toArray[i]? = some u' := hu'
      have h2 : its[i]? = some u' := by simpa using h1
      rw [hu] at h2
      cases h2; rfl
    subst eu
    obtain ⟨hit', _⟩ := hst
    refine ⟨_, rfl, wpAny_letOwnedTupleGo_enum (s := { s with heap := h', toks := tk + 1 }) ho fun h'' he' sb => ?_⟩
    have hT2 : h''.get? s.heap.objs.size = some { cls := .type "tuple", data := .seq #[.int i tk, u'] } := (sb.2 _ (Nat.ne_of_gt hel)).trans hT
    have new : ObjOk X.prog X.w (upd H s.heap.objs.size (.frz { cls := .type "tuple", data := .seq #[.int i tk, u'] } (.tup [.int (i : Nat), x]))) h'' s.heap.objs.size (.frz { cls := .type "tuple", data := .seq #[.int i tk, u'] } (.tup [.int (i : Nat), x])) :=
      ⟨hT2, by show 2 ≤ sizeLine; decide, [.int i tk, u'], .cons ⟨_, rfl⟩ (.cons ru .nil), ⟨_, hT2, rfl, _, rfl⟩⟩
    have I1 : Inv X pins σ (upd H s.heap.objs.size (.frz { cls := .type "tuple", data := .seq #[.int i tk, u'] } (.tup [.int (i : Nat), x]))) { s with heap := h'', toks := tk + 1 } :=
      I.turnedNew (ch := [e, it]) (fun b ob nb q => (sb.2 b (fun z => nb (by simp [z]))).trans (hk b ob (fun z => nb (by simp [z])) (fun z => nb (by simp [z])) q)) hf (Nat.le_refl _) new
    refine ⟨.ref s.heap.objs.size, _, I1, rfl, ⟨_, _, x, rfl, I.hok.fresh (Nat.le_refl _), rfl, rfl, fun ys hy => by rw [I.tuple_inj hy hq]; exact hx⟩, ⟨⟨u', ?_⟩, hit'.at fun o q => (sb.2 it (Ne.symm hne)).trans q, hne⟩, fun b hb => ?_⟩
    · have e1 : ((i + 1 : Nat) : Int) = (i : Int) + 1 := by omega
      rw [e1]; exact he'
    · have hb' : b < s.heap.objs.size := by
        have e' : b = e ∨ b = it := by simpa using hb
        rcases e' with z | z
        · rw [z]; exact hel
        · rw [z]; exact hil
      rw [upd_ne (Nat.ne_of_lt hb')]
      exact (hf b hb).1
  done := by
    intro X hP hw hK hc i pins s σ H E I hf st hg
    subst hP hw hK
    obtain ⟨⟨old, he⟩, hit, hne⟩ := st
    obtain ⟨xs, hq, hx⟩ := hg
    obtain ⟨its, rv, p, hz⟩ := I.tuple hq
    obtain ⟨f0, f1, f2, f3, f4, f5⟩ := hf it (by simp)
    have hl := rv.length
    exact wpAny_pyNext_enumT_end (I.ok.hd hc) he hit (show s.heap.IsTuple a its.toArray from p) (by simp; omega) fun h' eb => ⟨rfl, I.turned (t' := s.toks) (fun b o hb q => eb b o hb q) f0 f1 f3 f4 f5⟩
  self := fun A i s Q E st h => let ⟨⟨_, he⟩, _⟩ := st; wpAny_pyIter_enum he h
def IetL (K : PySem.W.Frag) (a : Addr) : It :=
  ⟨fun i H => ∃ (xs : List V) (x : V), SqL K H a xs ∧ xs[i]? = some x, fun i H v H' => ∃ T o x, v = .ref T ∧ H T = none ∧ o.dict = none ∧ H' = upd H T (.frz o (.tup [.int (i : Nat), x])) ∧ ∀ xs, SqL K H a xs → xs[i]? = some x, fun i H => ∃ xs : List V, SqL K H a xs ∧ xs.length ≤ i⟩
theorem turn_enumL {P : Program} {w : World} {K : PySem.W.Frag} {elts : List Expr} {kk : Nat} {tpos : Pos} (a e it : Addr) :
    Turn P w K (.Tuple elts kk tpos) (IetL K a) [e, it] e (fun i h => (∃ old, IsEnum h e it ((i : Nat) : Int) old) ∧ h.IsListIter it a i ∧ e ≠ it) where
  mem := by simp
  obj := fun i h st b hb => by
    obtain ⟨⟨old, he⟩, ⟨o, ho, hc, hd⟩, _⟩ := st
    have e' : b = e ∨ b = it := by simpa using hb
    rcases e' with z | z
    · rw [z]; exact ⟨_, he, fun v q => nomatch q⟩
    · rw [z]; exact ⟨o, ho, fun v q => by rw [hd] at q; cases q⟩
  keep := fun i h h' st k => let ⟨⟨old, he⟩, hi, hne⟩ := st; ⟨⟨old, k e (by simp) _ he⟩, hi.at fun o q => k it (by simp) o q, hne⟩
  item := by
    intro X hP hw hK hc i pins s σ H E I hf st hg
    subst hP hw hK
    obtain ⟨⟨old, he⟩, hit, hne⟩ := st
    obtain ⟨xs, x, hq, hx⟩ := hg
    obtain ⟨its, rv, p, hz⟩ := I.list hq
    obtain ⟨u, hu, ru⟩ := rv.get hx
    have hel : e < s.heap.objs.size := Heap.lt_size he
    have hil : it < s.heap.objs.size := by obtain ⟨_, q, _⟩ := hit; exact Heap.lt_size q
    have pt : s.heap.IsList a its.toArray := p.isList
    have hea : e ≠ a := fun z => by
      obtain ⟨o, ho, hc', _⟩ := pt
      rw [← z] at ho
      have he' : s.heap.get? e = _ := he
      rw [he'] at ho
      cases ho
      simp at hc'
    have hai : a ≠ it := fun z => by
      obtain ⟨o, ho, hc', _⟩ := pt
      obtain ⟨o2, ho2, hc2, _⟩ := hit
      rw [z, ho2] at ho
      cases ho
      rw [hc2] at hc'
      simp at hc'
    have hlen : i < its.toArray.size := by
      have := (List.getElem?_eq_some_iff.mp hu).1
      simpa using this
    refine wpAny_pyNext_enum_itemD (Draws.list (show X.A.in1.handled = none from I.ok.hd hc) it a hai its.toArray) he ⟨hit, pt⟩ hlen hne (by simp; exact ⟨hne, hea⟩) fun u' h' tk hu' ho hst hT hsz hk => ?_
    have eu : u' = u := by
      have h1 : its.toArray[i]? = some u' := hu'
      have h2 : its[i]? = some u' := by simpa using h1
      rw [hu] at h2
      cases h2; rfl
    subst eu
    obtain ⟨hit', _⟩ := hst
    refine ⟨_, rfl, wpAny_letOwnedTupleGo_enum (s := { s with heap := h', toks := tk + 1 }) ho fun h'' he' sb => ?_⟩
    have hT2 : h''.get? s.heap.objs.size = some { cls := .type "tuple", data := .seq #[.int i tk, u'] } := (sb.2 _ (Nat.ne_of_gt hel)).trans hT
    have new : ObjOk X.prog X.w (upd H s.heap.objs.size (.frz { cls := .type "tuple", data := .seq #[.int i tk, u'] } (.tup [.int (i : Nat), x]))) h'' s.heap.objs.size (.frz { cls := .type "tuple", data := .seq #[.int i tk, u'] } (.tup [.int (i : Nat), x])) :=
      ⟨hT2, by show 2 ≤ sizeLine; decide, [.int i tk, u'], .cons ⟨_, rfl⟩ (.cons ru .nil), ⟨_, hT2, rfl, _, rfl⟩⟩
    have I1 : Inv X pins σ (upd H s.heap.objs.size (.frz { cls := .type "tuple", data := .seq #[.int i tk, u'] } (.tup [.int (i : Nat), x]))) { s with heap := h'', toks := tk + 1 } :=
      I.turnedNew (ch := [e, it]) (fun b ob nb q => (sb.2 b (fun z => nb (by simp [z]))).trans (hk b ob (fun z => nb (by simp [z])) (fun z => nb (by simp [z])) q)) hf (Nat.le_refl _) new
    refine ⟨.ref s.heap.objs.size, _, I1, rfl, ⟨_, _, x, rfl, I.hok.fresh (Nat.le_refl _), rfl, rfl, fun ys hy => by rw [I.list_inj hy hq]; exact hx⟩, ⟨⟨u', ?_⟩, hit'.at fun o q => (sb.2 it (Ne.symm hne)).trans q, hne⟩, fun b hb => ?_⟩
    · have e1 : ((i + 1 : Nat) : Int) = (i : Int) + 1 := by omega
      rw [e1]; exact he'
    · have hb' : b < s.heap.objs.size := by
        have e' : b = e ∨ b = it := by simpa using hb
        rcases e' with z | z
        · rw [z]; exact hel
        · rw [z]; exact hil
      rw [upd_ne (Nat.ne_of_lt hb')]
      exact (hf b hb).1
  done := by
    intro X hP hw hK hc i pins s σ H E I hf st hg
    subst hP hw hK
    obtain ⟨⟨old, he⟩, hit, hne⟩ := st
    obtain ⟨xs, hq, hx⟩ := hg
    obtain ⟨its, rv, p, hz⟩ := I.list hq
    obtain ⟨f0, f1, f2, f3, f4, f5⟩ := hf it (by simp)
    have hl := rv.length
    exact wpAny_pyNext_enum_end (I.ok.hd hc) he hit p.isList (by simp; omega) fun h' eb => ⟨rfl, I.turned (t' := s.toks) (fun b o hb q => eb b o hb q) f0 f1 f3 f4 f5⟩
  self := fun A i s Q E st h => let ⟨⟨_, he⟩, _⟩ := st; wpAny_pyIter_enum he h
/-- enumerate of a list or a tuple -/
def iEnumA (K : PySem.W.Frag) (ta : TA) : TI := fun σ H R => ta σ H fun vs H1 => (∃ a, vs = [.ref a] ∧ (∃ xs, SqL K H1 a xs) ∧ R (IetL K a) H1) ∨ (∃ a, vs = [.ref a] ∧ (∃ xs, SqT K H1 a xs) ∧ R (Iet K a) H1)
theorem pi_enumA {X : Cx} {e : Expr} {ta : TA} {p pos tpos : Pos} {elts : List Expr} {kk : Nat} (hg : Gl X "enumerate") (hm : X.mg "enumerate" = none) (ha : PA X [e] ta) (hs : starEach [e] X.env = [(false, eval e X.env)] := by rfl) :
    PI X (.Tuple elts kk tpos) (.Call (.Name "enumerate" p) [e] [] pos) (iEnumA X.K ta) := by
  refine ⟨fun pins s σ H R I h => ?_⟩
  refine Call_ (ld_blt I hg hm boot_enumerate (PyProof.Rows.callWith_type1 (thn (ha.run pos pins s σ H _ I h) fun us s1 ⟨vs, H1, I1, r1, q1⟩ => ?_) hs rfl))
  rcases q1 with ⟨a, ex, ⟨xs, hq⟩, q⟩ | ⟨a, ex, ⟨xs, hq⟩, q⟩
  all_goals
    subst ex
    cases r1 with
    | cons r rr =>
      cases rr
      cases r
      first
        | (obtain ⟨its, rv, p', hz⟩ := I1.list hq
           refine call_enumerate_list p'.isList fun h' he hit hsz hk => wpAny_pyIter_enum he ?_
           have I2 : Inv X pins σ H1 { s1 with heap := h' } := I1.kept (t' := s1.toks) hk
           refine ⟨s1.heap.objs.size + 1, [s1.heap.objs.size + 1, s1.heap.objs.size], _, _, H1, rfl, I2, turn_enumL a (s1.heap.objs.size + 1) s1.heap.objs.size, ⟨⟨.none, he⟩, hit, Nat.succ_ne_self _⟩, fun b hb => ?_, q⟩)
        | (obtain ⟨its, rv, p', hz⟩ := I1.tuple hq
           refine call_enumerate_tuple (show s1.heap.IsTuple a its.toArray from p') fun h' he hit hsz hk => wpAny_pyIter_enum he ?_
           have I2 : Inv X pins σ H1 { s1 with heap := h' } := I1.kept (t' := s1.toks) hk
           refine ⟨s1.heap.objs.size + 1, [s1.heap.objs.size + 1, s1.heap.objs.size], _, _, H1, rfl, I2, turn_enumT a (s1.heap.objs.size + 1) s1.heap.objs.size, ⟨⟨.none, he⟩, hit, Nat.succ_ne_self _⟩, fun b hb => ?_, q⟩)
      have e' : b = s1.heap.objs.size + 1 ∨ b = s1.heap.objs.size := by simpa using hb
      have hle : s1.heap.objs.size ≤ b := by
        rcases e' with z | z
        · rw [z]; exact Nat.le_add_right _ _
        · rw [z]; exact Nat.le_refl _
      exact I1.fpOk hle (I1.hok.fresh hle)
/-- pairs in new tuples -/
def YPairX (f g : Nat → Option V) : Nat → Hp → V → Hp → Prop := fun i H v H' => ∃ T o x y, v = .ref T ∧ H T = none ∧ o.dict = none ∧ H' = upd H T (.frz o (.tup [x, y])) ∧ f i = some x ∧ g i = some y
theorem walk_enumT {K : PySem.W.Frag} {a : Addr} {xs : List V} : Walk (Iet K a) xs.length (fun H => SqT K H a xs) (YPairX (fun i => some (.int (i : Nat))) (fun i => xs[i]?)) := by
  refine ⟨fun i _ hi q => ⟨xs, xs[i], q, by simp [hi]⟩, fun _ q => ⟨xs, q, Nat.le_refl _⟩, fun i H v H' _ q y => ?_⟩
  obtain ⟨T, o, x, h1, h2, h0, h3, h4⟩ := y
  exact ⟨T, o, .int (i : Nat), x, h1, h2, h0, h3, rfl, h4 xs q⟩
theorem walk_enumL {K : PySem.W.Frag} {a : Addr} {xs : List V} : Walk (IetL K a) xs.length (fun H => SqL K H a xs) (YPairX (fun i => some (.int (i : Nat))) (fun i => xs[i]?)) := by
  refine ⟨fun i _ hi q => ⟨xs, xs[i], q, by simp [hi]⟩, fun _ q => ⟨xs, q, Nat.le_refl _⟩, fun i H v H' _ q y => ?_⟩
  obtain ⟨T, o, x, h1, h2, h0, h3, h4⟩ := y
  exact ⟨T, o, .int (i : Nat), x, h1, h2, h0, h3, rfl, h4 xs q⟩
end L2
namespace GS
open PySem L2
/-- numbered -/
def enD (ds : List D) : List D := ds.mapIdx fun i d => .tuple [.int (i : Int), d]
def seqs : D → Option (List D)
  | .list ds => some ds
  | .tuple ds => some ds
  | _ => none
def iEn (fe : EF) : IF := fun ρ => bindEI (eCap fe ρ) fun h ρ1 => match h with
  | .sh d => match seqs d with
    | some ds => .ok (enD ds) ρ1
    | none => .stuck
  | _ => .stuck
section
variable {X : Cx} {C : Ct} {ρ ρ1 : Rho} {σ σ1 : St} {B H B1 H1 : Hp} {e tg : Expr} {te : TE} {fe : EF} {pos p tpos : Pos}
theorem enD_get (ds : List D) (i : Nat) (d : D) (h : ds[i]? = some d) : (enD ds)[i]? = some (.tuple [.int (i : Int), d]) := by
  unfold enD
  rw [List.getElem?_mapIdx, h]
  rfl
theorem it_en {K : KW} {J : It} {xs : List V} {ds : List D} {G : Hp → Prop} (w : Walk J xs.length G (YPairX (fun i => some (.int (i : Nat))) (fun i => xs[i]?))) (hG : ∀ H, Same B H → G H) (r : RpL K B xs ds) : ItOk K B (enD ds) J := by
  unfold ItOk
  rw [show (enD ds).length = xs.length by unfold enD; rw [List.length_mapIdx, r.length]]
  refine w.mono hG fun i H x H' hi s y => ?_
  obtain ⟨T, o, a, b, h1, h2, h0, h3, h4, h5⟩ := y
  cases h4
  obtain ⟨d, q1, q2⟩ := r.getV h5
  exact ⟨_, enD_get ds i d q1, .inr ⟨T, o, _, _, h1, h2, h0, h3, rfl, .cons (.int _) (.cons q2 .nil)⟩⟩
theorem lk_en (l : LkE C te fe) : LkI C (iEnumA C.K (tCons te tNil)) (iEn fe) := fun ρ σ B H R S g => by
  refine l.cap.bindI S g fun hd ρ1 v B1 H1 S1 x1 y1 g1 => ?_
  cases hd with
  | sh d =>
    cases d with
    | list ds =>
      obtain ⟨a, vs, rfl, ha, ra⟩ := Rp.lstE y1
      exact .inl ⟨a, rfl, ⟨vs, same_l S1.bh ha⟩, g1 _ B1 H1 S1 x1 (it_en walk_enumL (fun H s => same_l s ha) ra)⟩
    | tuple ds =>
      obtain ⟨a, vs, rfl, ha, ra⟩ := Rp.tupE y1
      exact .inr ⟨a, rfl, ⟨vs, same_t S1.bh ha⟩, g1 _ B1 H1 S1 x1 (it_en walk_enumT (fun H s => same_t s ha) ra)⟩
    | _ => exact g1.elim
  | _ => exact g1.elim
theorem si_en {elts : List Expr} {kk : Nat} (l : SE X C e te fe) (hm : X.mg "enumerate" = none) (hg : Gl X "enumerate" := by rfl) (hk : X.K = C.K := by rfl) (hs : starEach [e] X.env = [(false, eval e X.env)] := by rfl) :
    SI X C (.Tuple elts kk tpos) (.Call (.Name "enumerate" p) [e] [] pos) (iEnumA C.K (tCons te tNil)) (iEn fe) := ⟨by rw [← hk]; exact pi_enumA hg hm (pa_cons l.pe pa_nil hs) hs, lk_en l.lk⟩
end
end GS
namespace GS
open PySem L2
section
variable {K : KW} {X : Cx} {C : Ct} {ρ ρ1 : Rho} {σ σ1 : St} {B H B1 H1 : Hp} {e e2 : Expr} {te ti : TE} {fe fi : EF} {pos : Pos} {st : Stmt}
def extD (zs : List D) : D → Option D
  | .list ds => if ds.length + zs.length ≤ sizeLine then some (.list (ds ++ zs)) else none
  | _ => none
def sExt (i : Nat) (fe : EF) : SF := fun ρ => if isL ρ i then bindES (fe ρ) fun h ρ1 => match h with
  | .fr (.list zs) => mutS ρ1 i (extD zs)
  | _ => .stuck else .stuck
theorem ss_ext {i : Nat} {x : Str} {q1 q2 q3 : Pos} (l : SE X C e te fe) (hN : X.N[i]? = some x := by rfl) (hv : Vis X.env.scope x := by first | exact Or.inl rfl | exact Or.inr (Or.inl rfl) | exact Or.inr (Or.inr rfl)) (hd : (x == ("__debug__" : Str)) = false := by decide)
    (hcd : (x == ("__classdict__" : Str)) = false := by decide) (hk : X.K = C.K := by rfl) (hs : starEach [e] X.env = (false, eval e X.env) :: starEach [] X.env := by rfl)
    (hfew : ((backTo q3 (starEach [e] X.env)).all (fun x => !x.1) && (backToKw q3 (keywordEach [] X.env)).all (fun x => x.1.isSome) && decide ([e].length + ([] : List Keyword).length + (if ([] : List Keyword).isEmpty then 0 else 1) < 30)) = true := by rfl)
    (hline : (q2.endLine == q3.line) = true := by rfl) :
    SS X C (.Expr (.Call (.Attribute (.Name x q1) "extend" q2) [e] [] q3) pos) (tDrop (tBM C.K "list" rExtend (tVar i) (tCons te tNil))) (sExt i fe) := by
  refine ⟨by rw [← hk]; exact ps_expr (pe_bm PySem.F.plainAttrs_list PySem.F.slot_list_extend PySem.F.type_list_extend mt_extend (pe_var hN hv hd hcd) (pa_cons l.pe pa_nil hs) rfl hfew hline hs), fun ρ σ B H E S g => ?_⟩
  unfold sExt at g
  by_cases hl : isL ρ i = true
  case neg => rw [if_neg hl] at g; exact g.elim
  rw [if_pos hl] at g
  obtain ⟨a, vs, ea, sq⟩ := isL_ok S hl
  refine ⟨.ref a, ea, tyL sq, ?_⟩
  refine l.lk.bindS S g fun hd ρ1 v B1 H1 S1 x1 y1 g1 => ?_
  cases hd with
  | fr y =>
    cases y with
    | list zs =>
      obtain ⟨c, d', h1, h2, h3, h4⟩ := mutS_ok g1
      obtain ⟨a', ea', hb, ow⟩ := S1.own h1 h2
      rw [ea] at ea'
      cases ea'
      obtain ⟨b, rfl, bb, owb, nb, _⟩ := y1
      obtain ⟨us, eu, ru⟩ := owb
      obtain ⟨d, fl⟩ := c
      cases d with
      | list ds =>
        obtain ⟨hc, rfl⟩ := if_some (show (if ds.length + zs.length ≤ sizeLine then some (.list (ds ++ zs)) else none) = some d' from h3)
        obtain ⟨ws, ew, rw'⟩ := ow
        have ow' : Ow C.K B1 a (some (.lst (ws ++ us))) (.list (ds ++ zs)) := ⟨_, rfl, rw'.append ru⟩
        obtain ⟨S2, x2⟩ := S1.mut h1 h2 ea ow'
        exact ⟨a, b, ws, us, rfl, rfl, ew, eu, by rw [rw'.length, ru.length]; exact hc, h4 _ _ _ S2 (x1.trans x2)⟩
      | _ => cases h3
    | _ => exact g1.elim
  | _ => exact g1.elim
def okI (i : Int) : Bool := decide (0 ≤ i) && Nat.ble i.natAbs 1000000000
def insD (k : Int) (y : D) : D → Option D
  | .list ds => if decide (ds.length < sizeLine) && okI k then some (.list (ds.take k.toNat ++ [y] ++ ds.drop k.toNat)) else none
  | _ => none
def insR (i : Nat) (k : Int) (h : Hd) (ρ : Rho) : RS := match h with
  | .sh y => mutS ρ i (insD k y)
  | _ => .stuck
def insI (i : Nat) (fe : EF) (o : Option D) (ρ : Rho) : RS := match o with
  | some (.int k) => bindES (eCap fe ρ) (insR i k)
  | _ => .stuck
def sIns (i : Nat) (fi fe : EF) : SF := fun ρ => if isL ρ i then bindES (eSet fi ρ) fun h ρ1 => insI i fe (getH ρ1 h) ρ1 else .stuck
theorem ss_ins {i : Nat} {x : Str} {q1 q2 q3 : Pos} (li : SE X C e ti fi) (l : SE X C e2 te fe) (hN : X.N[i]? = some x := by rfl) (hv : Vis X.env.scope x := by first | exact Or.inl rfl | exact Or.inr (Or.inl rfl) | exact Or.inr (Or.inr rfl)) (hd : (x == ("__debug__" : Str)) = false := by decide)
    (hcd : (x == ("__classdict__" : Str)) = false := by decide) (hk : X.K = C.K := by rfl) (hs : starEach [e, e2] X.env = (false, eval e X.env) :: starEach [e2] X.env := by rfl) (hs2 : starEach [e2] X.env = (false, eval e2 X.env) :: starEach [] X.env := by rfl)
    (hfew : ((backTo q3 (starEach [e, e2] X.env)).all (fun x => !x.1) && (backToKw q3 (keywordEach [] X.env)).all (fun x => x.1.isSome) && decide ([e, e2].length + ([] : List Keyword).length + (if ([] : List Keyword).isEmpty then 0 else 1) < 30)) = true := by rfl)
    (hline : (q2.endLine == q3.line) = true := by rfl) (hplain : (backTo q3 (starEach [e2] X.env)).any (·.1) = false := by rfl) :
    SS X C (.Expr (.Call (.Attribute (.Name x q1) "insert" q2) [e, e2] [] q3) pos) (tDrop (tBM C.K "list" (fun x vs H Q => ∃ (l : Addr) (xs : List V) (i : Int) (y : V), x = .ref l ∧ vs = [.int i, y] ∧ H l = some (.lst xs) ∧ xs.length < sizeLine ∧ 0 ≤ i ∧ i < 2 ^ 63 ∧
    Q .non (upd H l (.lst (xs.take i.toNat ++ [y] ++ xs.drop i.toNat)))) (tVar i) (tCons ti (tCons te tNil)))) (sIns i fi fe) := by
  refine ⟨by rw [← hk]; exact ps_expr (pe_bm PySem.F.plainAttrs_list PySem.F.slot_list_insert PySem.F.type_list_insert mt_insert (pe_var hN hv hd hcd) (pa_cons li.pe (pa_cons l.pe pa_nil hs2) hs) rfl hfew hline hs hplain), fun ρ σ B H E S g => ?_⟩
  unfold sIns at g
  by_cases hl : isL ρ i = true
  case neg => rw [if_neg hl] at g; exact g.elim
  rw [if_pos hl] at g
  obtain ⟨a, vs, ea, sq⟩ := isL_ok S hl
  refine ⟨.ref a, ea, tyL sq, ?_⟩
  refine (LkE.set li.lk).bindS S g fun hd ρ1 v B1 H1 S1 x1 y1 g1 => ?_
  unfold insI at g1
  split at g1
  · rename_i k ek
    have tk := S1.tp y1 ek
    rw [tk.int]
    refine l.lk.cap.bindS S1 (GoodS.ext x1 g1) fun hd2 ρ2 v2 B2 H2 S2 x2 y2 g2 => ?_
    cases hd2 with
    | sh y =>
      obtain ⟨c, d', h1, h2, h3, h4⟩ := mutS_ok g2
      obtain ⟨a', ea', hb, ow⟩ := S2.own h1 h2
      rw [ea] at ea'
      cases ea'
      obtain ⟨d, fl⟩ := c
      cases d with
      | list ds =>
        obtain ⟨hc, rfl⟩ := if_some (show (if decide (ds.length < sizeLine) && okI k then some (.list (ds.take k.toNat ++ [y] ++ ds.drop k.toNat)) else none) = some d' from h3)
        rw [Bool.and_eq_true] at hc
        have hk2 := hc.2
        unfold okI at hk2
        rw [Bool.and_eq_true] at hk2
        have k0 := of_decide_eq_true hk2.1
        have k1 := Nat.le_of_ble_eq_true hk2.2
        obtain ⟨ws, ew, rw'⟩ := ow
        have ow' : Ow C.K B2 a (some (.lst (ws.take k.toNat ++ [v2] ++ ws.drop k.toNat))) (.list (ds.take k.toNat ++ [y] ++ ds.drop k.toNat)) := ⟨_, rfl, ((rw'.take _).append (.cons y2 .nil)).append (rw'.drop _)⟩
        obtain ⟨S3, x3⟩ := S2.mut h1 h2 ea ow'
        exact ⟨a, ws, k, v2, rfl, rfl, ew, by rw [rw'.length]; exact of_decide_eq_true hc.1, k0, by omega, h4 _ _ _ S3 (x2.trans x3)⟩
      | _ => cases h3
    | _ => exact g2.elim
  · exact g1.elim
end
end GS
namespace GS
open PySem L2
section
variable {ρ ρ1 : Rho} {c : Prop} [Decidable c]
def enR (h : Hd) (ρ : Rho) : RI := match h with
  | .sh d => match seqs d with
    | some ds => .ok (enD ds) ρ
    | none => .stuck
  | _ => .stuck
@[simp] theorem enR_l (ds : List D) : enR (.sh (.list ds)) ρ = .ok (enD ds) ρ := rfl
@[simp] theorem enR_t (ds : List D) : enR (.sh (.tuple ds)) ρ = .ok (enD ds) ρ := rfl
@[simp] theorem iEn_eq (f : EF) : iEn f ρ = bindEI (eCap f ρ) enR := by unfold iEn enR; rfl
theorem enD_len (ds : List D) : (enD ds).length = ds.length := by unfold enD; rw [List.length_mapIdx]
theorem enD_mid {ds pre post : List D} {d : D} (h : enD ds = pre ++ d :: post) : ∃ x, ds[pre.length]? = some x ∧ d = .tuple [.int (pre.length : Int), x] := by
  have h2 : (enD ds)[pre.length]? = some d := by rw [h, List.getElem?_append_right (Nat.le_refl _), Nat.sub_self]; rfl
  have h3 : pre.length < ds.length := by rw [← enD_len ds]; exact (List.getElem?_eq_some_iff.mp h2).1
  have h4 : ds[pre.length]? = some ds[pre.length] := List.getElem?_eq_getElem h3
  rw [enD_get ds _ _ h4] at h2
  exact ⟨_, h4, (Option.some.inj h2).symm⟩
def extR (i : Nat) (h : Hd) (ρ : Rho) : RS := match h with
  | .fr (.list zs) => mutS ρ i (extD zs)
  | _ => .stuck
@[simp] theorem extR_l (i : Nat) (zs : List D) : extR i (.fr (.list zs)) ρ = mutS ρ i (extD zs) := rfl
@[simp] theorem sExt_eq (i : Nat) (f : EF) : sExt i f ρ = if isL ρ i then bindES (f ρ) (extR i) else .stuck := by unfold sExt; rfl
@[simp] theorem extD_l (zs ds : List D) : extD zs (.list ds) = if ds.length + zs.length ≤ sizeLine then some (.list (ds ++ zs)) else none := rfl
@[simp] theorem insR_sh (i : Nat) (k : Int) (y : D) : insR i k (.sh y) ρ = mutS ρ i (insD k y) := rfl
@[simp] theorem insI_i (i : Nat) (f : EF) (k : Int) : insI i f (some (.int k)) ρ = bindES (eCap f ρ) (insR i k) := rfl
@[simp] theorem sIns_eq (i : Nat) (fi fe : EF) : sIns i fi fe ρ = if isL ρ i then bindES (eSet fi ρ) (fun h ρ1 => insI i fe (getH ρ1 h) ρ1) else .stuck := rfl
@[simp] theorem insD_l (k : Int) (y : D) (ds : List D) : insD k y (.list ds) = if decide (ds.length < sizeLine) && okI k then some (.list (ds.take k.toNat ++ [y] ++ ds.drop k.toNat)) else none := rfl
theorem okI_nat {m : Nat} (h : m ≤ 1000000000) : okI (m : Int) = true := by
  unfold okI
  rw [Int.natAbs_natCast, Nat.ble_eq_true_of_le h, decide_eq_true (by omega)]; rfl
/-- a loop that appends -/
theorem forL_app {α : Type} {g : D → Rho → Option Rho} {b : SF} (emb : List D → Rho) (it : α → D) (f : α → D) : ∀ (as : List α) (acc : List D), acc.length + as.length ≤ sizeLine →
    (∀ a acc, a ∈ as → acc.length < sizeLine → optR (g (it a) (emb acc)) b = .nx (emb (acc ++ [f a]))) → forL g b (as.map it) (emb acc) = .nx (emb (acc ++ as.map f))
  | [], acc, _, _ => by simp
  | a :: as, acc, hl, k => by
    rw [List.length_cons] at hl
    have h1 := k a acc (List.mem_cons_self ..) (by omega)
    have q := forL_app emb it f as (acc ++ [f a]) (by rw [List.length_append, List.length_singleton]; omega) fun a acc m => k a acc (List.mem_cons_of_mem _ m)
    rw [List.map_cons, forL_cons]
    unfold optR at h1 ⊢
    split at h1
    · cases h1
    · dsimp only
      rw [h1, turnR_nx, q]
      simp
end
end GS
namespace GS
open PySem L2
def wFuel : Nat := 1000000
def mRes (o : D → D → Option Hd) (a b : Option D) (ρ : Rho) : RE := match a, b with
  | some x, some y => (match o x y with
    | some h => .ok h ρ
    | none => .stuck)
  | _, _ => .stuck
section
variable {K : KW} {X : Cx} {C : Ct} {a b : Expr} {ta tb : TE} {fa fb : EF} {apos pos : Pos}
def joinOk (a : Str) (ys : List Str) : Bool := Nat.ble ((ys.map (·.length)).sum + ys.length * a.length) 16777216
end
end GS
namespace GS
open PySem L2
section
variable {ρ ρ1 : Rho} {c : Prop} [Decidable c]
@[simp] theorem mRes_s (o : D → D → Option Hd) (x y : D) : mRes o (some x) (some y) ρ = resO (o x y) ρ := rfl
end
end GS
namespace GS
open PySem L2 PySem.Spec PyProof.Rows
section
variable {X : Cx} {pins : List (Addr × Obj)} {σ : L2.St} {H : Hp} {s : Shared}
end
section
variable {X : Cx} {x n : Str} {c : Value} {i : Nat} {body suite : List Stmt} {b₀ : Stmt} {np pos pos' : Pos} {R : TS} {ts : TS} {Wout : WX}
end
end GS
namespace GS
open PySem L2
section
variable {K : KW} {ρ ρ1 : Rho} {σ σ1 : St} {B H B1 H1 : Hp}
end
section
variable {X : Cx} {C : Ct} {x n : Str} {c : Value} {i : Nat} {body suite : List Stmt} {b₀ : Stmt} {np pos pos' : Pos} {ts : TS} {fb fh : SF} {ns cs : List Str}
def tTry (C : Ct) (f : SF) : TS := fun D σ H => ∃ ρ B, Sim C.K ρ σ B H ∧ GoodS C ρ σ B H D (f ρ)
end
end GS
namespace GS
open PySem L2
section
variable {X : Cx} {C : Ct} {e : Expr} {te : TE} {fe : EF} {pos : Pos} {ns cs : List Str}
end
end GS
namespace GS
open PySem L2
/-- what the written part says of G, whose __init__ is ValueError's -/
def giB (K : PySem.W.Frag) (G : Addr) : Bool := decide (PySem.W.specialIn K (.ref G) "__getattribute__" = some (some (.builtin "type.__getattribute__"))) && (PySem.W.readsIn K G (.type "type") && match PySem.W.findCls K (.ref G) (.type "type") "__init__" with
  | some (.val v) => decide (v = .builtin "ValueError.__init__")
  | _ => false)
theorem giB_ok {K : PySem.W.Frag} {G : Addr} (h : giB K G = true) : PySem.W.specialIn K (.ref G) "__getattribute__" = some (some (.builtin "type.__getattribute__")) ∧ PySem.W.readsIn K G (.type "type") = true ∧ PySem.W.findCls K (.ref G) (.type "type") "__init__" = some (.val (.builtin "ValueError.__init__")) := by
  unfold giB at h
  rw [Bool.and_eq_true, Bool.and_eq_true, decide_eq_true_eq] at h
  obtain ⟨h1, h2, h3⟩ := h
  refine ⟨h1, h2, ?_⟩
  split at h3
  · rename_i v e
    rw [e, of_decide_eq_true h3]
  · cases h3
section
variable {X : Cx} {e : Expr} {es : List Expr} {ta : TA} {p1 p2 pos : Pos} {x : Str} {G : Addr}
open PySem.Spec PyProof.Rows in
theorem pe_ginit {pl : Sem Bool} (hgi : giB X.K G = true) (hm : X.mg x = some (.ref G)) (ha : PA X (e :: es) ta) (hg : Gl X x := by rfl) (hdb : (x == ("__debug__" : Str)) = false := by decide)
    (hc : eval (.Call (.Attribute (.Name x p1) "__init__" p2) (e :: es) [] pos) X.env = (do
      let ov ← eval (.Name x p1) X.env
      standAt p2.atName
      let (f, first) ← holding [ov] (getMethod ov "__init__" pl)
      callWith pos f first (backTo pos (starEach (e :: es) X.env)) (backToKw pos (keywordEach [] X.env))) := by rfl)
    (he : starEach (e :: es) X.env = (false, eval e X.env) :: starEach es X.env := by rfl) (hpl : (backTo pos (starEach es X.env)).any (·.1) = false := by rfl) :
    PE X (.Call (.Attribute (.Name x p1) "__init__" p2) (e :: es) [] pos) (tVeI X.K ta) := by
  obtain ⟨h1, h2, h3⟩ := giB_ok hgi
  refine ⟨fun pins s σ H Q I h => ?_⟩
  refine PySem.W.methodCall_KW (ld_glob I hg hm ?_ hdb) hc
  refine PySem.W.method_cls I.kIn h1 (PySem.W.cls_value I.kIn h2 h3 (by decide +kernel) ?_)
  show wpAny _ _ (callWith pos (Value.builtin "ValueError.__init__") [] (backTo pos (starEach (e :: es) X.env)) []) _ _ _
  refine PyProof.Rows.callWith_method1 (thn (ha.run pos pins _ σ H _ (I.tok _) h) fun us s1 ⟨vs, H1, I1, r1, a, C, ws, ev, hl, T, ea, q⟩ => ?_) he hpl
  subst ev
  cases r1 with
  | @cons _ u0 _ ur ra rw' =>
    obtain rfl : u0 = Value.ref a := ra
    have hlen : ur.length ≤ sizeLine := by
      rw [← Paired.length rw', sizeLine_eq]
      omega
    exact oinit_ok T I1 ea hlen fun s' J => ⟨.non, H1, J, rfl, q⟩
end
/-- what an own __init__ that sets the fields fns keeps -/
def spI (K : PySem.W.Frag) (fns : List Str) : Sp := fun vs H Q _ => ∃ (a C : Addr) (ys : List V), vs = .ref a :: ys ∧ ys.length = fns.length ∧ H a = some (exo a C none) ∧ OexC K C ∧ (∀ f ∈ fns, PySem.W.findIn K (.ref C) f = some none) ∧
  ∀ (dx : Addr) (H' : Hp), H dx = none → dx ≠ a → H' a = some (exo a C (some dx)) → H' dx = some (exd dx (fns.zip ys).reverse) → (∀ b, b ≠ a → b ≠ dx → H' b = H b) → Q .non H'
section
variable {P : Program} {w : World} {K : PySem.W.Frag} {mg : Str → Option Value} {base : Heap}
theorem fn_init1 {f qual msg : Str} {st : Stmt} {fI : Addr} {fd : FuncData} {k : Nat} (F : Fun K "__init__" qual st fI fd) (S : FnScope ["self", f] ["self", f] (defScope st))
    (hok : ∀ cdv A outer s H E, PSs (cxOf (L2.CX P w) P w K mg base ["self", f] qual (defScope st) fI cdv A outer s H E) (defBody st) (tSeq (tDrop (tVeI K (tCons (tVar 0) (tCons (tC (.str msg)) tNil)))) (tOst K f (tVar 0) (tVar 1)))) :
    FnOk P w K mg base (L2.CX P w) (k + 1) fI fd ["self", f] (spI K [f]) := by
  refine F.okX S (fun vs H Q E h => ?_) (fun cdv A outer s H vs Q E hr h => ⟨_, hok cdv A outer s H E, ?_⟩)
  · obtain ⟨a, C, ys, rfl, hl, _⟩ := h
    rw [List.length_cons, hl]; rfl
  · obtain ⟨a, C, ys, rfl, hl, ea, T, hno, q⟩ := h
    match ys, hl with
    | [y], _ =>
      refine ⟨.ref a, rfl, a, C, [.str msg], rfl, by rw [List.length_singleton]; omega, T, ea, ?_⟩
      refine ⟨y, rfl, .ref a, rfl, a, C, rfl, T, hno f (List.mem_singleton.mpr rfl), .inl ⟨ea, fun dx n ne => q dx _ n ne upd_same ?_ fun b h1 h2 => ?_⟩⟩
      · rw [upd_ne ne, upd_same]; rfl
      · rw [upd_ne h1, upd_ne h2]
end
end GS
namespace GS
open PySem L2
abbrev spFv (K : KW) (n : Nat) (F : FF) : Sp := spF K (cvK K) n F
/-- the __init__ as a row of the table: it says only that there is room for it -/
def iniF (k : Nat) : FF := fun _ => if k < 2 then .stuck else .ok (.sh .none) []
/-- .. and what stands behind the row -/
def IniOk (P : Program) (w : World) (K : PySem.W.Frag) (mg : Str → Option Value) (base : Heap) (k : Nat) (fI : Addr) (fd : FuncData) (fns : List Str) (F : FF) : Prop := F [] = .stuck ∨ ∃ k', k = k' + 1 ∧ FnOk P w K mg base (L2.CX P w) k' fI fd ("self" :: fns) (spI K fns)
/-- what the written part says of a class C with its own __init__ at fI -/
def oeB (K : PySem.W.Frag) (C fI : Addr) (fns : List Str) : Bool := decide (PySem.W.findIn K (.ref C) "__setattr__" = some (some (.builtin "object.__setattr__"))) && (decide (PySem.W.subIn K (.ref C) (.type "BaseException") = some true) && (decide (PySem.W.typeIn K (.ref C) = some (.type "type")) &&
  (PySem.W.keepIn K (.ref C) && (decide (PySem.W.findIn K (.ref C) "__init__" = some (some (.ref fI))) && (decide (PySem.W.typeIn K (.ref fI) = some (.type "function")) && fns.all fun f => decide (PySem.W.findIn K (.ref C) f = some none))))))
theorem oeB_ok {K : PySem.W.Frag} {C fI : Addr} {fns : List Str} (h : oeB K C fI fns = true) : PySem.W.findIn K (.ref C) "__setattr__" = some (some (.builtin "object.__setattr__")) ∧ PySem.W.subIn K (.ref C) (.type "BaseException") = some true ∧ PySem.W.typeIn K (.ref C) = some (.type "type") ∧
    PySem.W.keepIn K (.ref C) = true ∧ PySem.W.findIn K (.ref C) "__init__" = some (some (.ref fI)) ∧ PySem.W.typeIn K (.ref fI) = some (.type "function") ∧ ∀ f ∈ fns, PySem.W.findIn K (.ref C) f = some none := by
  unfold oeB at h
  simp only [Bool.and_eq_true, decide_eq_true_eq] at h
  obtain ⟨h1, h2, h3, h4, h5, h6, h7⟩ := h
  exact ⟨h1, h2, h3, h4, h5, h6, fun f hf => of_decide_eq_true (List.all_eq_true.mp h7 f hf)⟩
def sRaise (F : FF) (c : Str) (fns : List Str) (fa : AF) : SF := fun ρ => match F [] with
  | .stuck => .stuck
  | _ => match fa ρ with
    | .stuck => .stuck
    | .exc x ρ1 => .exc x ρ1
    | .ok hs ρ1 => match shs hs with
      | some ds => if ds.length = fns.length ∧ ds.length ≤ 1000 then .exc ⟨c, (fns.zip ds).reverse⟩ ρ1 else .stuck
      | none => .stuck
theorem zip_fst {α β : Type} : ∀ (l : List α) (m : List β), l.length = m.length → (l.zip m).map (·.1) = l
  | [], [], _ => rfl
  | [], _ :: _, h => by cases h
  | _ :: _, [], h => by cases h
  | a :: l, b :: m, h => by
    rw [List.zip_cons_cons, List.map_cons, zip_fst l m (by simpa using h)]
theorem zip_snd {α β : Type} : ∀ (l : List α) (m : List β), l.length = m.length → (l.zip m).map (·.2) = m
  | [], [], _ => rfl
  | [], _ :: _, h => by cases h
  | _ :: _, [], h => by cases h
  | a :: l, b :: m, h => by
    rw [List.zip_cons_cons, List.map_cons, zip_snd l m (by simpa using h)]
section
variable {X : Cx} {C : Ct} {e : Expr} {es : List Expr} {ta : TA} {fa : AF} {p pos pos' : Pos} {x : Str} {fns : List Str}
def tRse (W : WX) (A : Addr) (K : PySem.W.Frag) (fns : List Str) (ta : TA) : TS := fun _ σ H => tMkO A (spI K fns) [] ta σ H fun cls d H' => W cls d σ H'
theorem lk_raise {F : FF} {A fI : Addr} (T : OexC C.K A) (hob : oeB C.K A fI fns = true) (hcx : C.cv x = .ref A) (hF : F [] ≠ .stuck) (l : LkA C ta fa) : LkS C (tRse C.W A C.K fns ta) (sRaise F x fns fa) := fun ρ σ B H D S g => by
  obtain ⟨_, _, _, _, _, _, hno⟩ := oeB_ok hob
  unfold sRaise at g
  have g : GoodS C ρ σ B H D (match fa ρ with
    | .stuck => .stuck
    | .exc x ρ1 => .exc x ρ1
    | .ok hs ρ1 => match shs hs with
      | some ds => if ds.length = fns.length ∧ ds.length ≤ 1000 then .exc ⟨x, (fns.zip ds).reverse⟩ ρ1 else .stuck
      | none => .stuck) := by
    cases eF : F [] with
    | stuck => exact absurd eF hF
    | ok h r => rw [eF] at g; exact g
    | exc y r => rw [eF] at g; exact g
  refine l ρ σ B H _ S ?_
  cases ea : fa ρ with
  | stuck => rw [ea] at g; exact g
  | exc y ρ1 => rw [ea] at g; exact fun cls d B' H' s z => g cls d σ B' H' s z
  | ok hs ρ1 =>
    rw [ea] at g
    dsimp only at g
    intro vs B1 H1 S1 x1 y1
    split at g
    · rename_i ds eds
      split at g
      · rename_i hl
        have r := shs_ok y1 eds
        have hvl : vs.length = fns.length := by rw [r.length]; exact hl.1
        refine ⟨by rw [r.length]; exact hl.2, fun a na => ⟨a, A, vs, by rw [List.append_nil], hvl, upd_same, T, hno, fun dx H' ndx ne e1 e2 e3 => ⟨rfl, dx, _, e1, e2, ?_, ?_⟩⟩⟩
        · rw [upd_ne ne] at ndx; exact ndx
        · rw [upd_ne ne] at ndx
          have eH : upd (del H' a) dx (.xd (fns.zip vs).reverse) = upd H1 dx (.xd (fns.zip vs).reverse) := by
            funext b
            by_cases hb : b = dx
            · rw [hb, upd_same, upd_same]
            · rw [upd_ne hb, upd_ne hb]
              by_cases hb2 : b = a
              · rw [hb2, del_same, na]
              · rw [del_ne hb2, e3 b hb2 hb, upd_ne hb2]
          rw [eH]
          obtain ⟨S2, x2⟩ := S1.newB ndx (.xd (fns.zip vs).reverse)
          refine g (.ref A) (some dx) σ _ _ S2 (x1.trans x2) ⟨hcx.symm, .inr ⟨dx, _, rfl, upd_same, ?_, ?_⟩⟩
          · show ((fns.zip vs).reverse).map (·.1) = ((fns.zip ds).reverse).map (·.1)
            rw [List.map_reverse, List.map_reverse, zip_fst _ _ hvl.symm, zip_fst _ _ hl.1.symm]
          · show RpL C.K _ (((fns.zip vs).reverse).map (·.2)) (((fns.zip ds).reverse).map (·.2))
            rw [List.map_reverse, List.map_reverse, zip_snd _ _ hvl.symm, zip_snd _ _ hl.1.symm]
            exact (r.mono x2.bb).reverse
      · exact g.elim
    · exact g.elim
theorem ss_sem {st : Stmt} {f : SF} (h : ∃ t, SS X C st t f) : SS X C st (tTry C f) f := by
  obtain ⟨t, ht⟩ := h
  refine ⟨⟨fun pins s σ H D I q => ?_⟩, fun ρ σ B H D S g => ⟨ρ, B, S, g⟩⟩
  obtain ⟨ρ, B, S, g⟩ := q
  exact ht.ps.run pins s σ H D I (ht.lk ρ σ B H D S g)
theorem ss_raise0 {F : FF} {A fI : Addr} {fd : FuncData} {k : Nat} (hi : IniOk X.prog X.w X.K X.mg X.base k fI fd fns F) (T : OexC C.K A) (hob : oeB C.K A fI fns = true) (hcx : C.cv x = .ref A) (hm : X.mg x = some (.ref A)) (hb : Binds X.K fd ("self" :: fns) []) (hr : Room k X.A) (tk : Takes X C.W) (hc : X.calm = true) (l : SA X C (e :: es) ta fa)
    (hk : X.K = C.K := by rfl) (hg : Gl X x := by rfl) (hdb : (x == ("__debug__" : Str)) = false := by decide) (he : starEach (e :: es) X.env = (false, eval e X.env) :: starEach es X.env := by rfl) (hpl : (backTo pos (starEach es X.env)).any (·.1) = false := by rfl) :
    ∃ t, SS X C (.Raise (some (.Call (.Name x p) (e :: es) [] pos)) none pos') t (sRaise F x fns fa) := by
  rcases hi with hi | ⟨k', rfl, FO⟩
  · refine ⟨fun _ _ _ => False, ⟨fun pins s σ H D I h => h.elim⟩, fun ρ σ B H D S g => ?_⟩
    unfold sRaise at g
    rw [hi] at g
    exact g
  · by_cases hF : F [] = .stuck
    · refine ⟨fun _ _ _ => False, ⟨fun pins s σ H D I h => h.elim⟩, fun ρ σ B H D S g => ?_⟩
      unfold sRaise at g
      rw [hF] at g
      exact g
    · obtain ⟨h1, h2, h3, h4, h5, h6, h7⟩ := oeB_ok hob
      refine ⟨_, ps_raise hc tk (pmk_oex (sp := spI C.K fns) (dvs := []) (ds := []) (by rw [hk]; exact T) (by rw [hk]; exact h5) (by rw [hk]; exact h6) (by rw [← hk]; exact FO) hr hb .nil (passes_call tk fun _ _ _ _ z => z.elim) hg hm l.pa hdb he hpl), lk_raise T hob hcx hF l.lk⟩
theorem ss_raise {F : FF} {A fI : Addr} {fd : FuncData} {k : Nat} (hi : IniOk X.prog X.w X.K X.mg X.base k fI fd fns F) (T : OexC C.K A) (hob : oeB C.K A fI fns = true) (hcx : C.cv x = .ref A) (hm : X.mg x = some (.ref A)) (hb : Binds X.K fd ("self" :: fns) []) (hr : Room k X.A) (tk : Takes X C.W) (hc : X.calm = true) (l : SA X C (e :: es) ta fa)
    (hk : X.K = C.K := by rfl) (hg : Gl X x := by rfl) (hdb : (x == ("__debug__" : Str)) = false := by decide) (he : starEach (e :: es) X.env = (false, eval e X.env) :: starEach es X.env := by rfl) (hpl : (backTo pos (starEach es X.env)).any (·.1) = false := by rfl) :
    SS X C (.Raise (some (.Call (.Name x p) (e :: es) [] pos)) none pos') (tTry C (sRaise F x fns fa)) (sRaise F x fns fa) := ss_sem (ss_raise0 hi T hob hcx hm hb hr tk hc l hk hg hdb he hpl)
end
end GS
namespace GS
open PySem L2 PySem.Spec PyProof.Rows
end GS
namespace GS
open PySem L2
section
variable {ρ ρ1 : Rho} {c : Prop} [Decidable c]
@[simp] theorem bindBS_ok' (d : D) (b : Bool) (k : Bool → Rho → RS) (h : d = .bool b) : bindBS (.ok (.sh d) ρ) k = k b ρ := by subst h; rfl
@[simp] theorem bindI_ex (x : Xc) (k : List D → Rho → RS) : bindI (.exc x ρ) k = .exc x ρ := rfl
@[simp] theorem bindIE_ex (x : Xc) (k : List D → Rho → RE) : bindIE (.exc x ρ) k = .exc x ρ := rfl
@[simp] theorem consA_ex (h : Hd) (x : Xc) : consA h (.exc x ρ) = .exc x ρ := rfl
/-- a class of exceptions that is raised -/
def Raises (F : FF) : Prop := F [] ≠ .stuck
theorem raises_ini {k : Nat} (h : 2 ≤ k) : Raises (iniF k) := by
  unfold Raises iniF
  rw [if_neg (by omega)]
  exact RE.noConfusion
end
end GS
namespace GM
open PySem L2 GS
/-- _law_is_name(text); slots 0:text 1:one -/
def m_law_is_name_ct1 : EF := (eB (eBin (inB true) (eVb 1) (eC (.str (Str.ofString "ABCDEFGHIJKLMNOPQRSTUVWXYZ0123456789")))))
def m_law_is_name_ce2 : EF := (eMv 1)
def m_law_is_name : SF := (sSeq (sIf (eOr (eB (eBin (eqB false) (eCB (un1 lenD) (aCons (eVb 0) aNil)) (eC (.int 0)))) (eOr (eB (eBin (ltI fun i j => decide (j < i)) (eCB (un1 lenD) (aCons (eVb 0) aNil)) (eC (.int 24)))) (eB (eBin (inB false) (eBin ixA (eVb 0) (eC (.int 0))) (eC (.str (Str.ofString "0123456789"))))))) (sEnd (sRet (eC (.bool false)))) sNil) (sEnd (sRet (eBin (eqB false) (eCB (un1 lenD) (aCons (eLc [1] (iSq (eMv 0)) (gN 1) (eNox (m_law_is_name_ct1)) (eNox (m_law_is_name_ce2))) aNil)) (eC (.int 0))))))
theorem m_law_is_name_eq (ρ : Rho) : fnF 2 1 (m_law_is_name) ρ = finR 1 (m_law_is_name (ρ ++ [none])) := fnF_eq 2 1 _
/-- _law_is_sign(text); slots 0:text 1:one -/
def m_law_is_sign_ct1 : EF := (eB (eBin (inB true) (eVb 1) (eC (.str (Str.ofString "abcdefghijklmnopqrstuvwxyz")))))
def m_law_is_sign_ce2 : EF := (eMv 1)
def m_law_is_sign : SF := (sEnd (sRet (eAnd (eB (eChain (ltI fun i j => decide (i < j)) (ltI fun i j => decide (i < j)) (eC (.int 0)) (eCB (un1 lenD) (aCons (eVb 0) aNil)) (eC (.int 7)))) (eBin (eqB false) (eCB (un1 lenD) (aCons (eLc [1] (iSq (eMv 0)) (gN 1) (eNox (m_law_is_sign_ct1)) (eNox (m_law_is_sign_ce2))) aNil)) (eC (.int 0))))))
theorem m_law_is_sign_eq (ρ : Rho) : fnF 2 1 (m_law_is_sign) ρ = finR 1 (m_law_is_sign (ρ ++ [none])) := fnF_eq 2 1 _
/-- _law_is_tree(thing); slots 0:thing 1:takes 2:kid -/
def m_law_is_tree_ce1 (F__law_is_tree F__law_is_name F__law_is_sign : FF) : EF := (eCall 1 none F__law_is_tree (aCons (eMv 2) aNil))
def m_law_is_tree (F__law_is_tree F__law_is_name F__law_is_sign : FF) : SF := (sSeq (sIf (eOr (eNot (eB (eIsi isTup (eVb 0)))) (eOr (eB (eBin (eqB false) (eCB (un1 lenD) (aCons (eVb 0) aNil)) (eC (.int 0)))) (eNot (eB (eIsi isStr (eBin ixA (eVb 0) (eC (.int 0)))))))) (sEnd (sRet (eC (.bool false)))) sNil) (sSeq (sIf (eB (eBin (inB false) (eBin ixA (eVb 0) (eC (.int 0))) (eTup (aCons (eC (.str (Str.ofString "sign"))) (aCons (eC (.str (Str.ofString "hole"))) (aCons (eC (.str (Str.ofString "foot"))) aNil)))))) (sSeq (sIf (eOr (eB (eBin (eqB true) (eCB (un1 lenD) (aCons (eVb 0) aNil)) (eC (.int 2)))) (eNot (eB (eIsi isStr (eBin ixA (eVb 0) (eC (.int 1))))))) (sEnd (sRet (eC (.bool false)))) sNil) (sEnd (sRet (eIf (eB (eBin (eqB false) (eBin ixA (eVb 0) (eC (.int 0))) (eC (.str (Str.ofString "sign"))))) (eCall 1 none F__law_is_sign (aCons (eBin ixA (eVb 0) (eC (.int 1))) aNil)) (eCall 1 none F__law_is_name (aCons (eBin ixA (eVb 0) (eC (.int 1))) aNil)))))) sNil) (sSeq (sIf (eB (eBin (eqB true) (eBin ixA (eVb 0) (eC (.int 0))) (eC (.str (Str.ofString "knot"))))) (sEnd (sRet (eBin (eqB false) (eVb 0) (eTup (aCons (eC (.str (Str.ofString "void"))) aNil))))) sNil) (sSeq (sIf (eOr (eB (eBin (eqB true) (eCB (un1 lenD) (aCons (eVb 0) aNil)) (eC (.int 4)))) (eOr (eNot (eB (eIsi isStr (eBin ixA (eVb 0) (eC (.int 1)))))) (eNot (eB (eCall 1 none F__law_is_name (aCons (eBin ixA (eVb 0) (eC (.int 1))) aNil)))))) (sEnd (sRet (eC (.bool false)))) sNil) (sSeq (sSet 1 (eBin ixA (eVb 0) (eC (.int 2)))) (sSeq (sIf (eB (eBin (isD true) (eVb 1) (eC .none))) (sSeq (sIf (eOr (eNot (eB (eIsi isTup (eVb 1)))) (eOr (eB (eBin (eqB true) (eCB (un1 lenD) (aCons (eVb 1) aNil)) (eC (.int 2)))) (eNot (eB (eIsi isStr (eBin ixA (eVb 1) (eC (.int 0)))))))) (sEnd (sRet (eC (.bool false)))) sNil) (sIf (eOr (eNot (eB (eCall 1 none F__law_is_name (aCons (eBin ixA (eVb 1) (eC (.int 0))) aNil)))) (eNot (eB (eIsi isBool (eBin ixA (eVb 1) (eC (.int 1))))))) (sEnd (sRet (eC (.bool false)))) sNil)) sNil) (sSeq (sIf (eOr (eNot (eB (eIsi isTup (eBin ixA (eVb 0) (eC (.int 3)))))) (eOr (eB (eBin (eqB false) (eCB (un1 lenD) (aCons (eBin ixA (eVb 0) (eC (.int 3))) aNil)) (eC (.int 0)))) (eB (eBin (ltI fun i j => decide (j < i)) (eCB (un1 lenD) (aCons (eBin ixA (eVb 0) (eC (.int 3))) aNil)) (eC (.int 8)))))) (sEnd (sRet (eC (.bool false)))) sNil) (sEnd (sRet (eCB (un1 allD) (aCons (eLc [2] (iSq (eBin ixA (eVb 0) (eC (.int 3)))) (gN 2) (eNox eYes) (eNox (m_law_is_tree_ce1 F__law_is_tree F__law_is_name F__law_is_sign))) aNil)))))))))))
theorem m_law_is_tree_eq (F__law_is_tree F__law_is_name F__law_is_sign : FF) (ρ : Rho) : fnF 3 1 (m_law_is_tree F__law_is_tree F__law_is_name F__law_is_sign) ρ = finR 1 (m_law_is_tree F__law_is_tree F__law_is_name F__law_is_sign (ρ ++ [none, none])) := fnF_eq 3 1 _
end GM
namespace GM
open PySem L2 GS
theorem none_left (p : Nat → Bool) : ∀ cs : List Nat, (((cs.filter fun c => !p c).length : Int) = 0) ↔ cs.all p = true
  | [] => by simp
  | c :: cs => by
    have ih := none_left p cs
    cases h : p c
    · simp [List.filter_cons, h]
      omega
    · simp only [List.filter_cons, h, Bool.not_true, Bool.false_eq_true, if_false, List.all_cons, Bool.true_and]
      exact ih
theorem cps_gf : (Str.ofString "ABCDEFGHIJKLMNOPQRSTUVWXYZ0123456789").cps.toList = GRT.cps.toList ++ FIG.cps.toList := by decide +kernel
theorem gf_dis : ∀ c ∈ GRT.cps.toList, c ∉ FIG.cps.toList := by decide +kernel
theorem law_is_name_ok : NameSp (fnF 2 1 m_law_is_name) := fun s hs => by
  rw [m_law_is_name_eq]
  have hl := len_eq s
  have hf := lcL_up (vs := [1]) (g := gN 1) (ft := eNox m_law_is_name_ct1) (fe := eNox m_law_is_name_ce2) [some ⟨.str s, .sh⟩, none] (fun c => PyData.str ⟨#[c]⟩) (fun c => [some ⟨.str s, .sh⟩, some ⟨.str ⟨#[c]⟩, .sh⟩]) (fun c => !okN GRT c) (fun c => PyData.str ⟨#[c]⟩) s.cps.toList [] (by rw [← hl]; simpa using hs) (fun c _ => by
    have : decide (c ∈ (Str.ofString "ABCDEFGHIJKLMNOPQRSTUVWXYZ0123456789").cps.toList) = okN GRT c := by rw [cps_gf]; simp [okN]
    simp [m_law_is_name_ct1, m_law_is_name_ce2, this, -Array.mem_toList_iff])
  unfold nameB
  have hn := none_left (okN GRT) s.cps.toList
  cases hc : s.cps.toList with
  | nil =>
    rw [hc] at hl
    simp [m_law_is_name, hs, hl, nameL]
  | cons c cs =>
    rw [hc] at hl hf hn
    rw [List.map_cons] at hf
    rw [List.length_cons] at hl
    rw [hl] at hs
    have z : ¬ ((cs.length : Int) + 1 = 0) := by omega
    by_cases q1 : cs.length + 1 ≤ 24
    · have q2 : ¬ (24 : Int) < cs.length + 1 := by omega
      by_cases q4 : c ∈ FIG.cps
      · have q5 : ¬ c ∈ GRT.cps := fun h => gf_dis c (by simpa using h) (by simpa using q4)
        simp [m_law_is_name, hs, hl, nameL, hc, z, q2, q4, q5]
      · by_cases q6 : (c :: cs).all (okN GRT) = true
        · have q7 : c ∈ GRT.cps := by
            rw [List.all_cons, Bool.and_eq_true] at q6
            have := q6.1
            simpa [okN, q4] using this
          have hn' := hn.mpr q6
          simp [m_law_is_name, hs, hl, nameL, hc, z, q2, q4, q7, q1, q6, hf, hn']
        · have hn' : ¬ _ := fun h => q6 (hn.mp h)
          simp only [Bool.not_eq_true] at q6
          have : nameL GRT (c :: cs) = false := by
            show (_ && _ && (c :: cs).all (okN GRT)) = false
            rw [q6, Bool.and_false]
          rw [this]
          generalize (c :: cs).filter (fun c => !okN GRT c) = fl at hf hn'
          have hn2 : fl ≠ [] := fun e => hn' (by rw [e]; rfl)
          simp [m_law_is_name, hs, hl, hc, z, q2, q4, q1, hf, hn2]
    · have q2 : (24 : Int) < cs.length + 1 := by omega
      have q4 : ¬ cs.length ≤ 23 := by omega
      simp [m_law_is_name, hs, hl, nameL, hc, z, q2, q4]
theorem law_is_sign_ok : SignSp (fnF 2 1 m_law_is_sign) := fun s hs => by
  rw [m_law_is_sign_eq]
  have hl := len_eq s
  have hf := lcL_up (vs := [1]) (g := gN 1) (ft := eNox m_law_is_sign_ct1) (fe := eNox m_law_is_sign_ce2) [some ⟨.str s, .sh⟩, none] (fun c => PyData.str ⟨#[c]⟩) (fun c => [some ⟨.str s, .sh⟩, some ⟨.str ⟨#[c]⟩, .sh⟩]) (fun c => !decide (c ∈ SML.cps)) (fun c => PyData.str ⟨#[c]⟩) s.cps.toList [] (by rw [← hl]; simpa using hs) (fun c _ => by
    simp [m_law_is_sign_ct1, m_law_is_sign_ce2])
  unfold signB
  have hn := none_left (fun c => decide (c ∈ SML.cps)) s.cps.toList
  obtain ⟨cs, hc⟩ : ∃ cs, s.cps.toList = cs := ⟨_, rfl⟩
  rw [hc] at hl hf hn
  rw [hl] at hs
  rw [hc]
  by_cases q1 : 1 ≤ cs.length
  · have q3 : (0 : Int) < cs.length := by omega
    have q3' : 0 < cs.length := by omega
    by_cases q2 : cs.length ≤ 6
    · have q4 : (cs.length : Int) < 7 := by omega
      by_cases q5 : (cs.all fun c => decide (c ∈ SML.cps)) = true
      · have hn' := hn.mpr q5
        simp only [q5]
        simp [m_law_is_sign, hs, hl, hc, q3', q4, q1, q2, hf, hn']
      · have hn' : ¬ _ := fun h => q5 (hn.mp h)
        simp only [Bool.not_eq_true] at q5
        simp only [q5]
        generalize cs.filter (fun c => !decide (c ∈ SML.cps)) = fl at hf hn'
        have hn2 : fl ≠ [] := fun e => hn' (by rw [e]; rfl)
        simp [m_law_is_sign, hs, hl, hc, q3', q4, q1, q2, hf, hn2]
    · have q4 : ¬ (cs.length : Int) < 7 := by omega
      simp [m_law_is_sign, hs, hl, q3', q4, q1, q2]
  · have q3 : ¬ 0 < cs.length := by omega
    simp [m_law_is_sign, hs, hl, q3, q1]
theorem takes_cases {tk : D} (h : takesB tk = true) : tk = .none ∨ ∃ m b, tk = .tuple [.str m, .bool b] ∧ nameB m = true := by
  unfold takesB at h
  split at h
  · exact .inl rfl
  · exact .inr ⟨_, _, rfl, h⟩
  · cases h
theorem knotB_3 {a n tk x : D} (h : isTup x = false) : knotB [a, n, tk, x] = false := by
  cases n <;> first | rfl | (cases x <;> first | rfl | cases h)
theorem knotB_2 {a n tk x : D} (h : takesB tk = false) : knotB [a, n, tk, x] = false := by
  cases n <;> first | rfl | (cases x <;> first | rfl | simp [knotB, h])
theorem knotB_1 {a tk x : D} {n : Str} (h : nameB n = false) : knotB [a, .str n, tk, x] = false := by
  cases x <;> first | rfl | simp [knotB, h]
/-- .. of data that == can look at -/
def LTreeSp (n : Nat) (F : FF) : Prop := ∀ d : D, cleanB d = true → szB d = true → d.depth ≤ n → F [some ⟨d, .sh⟩] = .ok (.sh (.bool (isTree d))) [none]
theorem law_knot {n : Nat} {Ft Fn Fs : FF} (ht : LTreeSp n Ft) (hn : NameSp Fn) {nm : Str} {tk a3 : D} (hnm : Fn [some ⟨.str nm, .sh⟩] = .ok (.sh (.bool (nameB nm))) [none]) (e1 : nameB nm = true) (htk : takesB tk = true)
    (h2 : szB tk = true) (h3 : szB a3 = true) (h4 : cleanB a3 = true) (dp : a3.depth ≤ n + 1) : finR 1 (m_law_is_tree Ft Fn Fs ([some ⟨.tuple [.str (Str.ofString "knot"), .str nm, tk, a3], .sh⟩] ++ [none, none])) = .ok (.sh (.bool (knotB [.str (Str.ofString "knot"), .str nm, tk, a3]))) [none] := by
  cases a3 with
  | tuple ks =>
    have hf := lcL_all (vs := [2]) (g := gN 2) (fe := eNox (m_law_is_tree_ce1 Ft Fn Fs)) [some ⟨.tuple [.str (Str.ofString "knot"), .str nm, tk, .tuple ks], .sh⟩, some ⟨tk, .sh⟩, none] id (fun k => [some ⟨.tuple [.str (Str.ofString "knot"), .str nm, tk, .tuple ks], .sh⟩, some ⟨tk, .sh⟩, some ⟨k, .sh⟩]) (fun k => .bool (isTree k)) ks []
    rw [List.map_id] at hf
    have hm : ks.map (fun k => PyData.bool (isTree k)) = (ks.map isTree).map PyData.bool := by simp
    have hall : (ks.map isTree).all id = ks.all isTree := by simp
    by_cases q1 : ks.length = 0
    · have : ks = [] := by simpa using q1
      subst this
      rcases takes_cases htk with rfl | ⟨m, b, rfl, hm⟩
      · simp [m_law_is_tree, flatD, PyData.eqv, L2.atI, ixN, hnm, e1, knotB]
      · have hmn := hn m (szB_s (szB_t h2 (.str m) (by simp)))
        simp [m_law_is_tree, flatD, PyData.eqv, L2.atI, ixN, hnm, e1, knotB, hmn, hm]
    · have q3 : ¬ (ks.length : Int) = 0 := by omega
      have q3' : 1 ≤ ks.length := by omega
      have q3'' : ks ≠ [] := by simpa using q1
      by_cases q2 : ks.length ≤ 8
      · have q4 : ¬ (8 : Int) < ks.length := by omega
        have hf := hf (fits (by simp; omega)) (fun k hk => by
          have e := ht k (cleanL_mem (by rw [cleanB] at h4; exact h4) k hk) (szB_t h3 k hk) (by have := dep_mem hk; rw [PyData.depth] at dp; omega)
          simp [m_law_is_tree_ce1, e])
        rw [hm] at hf
        rcases takes_cases htk with rfl | ⟨m, b, rfl, hm⟩
        · simp [m_law_is_tree, flatD, PyData.eqv, L2.atI, ixN, hnm, e1, knotB, q3, q4, q3'', hf, takesB, q3', q2, isTreeL_all, allD_l, -List.map_map, hall]
        · have hmn := hn m (szB_s (szB_t h2 (.str m) (by simp)))
          simp [m_law_is_tree, flatD, PyData.eqv, L2.atI, ixN, hnm, e1, knotB, q3, q4, q3'', hf, takesB, q3', q2, isTreeL_all, hmn, hm, allD_l, -List.map_map, hall]
      · have q4 : (8 : Int) < ks.length := by omega
        rcases takes_cases htk with rfl | ⟨m, b, rfl, hm⟩
        · simp [m_law_is_tree, flatD, PyData.eqv, L2.atI, ixN, hnm, e1, knotB, q3, q4, q3'', q2]
        · have hmn := hn m (szB_s (szB_t h2 (.str m) (by simp)))
          simp [m_law_is_tree, flatD, PyData.eqv, L2.atI, ixN, hnm, e1, knotB, q3, q4, q3'', q2, hmn, hm]
  | _ =>
    rw [knotB_3 rfl]
    rcases takes_cases htk with rfl | ⟨m, b, rfl, hm⟩
    · simp [m_law_is_tree, flatD, PyData.eqv, L2.atI, ixN, hnm, e1, isTup]
    · have hmn := hn m (szB_s (szB_t h2 (.str m) (by simp)))
      simp [m_law_is_tree, flatD, PyData.eqv, L2.atI, ixN, hnm, e1, isTup, hmn, hm]
theorem law_is_tree_ok {n : Nat} {Ft Fn Fs : FF} (hn64 : n < 64) (ht : LTreeSp n Ft) (hn : NameSp Fn) (hs : SignSp Fs) : LTreeSp (n + 1) (fnF 3 1 (m_law_is_tree Ft Fn Fs)) := fun d hcl hd dp => by
  have hq := okW_of hcl (by omega)
  rw [m_law_is_tree_eq]
  cases d with
  | tuple ds =>
    cases ds with
    | nil => simp [m_law_is_tree, isTree]
    | cons a r =>
      cases a with
      | str w =>
        have z : ¬ ((r.length : Int) + 1 = 0) := by omega
        by_cases w1 : w = Str.ofString "knot"
        · subst w1
          rw [isTree_knot]
          match r, hd, dp, z with
          | [], _, _, _ => simp [m_law_is_tree, knotB, flatD, PyData.eqv]
          | [_], _, _, _ => simp [m_law_is_tree, knotB, flatD, PyData.eqv]
          | [_, _], _, _, _ => simp [m_law_is_tree, knotB, flatD, PyData.eqv]
          | a1 :: a2 :: a3 :: a4 :: r, _, _, _ =>
            have : ¬ ((r.length : Int) + 1 + 1 + 1 + 1 + 1 = 4) := by omega
            have z : ¬ ((r.length : Int) + 1 + 1 + 1 + 1 + 1 = 0) := by omega
            simp [m_law_is_tree, knotB, flatD, PyData.eqv, this, z]
          | [a1, a2, a3], hd, dp, _ =>
            have h1 := szB_t hd a1 (by simp)
            have h2 := szB_t hd a2 (by simp)
            have h3 := szB_t hd a3 (by simp)
            cases a1 with
            | str nm =>
              have hnm := hn nm (szB_s h1)
              by_cases e1 : nameB nm = true
              · by_cases e2 : takesB a2 = true
                · refine law_knot ht hn hnm e1 e2 h2 h3 (cleanL_mem (by rw [cleanB] at hcl; exact hcl) a3 (by simp)) ?_
                  have := dep_mem (ds := [.str (Str.ofString "knot"), .str nm, a2, a3]) (d := a3) (by simp)
                  rw [PyData.depth] at dp
                  omega
                · simp only [Bool.not_eq_true] at e2
                  rw [knotB_2 e2]
                  cases a2 with
                  | none => cases e2
                  | tuple ts =>
                    match ts, e2, h2 with
                    | [], _, _ => simp [m_law_is_tree, flatD, PyData.eqv, L2.atI, ixN, hnm, e1]
                    | [_], _, _ => simp [m_law_is_tree, flatD, PyData.eqv, L2.atI, ixN, hnm, e1]
                    | b0 :: b1 :: b2 :: r, _, _ =>
                      have : ¬ ((r.length : Int) + 1 + 1 + 1 = 2) := by omega
                      simp [m_law_is_tree, flatD, PyData.eqv, L2.atI, ixN, hnm, e1, this]
                    | [b0, b1], e2, h2 =>
                      cases b0 with
                      | str m =>
                        have hmn := hn m (szB_s (szB_t h2 (.str m) (by simp)))
                        by_cases e3 : nameB m = true
                        · cases b1 with
                          | bool b => simp [takesB, e3] at e2
                          | _ => simp [m_law_is_tree, flatD, PyData.eqv, L2.atI, ixN, hnm, e1, hmn, e3, isBool]
                        · simp only [Bool.not_eq_true] at e3
                          simp [m_law_is_tree, flatD, PyData.eqv, L2.atI, ixN, hnm, e1, hmn, e3]
                      | _ => simp [m_law_is_tree, flatD, PyData.eqv, L2.atI, ixN, hnm, e1, isStr]
                  | _ => simp [m_law_is_tree, flatD, PyData.eqv, L2.atI, ixN, hnm, e1, isTup]
              · simp only [Bool.not_eq_true] at e1
                rw [knotB_1 e1]
                simp [m_law_is_tree, flatD, PyData.eqv, L2.atI, ixN, hnm, e1]
            | _ => simp [m_law_is_tree, knotB, flatD, PyData.eqv, isStr, L2.atI, ixN]
        · have w1' : ¬ (Str.ofString "knot" = w) := fun e => w1 e.symm
          by_cases w2 : w = Str.ofString "void"
          · have he := eqB_of (x := .tuple (.str w :: r)) (y := .tuple [.str (Str.ofString "void")]) false hq (by decide +kernel)
            subst w2
            rw [isTree_void]
            have : PyData.eqv (.tuple (.str (Str.ofString "void") :: r)) (.tuple [.str (Str.ofString "void")]) = r.isEmpty := by
              cases r <;> simp [PyData.eqv, PyData.eqvAll]
            rw [this] at he
            simp [m_law_is_tree, flatD, PyData.eqv, he, z]
          · rw [isTree_leaf r w1 w2]
            by_cases w3 : w = Str.ofString "sign" ∨ w = Str.ofString "hole" ∨ w = Str.ofString "foot"
            · match r, hd with
              | [], _ => rcases w3 with rfl | rfl | rfl <;> simp [m_law_is_tree, leafB, flatD, PyData.eqv]
              | b :: c :: r, _ =>
                have : ¬ ((r.length : Int) + 1 + 1 + 1 = 2) := by omega
                have z : ¬ ((r.length : Int) + 1 + 1 + 1 = 0) := by omega
                rcases w3 with rfl | rfl | rfl <;> simp [m_law_is_tree, leafB, flatD, PyData.eqv, this, z]
              | [b], hd =>
                have h1 := szB_t hd b (by simp)
                cases b with
                | str s =>
                  have e1 := hn s (szB_s h1)
                  have e2 := hs s (szB_s h1)
                  rcases w3 with rfl | rfl | rfl <;> simp [m_law_is_tree, leafB, flatD, PyData.eqv, e1, e2, L2.atI, ixN]
                | _ => rcases w3 with rfl | rfl | rfl <;> simp [m_law_is_tree, leafB, flatD, PyData.eqv, L2.atI, ixN, isStr]
            · have n1 : ¬ w = Str.ofString "sign" := fun e => w3 (.inl e)
              have n2 : ¬ w = Str.ofString "hole" := fun e => w3 (.inr (.inl e))
              have n3 : ¬ w = Str.ofString "foot" := fun e => w3 (.inr (.inr e))
              have n1' : ¬ Str.ofString "sign" = w := fun e => w3 (.inl e.symm)
              have n2' : ¬ Str.ofString "hole" = w := fun e => w3 (.inr (.inl e.symm))
              have n3' : ¬ Str.ofString "foot" = w := fun e => w3 (.inr (.inr e.symm))
              have lf : leafB w r = false := by
                unfold leafB
                split
                · rw [if_neg n1, if_neg n2, if_neg n3]
                · rfl
              rw [lf]
              have he := eqB_of (x := .tuple (.str w :: r)) (y := .tuple [.str (Str.ofString "void")]) false hq (by decide +kernel)
              have : PyData.eqv (.tuple (.str w :: r)) (.tuple [.str (Str.ofString "void")]) = false := by
                simp [PyData.eqv, PyData.eqvAll, w2]
              rw [this] at he
              simp [m_law_is_tree, flatD, PyData.eqv, z, n1', n2', n3', w1, he]
      | _ => simp [m_law_is_tree, isTree, isStr]
  | _ => simp [m_law_is_tree, isTree, isTup]
end GM
namespace GM
open PySem L2 GS
/-- kids_of(tree); slots 0:tree -/
def m_kids_of : SF := (sEnd (sRet (eIf (eB (eBin (eqB false) (eBin ixA (eVb 0) (eC (.int 0))) (eC (.str (Str.ofString "knot"))))) (eBin ixA (eVb 0) (eC (.int 3))) (eTup aNil))))
theorem m_kids_of_eq (ρ : Rho) : fnF 1 1 (m_kids_of) ρ = finR 1 (m_kids_of (ρ ++ [])) := fnF_eq 1 1 _
/-- places(tree); slots 0:tree 1:found 2:k 3:kid 4:place -/
def m_places_b1 (F_kids_of F_places : FF) : SF := (sKill [4] (sApp 1 (eBin addD (eTup (aCons (eMv 2) aNil)) (eVb 4))))
def m_places_b2 (F_kids_of F_places : FF) : SF := (sKill [2, 3, 4] (sFor (iSq (eCall 1 none F_places (aCons (eMv 3) aNil))) (gN 4) (m_places_b1 F_kids_of F_places)))
def m_places (F_kids_of F_places : FF) : SF := (sSeq (sSet 1 (eLst (aCons (eTup aNil) aNil))) (sSeq (sFor (iEn (eCall 1 none F_kids_of (aCons (eMv 0) aNil))) (gT 2 (gsC (gN 2) (gsC (gN 3) gsN))) (m_places_b2 F_kids_of F_places)) (sEnd (sRet (eRv 1)))))
theorem m_places_eq (F_kids_of F_places : FF) (ρ : Rho) : fnF 5 1 (m_places F_kids_of F_places) ρ = finR 1 (m_places F_kids_of F_places (ρ ++ [none, none, none, none])) := fnF_eq 5 1 _
/-- feet_of(tree); slots 0:tree 1:pieces 2:place 3:piece -/
def m_feet_of_ct1 (F_places F_piece_at : FF) : EF := (eB (eBin (eqB false) (eBin ixA (eVb 3) (eC (.int 0))) (eC (.str (Str.ofString "foot")))))
def m_feet_of_ce2 (F_places F_piece_at : FF) : EF := (eBin ixA (eVb 3) (eC (.int 1)))
def m_feet_of_ce3 (F_places F_piece_at : FF) : EF := (eCall 2 none F_piece_at (aCons (eMv 0) (aCons (eMv 2) aNil)))
def m_feet_of (F_places F_piece_at : FF) : SF := (sSeq (sSet 1 (eLc [2] (iSq (eCall 1 none F_places (aCons (eMv 0) aNil))) (gN 2) (eNox eYes) (eNox (m_feet_of_ce3 F_places F_piece_at)))) (sEnd (sRet (eLc [3] (iSq (eMv 1)) (gN 3) (eNox (m_feet_of_ct1 F_places F_piece_at)) (eNox (m_feet_of_ce2 F_places F_piece_at))))))
theorem m_feet_of_eq (F_places F_piece_at : FF) (ρ : Rho) : fnF 4 1 (m_feet_of F_places F_piece_at) ρ = finR 1 (m_feet_of F_places F_piece_at (ρ ++ [none, none, none])) := fnF_eq 4 1 _
end GM
namespace GM
open PySem L2 GS
def Tr.kids : Tr → List Tr
  | .knot _ _ ks => ks
  | _ => []
def Tr.isKnot : Tr → Bool
  | .knot _ _ _ => true
  | _ => false
mutual
def Tr.pieces : Tr → List Tr
  | .knot n tk ks => .knot n tk ks :: Tr.piecesL ks
  | t => [t]
def Tr.piecesL : List Tr → List Tr
  | [] => []
  | t :: ts => t.pieces ++ Tr.piecesL ts
end
mutual
def Tr.places : Tr → List (List Nat)
  | .knot _ _ ks => [] :: Tr.placesL 0 ks
  | _ => [[]]
def Tr.placesL : Nat → List Tr → List (List Nat)
  | _, [] => []
  | k, t :: ts => t.places.map (k :: ·) ++ Tr.placesL (k + 1) ts
end
def Tr.at : Tr → List Nat → Option Tr
  | t, [] => some t
  | t, k :: p => (t.kids[k]?).bind fun u => u.at p
def encP (p : List Nat) : D := .tuple (p.map fun n : Nat => PyData.int (n : Int))
theorem piecesL_flat (ts : List Tr) : Tr.piecesL ts = ts.flatMap Tr.pieces := by
  induction ts with
  | nil => rfl
  | cons t ts ih => rw [Tr.piecesL, ih, List.flatMap_cons]
theorem pieces_kids (t : Tr) : t.pieces = t :: t.kids.flatMap Tr.pieces := by
  cases t <;> simp [Tr.pieces, Tr.kids, piecesL_flat]
theorem places_kids (t : Tr) : t.places = [] :: Tr.placesL 0 t.kids := by
  cases t <;> simp [Tr.places, Tr.kids, Tr.placesL]
theorem ht_kids {t k : Tr} (h : k ∈ t.kids) : k.ht + 1 ≤ t.ht := by
  cases t with
  | knot n tk ks => have := ht_mem (show k ∈ ks from h); rw [Tr.ht]; omega
  | _ => cases h
theorem placesL_snoc (t : Tr) : ∀ (k : Nat) (ts : List Tr), Tr.placesL k (ts ++ [t]) = Tr.placesL k ts ++ t.places.map ((k + ts.length) :: ·)
  | k, [] => by simp [Tr.placesL]
  | k, u :: ts => by
    rw [List.cons_append, Tr.placesL, Tr.placesL, placesL_snoc t (k + 1) ts, List.append_assoc, List.length_cons]
    rw [show k + 1 + ts.length = k + (ts.length + 1) by omega]
mutual
theorem places_len : ∀ t : Tr, t.places.length = t.pieces.length
  | .sign _ => rfl
  | .void => rfl
  | .hole _ => rfl
  | .foot _ => rfl
  | .knot _ _ ks => by rw [Tr.places, Tr.pieces, List.length_cons, List.length_cons, placesL_len ks 0]
theorem placesL_len : ∀ (ts : List Tr) (k : Nat), (Tr.placesL k ts).length = (Tr.piecesL ts).length
  | [], _ => rfl
  | t :: ts, k => by rw [Tr.placesL, Tr.piecesL, List.length_append, List.length_append, List.length_map, places_len t, placesL_len ts (k + 1)]
end
theorem pieces_kid_le {t k : Tr} (h : k ∈ t.kids) : k.pieces.length ≤ t.pieces.length := by
  rw [pieces_kids t, List.length_cons]
  have : ∀ ts : List Tr, k ∈ ts → k.pieces.length ≤ (ts.flatMap Tr.pieces).length := by
    intro ts
    induction ts with
    | nil => intro m; cases m
    | cons u ts ih =>
      intro m
      rw [List.flatMap_cons, List.length_append]
      cases m with
      | head => omega
      | tail _ m => have := ih m; omega
  have := this _ h
  omega
mutual
theorem place_len : ∀ (t : Tr) (p : List Nat), p ∈ t.places → p.length ≤ t.ht
  | .sign _, p, m => by simp [Tr.places] at m; subst m; simp
  | .void, p, m => by simp [Tr.places] at m; subst m; simp
  | .hole _, p, m => by simp [Tr.places] at m; subst m; simp
  | .foot _, p, m => by simp [Tr.places] at m; subst m; simp
  | .knot n tk ks, p, m => by
    rw [Tr.places] at m
    rw [Tr.ht]
    rcases List.mem_cons.mp m with rfl | m
    · simp
    · exact placeL_len ks 0 p m
theorem placeL_len : ∀ (ts : List Tr) (k : Nat) (p : List Nat), p ∈ Tr.placesL k ts → p.length ≤ Tr.htL ts + 1
  | [], _, p, m => by cases m
  | t :: ts, k, p, m => by
    rw [Tr.placesL] at m
    rw [Tr.htL]
    rcases List.mem_append.mp m with m | m
    · obtain ⟨q, hq, rfl⟩ := List.mem_map.mp m
      have := place_len t q hq
      rw [List.length_cons]; omega
    · have := placeL_len ts (k + 1) p m
      omega
end
mutual
theorem at_places : ∀ t : Tr, t.places.map t.at = t.pieces.map some
  | .sign _ => rfl
  | .void => rfl
  | .hole _ => rfl
  | .foot _ => rfl
  | .knot n tk ks => by
    rw [Tr.places, Tr.pieces, List.map_cons, List.map_cons]
    congr 1
    exact at_placesL ks [] n tk ks rfl
theorem at_placesL : ∀ (ts pre : List Tr) (n : Str) (tk : Option (Str × Bool)) (ks : List Tr), pre ++ ts = ks → (Tr.placesL pre.length ts).map (Tr.knot n tk ks).at = (Tr.piecesL ts).map some
  | [], _, _, _, _, _ => rfl
  | t :: ts, pre, n, tk, ks, e => by
    rw [Tr.placesL, Tr.piecesL, List.map_append, List.map_append]
    have h1 := at_placesL ts (pre ++ [t]) n tk ks (by rw [List.append_assoc]; exact e)
    rw [List.length_append, List.length_singleton] at h1
    rw [h1, List.map_map]
    congr 1
    rw [← at_places t]
    apply List.map_congr_left
    intro p _
    show (Tr.at (.knot n tk ks) (pre.length :: p)) = t.at p
    rw [Tr.at, Tr.kids, ← e, List.getElem?_append_right (Nat.le_refl _), Nat.sub_self]
    rfl
end
theorem enc_word (t : Tr) : ∃ w r, t.enc = .tuple (.str w :: r) := by cases t <;> exact ⟨_, _, rfl⟩
def KidsSp (F : FF) : Prop := ∀ t : Tr, F [some ⟨t.enc, .sh⟩] = .ok (.sh (.tuple (t.kids.map Tr.enc))) [none]
theorem kids_of_ok : KidsSp (fnF 1 1 m_kids_of) := fun t => by
  rw [m_kids_of_eq]
  cases t <;> simp [m_kids_of, Tr.enc, Tr.kids, encL_map]
def PlacesSp (n : Nat) (F : FF) : Prop := ∀ t : Tr, t.ht ≤ n → t.pieces.length ≤ 100000 → F [some ⟨t.enc, .sh⟩] = .ok (.fr (.list (t.places.map encP))) [none]
theorem places_ok {n : Nat} {Fk Fp : FF} (hk : KidsSp Fk) (hn : n ≤ 1000) (hp : ∀ m, m + 1 = n → PlacesSp m Fp) : PlacesSp n (fnF 5 1 (m_places Fk Fp)) := fun t ht hz => by
  rw [m_places_eq]
  have ek := hk t
  have hpl := places_kids t
  have lpl := places_len t
  -- one kid's places
  have inner : ∀ (kid : Tr) (i : Nat) (acc : List D), kid.ht ≤ 1000 → acc.length + kid.places.length ≤ sizeLine → forL (gN 4) (m_places_b1 Fk Fp) (kid.places.map encP) [some ⟨t.enc, .sh⟩, some ⟨.list acc, .ow⟩, some ⟨.int i, .sh⟩, some ⟨kid.enc, .sh⟩, none] = .nx [some ⟨t.enc, .sh⟩, some ⟨.list (acc ++ kid.places.map fun p => encP (i :: p)), .ow⟩, some ⟨.int i, .sh⟩, some ⟨kid.enc, .sh⟩, none] := fun kid i acc hh ha => by
    refine forL_app (fun acc => [some ⟨t.enc, .sh⟩, some ⟨.list acc, .ow⟩, some ⟨.int i, .sh⟩, some ⟨kid.enc, .sh⟩, none]) encP (fun p => encP (i :: p)) kid.places acc ha fun p acc m hacc => ?_
    have hpz : 1 + p.length ≤ sizeLine := fits (by have := place_len kid p m; omega)
    simp [m_places_b1, encP, hacc, hpz]
  obtain ⟨ps, hf, hps⟩ := forL_by (S := List (List Nat)) (g := gT 2 (gsC (gN 2) (gsC (gN 3) gsN))) (b := m_places_b2 Fk Fp) (fun ps => [some ⟨t.enc, .sh⟩, some ⟨.list (ps.map encP), .ow⟩, none, none, none])
    (fun pre ps => ps = [] :: Tr.placesL 0 (t.kids.take pre.length)) (enD (t.kids.map Tr.enc)) [[]] (by simp [Tr.placesL]) (fun pre d post ps hd hps => by
      obtain ⟨x, hx, rfl⟩ := enD_mid hd
      rw [List.getElem?_map] at hx
      obtain ⟨kid, hkid, rfl⟩ := Option.map_eq_some_iff.mp hx
      have mk : kid ∈ t.kids := List.mem_of_getElem? hkid
      have h1 := ht_kids mk
      have h2 := hp (n - 1) (by omega) kid (by omega) (by have := pieces_kid_le mk; omega)
      have htk : t.kids.take (pre.length + 1) = t.kids.take pre.length ++ [kid] := by
        rw [List.take_succ, hkid]; rfl
      refine ⟨ps ++ kid.places.map (pre.length :: ·), ?_, ?_⟩
      · have hl : (ps.map encP).length + kid.places.length ≤ sizeLine := by
          rw [List.length_map, hps]
          have e := placesL_snoc kid 0 (t.kids.take pre.length)
          rw [← htk] at e
          have e2 := congrArg List.length e
          rw [List.length_append, List.length_map] at e2
          have e3 : (Tr.placesL 0 (t.kids.take (pre.length + 1))).length ≤ (Tr.placesL 0 t.kids).length := by
            rw [placesL_len, placesL_len, piecesL_flat, piecesL_flat]
            conv => rhs; rw [← List.take_append_drop (pre.length + 1) t.kids, List.flatMap_append, List.length_append]
            omega
          rw [hpl, List.length_cons] at lpl
          rw [List.length_cons]
          exact fits (by omega)
        have hi := inner kid pre.length (ps.map encP) (by omega) hl
        simp [m_places_b2, h2, hi]
      · rw [hps, List.length_append, List.length_singleton, htk, placesL_snoc, List.length_take]
        have : pre.length < t.kids.length := (List.getElem?_eq_some_iff.mp hkid).1
        simp
        intro p _
        omega)
  rw [enD_len, List.length_map, List.take_length] at hps
  rw [← hpl] at hps
  subst hps
  have hf' : forL (gT 2 (gsC (gN 2) (gsC (gN 3) gsN))) (m_places_b2 Fk Fp) (enD (t.kids.map Tr.enc)) [some ⟨t.enc, .sh⟩, some ⟨.list [.tuple []], .ow⟩, none, none, none] = _ := hf
  simp [m_places, ek, hf']
theorem at_snoc (t : Tr) : ∀ (p : List Nat) (k : Nat), t.at (p ++ [k]) = (t.at p).bind fun u => u.kids[k]?
  | [], k => by simp [Tr.at]
  | j :: p, k => by
    rw [List.cons_append, Tr.at, Tr.at]
    cases h : t.kids[j]? with
    | none => rfl
    | some u => simp [at_snoc u p k]
theorem at_pre {t : Tr} {p q : List Nat} {u : Tr} (h : t.at (p ++ q) = some u) : ∃ v, t.at p = some v := by
  induction p generalizing t with
  | nil => exact ⟨t, rfl⟩
  | cons j p ih =>
    rw [List.cons_append, Tr.at] at h
    rw [Tr.at]
    cases hk : t.kids[j]? with
    | none => rw [hk] at h; cases h
    | some v => rw [hk] at h; exact ih h
def PieceSp (F : FF) : Prop := ∀ (t : Tr) (p : List Nat) (u : Tr), t.at p = some u → F [some ⟨t.enc, .sh⟩, some ⟨encP p, .sh⟩] = .ok (.sh u.enc) [none, none]
def Tr.footN : Tr → Option Str
  | .foot n => some n
  | _ => none
def Tr.feet (t : Tr) : List Str := t.pieces.filterMap Tr.footN
def FeetSp (n : Nat) (F : FF) : Prop := ∀ t : Tr, t.ht ≤ n → t.pieces.length ≤ 100000 → F [some ⟨t.enc, .sh⟩] = .ok (.fr (.list (t.feet.map .str))) [none]
/-- the pieces by the places -/
theorem place_piece (t : Tr) : ∃ f : List Nat → Tr, (∀ p ∈ t.places, t.at p = some (f p)) ∧ t.places.map f = t.pieces := by
  have h := at_places t
  refine ⟨fun p => (t.at p).getD default, ?_, ?_⟩
  · intro p m
    have : t.at p ∈ t.pieces.map some := by rw [← h]; exact List.mem_map_of_mem m
    obtain ⟨u, _, e⟩ := List.mem_map.mp this
    show t.at p = some ((t.at p).getD default)
    rw [← e]; rfl
  · have h2 : (t.places.map t.at).map (fun o => o.getD default) = t.pieces := by
      rw [h, List.map_map]
      have : ((fun o : Option Tr => o.getD default) ∘ some) = id := rfl
      rw [this, List.map_id]
    rw [List.map_map] at h2
    exact h2
theorem feet_of_ok {n : Nat} {Fp Fa : FF} (hp : PlacesSp n Fp) (ha : PieceSp Fa) : FeetSp n (fnF 4 1 (m_feet_of Fp Fa)) := fun t ht hz => by
  rw [m_feet_of_eq]
  have ep := hp t ht hz
  obtain ⟨f, hf1, hf2⟩ := place_piece t
  have lp := places_len t
  have h1 := lcL_all (vs := [2]) (g := gN 2) (fe := eNox (m_feet_of_ce3 Fp Fa)) [some ⟨t.enc, .sh⟩, none, none, none] encP (fun p => [some ⟨t.enc, .sh⟩, none, some ⟨encP p, .sh⟩, none]) (fun p => (f p).enc) t.places [] (fits (by simp; omega)) (fun p m => by
    have e := ha t p (f p) (hf1 p m)
    simp [m_feet_of_ce3, e])
  rw [List.nil_append, show (t.places.map fun p => (f p).enc) = t.pieces.map Tr.enc by rw [← hf2, List.map_map]; rfl] at h1
  have h2 := lcL_up (vs := [3]) (g := gN 3) (ft := eNox (m_feet_of_ct1 Fp Fa)) (fe := eNox (m_feet_of_ce2 Fp Fa)) [some ⟨t.enc, .sh⟩, some ⟨.list (t.pieces.map Tr.enc), .sh⟩, none, none] Tr.enc (fun u => [some ⟨t.enc, .sh⟩, some ⟨.list (t.pieces.map Tr.enc), .sh⟩, none, some ⟨u.enc, .sh⟩]) (fun u => u.footN.isSome) (fun u => .str (u.footN.getD default)) t.pieces [] (fits (by simp; omega)) (fun u _ => by
    cases u <;> simp [m_feet_of_ct1, m_feet_of_ce2, Tr.enc, Tr.footN])
  have h3 : (t.pieces.filter fun u => u.footN.isSome).map (fun u => PyData.str (u.footN.getD default)) = t.feet.map .str := by
    unfold Tr.feet
    generalize t.pieces = us
    induction us with
    | nil => rfl
    | cons u us ih =>
      rw [List.filter_cons, List.filterMap_cons]
      cases hu : u.footN with
      | none => simpa using ih
      | some z => simp only [Option.isSome_some, if_true, List.map_cons, hu, Option.getD_some, ih]
  rw [List.nil_append, h3] at h2
  simp [m_feet_of, ep, h1, h2]
def Tr.word : Tr → Str
  | .knot n _ _ => n
  | .foot n => n
  | .hole n => n
  | .sign s => s
  | .void => default
/-- the name of a start or a graft -/
def Tr.name (t : Tr) : Str := match t.feet with
  | [n] => n
  | _ => t.word
theorem pick2 {P : D → Prop} {a b : D} (c : Int) (h1 : P a) (h2 : P b) : P (pick [a, b] (c % 2)) := by
  have := pick_mem (xs := [a, b]) (c := c) (n := 2) (by decide) rfl
  simp only [List.mem_cons, List.not_mem_nil, or_false] at this
  rcases this with e | e <;> rw [e] <;> assumption
theorem pick3 {P : D → Prop} {a b d : D} (c : Int) (h1 : P a) (h2 : P b) (h3 : P d) : P (pick [a, b, d] (c % 3)) := by
  have := pick_mem (xs := [a, b, d]) (c := c) (n := 3) (by decide) rfl
  simp only [List.mem_cons, List.not_mem_nil, or_false] at this
  rcases this with e | e | e <;> rw [e] <;> assumption
theorem pick4 {P : D → Prop} {a b d f : D} (c : Int) (h1 : P a) (h2 : P b) (h3 : P d) (h4 : P f) : P (pick [a, b, d, f] (c % 4)) := by
  have := pick_mem (xs := [a, b, d, f]) (c := c) (n := 4) (by decide) rfl
  simp only [List.mem_cons, List.not_mem_nil, or_false] at this
  rcases this with e | e | e | e <;> rw [e] <;> assumption
def Tr.signN : Tr → Option Str
  | .sign n => some n
  | _ => none
def Tr.signs (t : Tr) : List Str := t.pieces.filterMap Tr.signN
theorem feet_knot (n : Str) (tk : Option (Str × Bool)) (ks : List Tr) : (Tr.knot n tk ks).feet = ks.flatMap Tr.feet := by
  unfold Tr.feet
  rw [Tr.pieces, piecesL_flat, List.filterMap_cons]
  show List.filterMap _ _ = _
  induction ks with
  | nil => rfl
  | cons k ks ih => rw [List.flatMap_cons, List.flatMap_cons, List.filterMap_append, ih]
theorem signs_knot (n : Str) (tk : Option (Str × Bool)) (ks : List Tr) : (Tr.knot n tk ks).signs = ks.flatMap Tr.signs := by
  unfold Tr.signs
  rw [Tr.pieces, piecesL_flat, List.filterMap_cons]
  show List.filterMap _ _ = _
  induction ks with
  | nil => rfl
  | cons k ks ih => rw [List.flatMap_cons, List.flatMap_cons, List.filterMap_append, ih]
theorem pieces_knot (n : Str) (tk : Option (Str × Bool)) (ks : List Tr) : (Tr.knot n tk ks).pieces.length = (ks.flatMap Tr.pieces).length + 1 := by
  rw [Tr.pieces, piecesL_flat, List.length_cons]
theorem flat_le {f : Tr → List Tr} {n : Nat} : ∀ ks : List Tr, (∀ k ∈ ks, (f k).length ≤ n) → (ks.flatMap f).length ≤ ks.length * n
  | [], _ => by simp
  | k :: ks, h => by
    have h1 := h k (by simp)
    have h2 := flat_le ks fun k m => h k (by simp [m])
    rw [List.flatMap_cons, List.length_append, List.length_cons, Nat.succ_mul]
    omega
end GM
namespace GM
open PySem L2 GS
end GM
namespace GM
open PySem L2 GS
structure Bk where
  top : Str
  trees : List (Str × Tr)
def encKT (p : Str × Tr) : D := .tuple [.str p.1, p.2.enc]
def Bk.enc (b : Bk) : D := .tuple [.str b.top, .tuple (b.trees.map encKT)]
theorem ix_top (b : Bk) : ixA b.enc (.int 0) = some (.sh (.str b.top)) := by simp [Bk.enc]
theorem ix_trees (b : Bk) : ixA b.enc (.int 1) = some (.sh (.tuple (b.trees.map encKT))) := by simp [Bk.enc]
def Bk.treeOf (b : Bk) (key : Str) : Option Tr := b.trees.foldl (fun acc p => if p.1 = key then some p.2 else acc) none
def Tr.want : Tr → Option (Bool × Str × Bool)
  | .hole n => some (false, n, true)
  | .knot _ (some (m, b)) _ => some (true, m, b)
  | _ => none
def Tr.isGraft (t : Tr) : Bool := decide (t.feet.length = 1)
def Bk.takers (b : Bk) (u : Tr) : List Str := match u.want with
  | none => []
  | some (g, n, _) => (b.trees.filter fun p => decide (p.2.isGraft = g) && decide (p.2.name = n)).map (·.1)
structure BkOk (n : Nat) (b : Bk) : Prop where
  len : b.trees.length ≤ 1000
  ht : ∀ p ∈ b.trees, p.2.ht ≤ n
  sz : ∀ p ∈ b.trees, p.2.pieces.length ≤ 100000
  nv : ∀ p ∈ b.trees, p.2 ≠ .void
theorem strs_clean {ks : List Str} (h : ∀ k ∈ ks, PyData.strOk k = true) : cleanB (.list (ks.map .str)) = true ∧ (PyData.list (ks.map .str)).depth ≤ 190 := by
  refine ⟨?_, ?_⟩
  · rw [cleanB]
    refine cleanL_of fun d m => ?_
    obtain ⟨k, mk, rfl⟩ := List.mem_map.mp m
    exact h k mk
  · rw [PyData.depth]
    have := depthAll_of (ds := ks.map PyData.str) (n := 0) fun d m => by
      obtain ⟨k, mk, rfl⟩ := List.mem_map.mp m
      rw [PyData.depth]; omega
    omega
end GM
namespace GM
open PySem L2 GS
end GM
namespace GM
open PySem L2 GS
def tkW : Option (Str × Bool) → List Str
  | none => []
  | some (m, b) => [Str.ofString (if b then "!" else "?") ++ m]
mutual
def Tr.words : Tr → List Str
  | .sign s => [s]
  | .void => [Str.ofString "-"]
  | .hole n => [Str.ofString "+" ++ n]
  | .foot n => [Str.ofString "*" ++ n]
  | .knot n tk ks => Str.ofString "[" :: n :: (tkW tk ++ (Tr.wordsL ks ++ [Str.ofString "]"]))
def Tr.wordsL : List Tr → List Str
  | [] => []
  | t :: ts => t.words ++ Tr.wordsL ts
end
theorem l1 (w : String) (h : w.toList.length = 1) (n : Str) (hn : n.length ≤ 100000) : (Str.ofString w).length + n.length ≤ sizeLine := fits (by rw [ofS_len, h]; omega)
theorem knot_parts {n : Str} {tk : Option (Str × Bool)} {ks : List Tr} (h : (Tr.knot n tk ks).ok = true) : nameB n = true ∧ okTk tk = true ∧ 1 ≤ ks.length ∧ ks.length ≤ 8 ∧ ∀ k ∈ ks, k.ok = true := by
  rw [Tr.ok] at h
  simp only [Bool.and_eq_true, decide_eq_true_eq] at h
  exact ⟨h.1, h.2.1, h.2.2.1, h.2.2.2.1, okL_mem h.2.2.2.2⟩
theorem enc_knot (n : Str) (tk : Option (Str × Bool)) (ks : List Tr) : Tr.enc (.knot n tk ks) = .tuple [.str (Str.ofString "knot"), .str n, encTk tk, .tuple (ks.map Tr.enc)] := by rw [Tr.enc, encL_map]
theorem map_mid {α : Type} {f : α → D} {xs : List α} {pre post : List D} {d : D} (h : xs.map f = pre ++ d :: post) : ∃ x, xs[pre.length]? = some x ∧ d = f x := by
  have h2 : (xs.map f)[pre.length]? = some d := by rw [h, List.getElem?_append_right (Nat.le_refl _), Nat.sub_self]; rfl
  rw [List.getElem?_map] at h2
  obtain ⟨k, h3, h4⟩ := Option.map_eq_some_iff.mp h2
  exact ⟨k, h3, h4.symm⟩
end GM
namespace GM
open PySem L2 GS
end GM
namespace GM
open PySem L2 GS
abbrev BL : Str := Str.ofString " "
theorem cpBL : BL.cps.toList = [32] := by decide +kernel
/-- words parted by blanks -/
def lineT (ws : List Str) : Str := Txt.join BL ws
theorem sum_le {ws : List Str} {b : Nat} (h : ∀ w ∈ ws, w.length ≤ b) : (ws.map (·.length)).sum ≤ b * ws.length := by
  induction ws with
  | nil => simp
  | cons w ws ih =>
    have h1 := h w (by simp)
    have h2 := ih fun w m => h w (by simp [m])
    rw [List.map_cons, List.sum_cons, List.length_cons, Nat.mul_succ]
    omega
theorem joinL_len (S : List Nat) : ∀ ps : List (List Nat), (TL.joinL S ps).length ≤ (ps.map List.length).sum + ps.length * S.length
  | [] => by simp [TL.joinL]
  | [p] => by simp [TL.joinL]
  | p :: q :: r => by
    have ih := joinL_len S (q :: r)
    rw [TL.joinL, List.length_append, List.length_append, List.map_cons, List.sum_cons, List.length_cons, Nat.succ_mul]
    omega
end GM
namespace GS
open PySem L2 GM
theorem forL_cons2 {ρ : Rho} (g : D → Rho → Option Rho) (b : SF) (d : D) (ds : List D) : forL g b (d :: ds) ρ = turnR (forL g b ds) (optR (g d ρ) b) := by
  rw [forL_cons]
  cases g d ρ <;> rfl
theorem fin_seq {n : Nat} {f g : SF} {ρ : Rho} {q : RE} (ρ' : Rho) (h : f ρ = .nx ρ') (h2 : finR n (g ρ') = q) : finR n (sSeq f g ρ) = q := by rw [sSeq_eq, h]; exact h2
theorem fin_ex {n : Nat} {f g : SF} {ρ : Rho} {q : RE} (P : Rho → Prop) (h : ∃ ρ', f ρ = .nx ρ' ∧ P ρ') (h2 : ∀ ρ', P ρ' → finR n (g ρ') = q) : finR n (sSeq f g ρ) = q := by
  obtain ⟨ρ', e, hp⟩ := h
  exact fin_seq ρ' e (h2 ρ' hp)
theorem pre1 (s c : Nat) (r : List Nat) : TL.pre [s] (c :: r) = decide (s = c) := by
  by_cases h : s = c
  · simp [TL.pre, h]
  · have h' : ¬ c = s := fun e => h e.symm
    simp [TL.pre, h, h']
/-- what the parts are made of -/
structure Parts (s : Nat) (acc cs : List Nat) (ps : List (List Nat)) : Prop where
  ne : ps ≠ []
  num : ps.length ≤ cs.length + 1
  mem : ∀ p ∈ ps, ∀ c ∈ p, c ∈ acc ∨ c ∈ cs
  sep : s ∉ acc → ∀ p ∈ ps, s ∉ p
  len : ∀ p ∈ ps, p.length ≤ acc.length + cs.length
  cnt : ∀ x, (ps.map (List.count x)).sum ≤ acc.count x + cs.count x
  tot : (ps.map List.length).sum ≤ acc.length + cs.length
  jn : TL.joinL [s] ps = acc ++ cs
theorem parts_spl (s : Nat) : ∀ (cs acc : List Nat), Parts s acc cs (TL.spl [s] 0 acc cs)
  | [], acc => by
    rw [TL.spl_nil]
    exact ⟨by simp, by simp, fun p h c m => .inl (by simp at h; subst h; exact m), fun h p m => by simp at m; subst m; exact h, fun p m => by simp at m; subst m; simp, fun x => by simp, by simp, by simp [TL.joinL]⟩
  | c :: r, acc => by
    by_cases h : s = c
    · rw [TL.spl_hit (by rw [pre1, decide_eq_true h])]
      have ih := parts_spl s r []
      refine ⟨by simp, ?_, fun p m d md => ?_, fun hs p m => ?_, fun p m => ?_, fun x => ?_, ?_, ?_⟩
      · have := ih.num; simp only [List.length_cons, List.length_nil, Nat.sub_self, Nat.zero_add] at this ⊢; omega
      · rcases List.mem_cons.mp m with rfl | m
        · exact .inl md
        · rcases ih.mem p m d md with q | q
          · simp at q
          · exact .inr (by simp [q])
      · rcases List.mem_cons.mp m with rfl | m
        · exact hs
        · exact ih.sep (by simp) p m
      · rcases List.mem_cons.mp m with rfl | m
        · simp
        · have := ih.len p m
          simp only [List.length_cons, List.length_nil] at this ⊢; omega
      · have := ih.cnt x
        simp only [List.map_cons, List.sum_cons, List.count_nil, Nat.zero_add, List.length_cons, List.length_nil, Nat.sub_self] at this ⊢
        have h2 : r.count x ≤ (c :: r).count x := List.count_le_count_cons
        omega
      · have := ih.tot
        simp only [List.map_cons, List.sum_cons, List.length_cons, List.length_nil, Nat.sub_self] at this ⊢
        omega
      · have h1 := ih.jn
        have h2 := ih.ne
        simp only [List.length_cons, List.length_nil, Nat.zero_add, Nat.sub_self]
        cases e : TL.spl [s] 0 [] r with
        | nil => exact absurd e h2
        | cons q qs =>
          rw [e] at h1
          show acc ++ ([s] ++ TL.joinL [s] (q :: qs)) = _
          rw [h1, h]; simp
    · rw [TL.spl_miss (by rw [pre1, decide_eq_false h])]
      have ih := parts_spl s r (acc ++ [c])
      refine ⟨ih.ne, ?_, fun p m d md => ?_, fun hs p m => ?_, fun p m => ?_, fun x => ?_, ?_, ?_⟩
      · have := ih.num; simp only [List.length_cons] at this ⊢; omega
      · rcases ih.mem p m d md with q | q
        · rcases List.mem_append.mp q with q | q
          · exact .inl q
          · exact .inr (by simp at q; simp [q])
        · exact .inr (by simp [q])
      · exact ih.sep (by simp [hs, h]) p m
      · have := ih.len p m
        simp only [List.length_cons, List.length_append, List.length_nil] at this ⊢; omega
      · have := ih.cnt x
        rw [List.count_append] at this
        have h2 : (c :: r).count x = [c].count x + r.count x := by rw [← List.count_append]; rfl
        omega
      · have := ih.tot
        simp only [List.length_cons, List.length_append, List.length_nil] at this ⊢; omega
      · rw [ih.jn]; simp
/-- a text parted at a sign below 256 -/
theorem split_parts {x y : Str} {s : Nat} (hy : y.cps.toList = [s]) (hk : y.cps.all (· < 256) = true) : Parts s [] x.cps.toList ((Txt.split x y).map fun w => w.cps.toList) := by
  have e : (Txt.split x y).map (fun w => w.cps.toList) = TL.spl [s] 0 [] x.cps.toList := by
    have := TL.split_spl x y (by show y.cps.toList ≠ []; rw [hy]; simp) (TL.kind_ok hk)
    rw [show TL.tl y = [s] from hy] at this
    exact this
  rw [e]
  exact parts_spl s _ []
structure SplitOk (s : Nat) (x : Str) (ws : List Str) : Prop where
  ne : ws ≠ []
  num : ws.length ≤ x.length + 1
  mem : ∀ w ∈ ws, ∀ c ∈ w.cps.toList, c ∈ x.cps.toList
  sep : ∀ w ∈ ws, s ∉ w.cps.toList
  len : ∀ w ∈ ws, w.length ≤ x.length
  cnt : ∀ z, (ws.map fun w => w.cps.toList.count z).sum ≤ x.cps.toList.count z
  tot : (ws.map (·.length)).sum ≤ x.length
theorem split_ok {x y : Str} {s : Nat} (hy : y.cps.toList = [s]) (hk : y.cps.all (· < 256) = true) : SplitOk s x (Txt.split x y) := by
  have h := split_parts (x := x) hy hk
  refine ⟨fun e => h.ne (by rw [e]; rfl), by have := h.num; rw [List.length_map] at this; rw [len_eq]; exact this, fun w m c mc => ?_, fun w m => h.sep (by simp) _ (List.mem_map.mpr ⟨w, m, rfl⟩), fun w m => ?_, fun z => ?_, ?_⟩
  · rcases h.mem _ (List.mem_map.mpr ⟨w, m, rfl⟩) c mc with q | q
    · simp at q
    · exact q
  · have := h.len _ (List.mem_map.mpr ⟨w, m, rfl⟩)
    rw [len_eq, len_eq]
    simpa using this
  · have := h.cnt z
    rw [List.map_map] at this
    simpa [Function.comp_def] using this
  · have := h.tot
    rw [List.map_map, show (List.length ∘ fun w : Str => w.cps.toList) = fun w : Str => w.length from funext fun w => (len_eq w).symm, ← len_eq] at this
    simpa using this
abbrev DT : Str := Str.ofString "."
theorem cpDT : DT.cps.toList = [46] := by decide +kernel
theorem split_bl (x : Str) : SplitOk 32 x (Txt.split x BL) := split_ok cpBL (by decide +kernel)
theorem joinL_mem (S : List Nat) (x : Nat) : ∀ ps : List (List Nat), x ∈ TL.joinL S ps → x ∈ S ∨ ∃ p ∈ ps, x ∈ p
  | [], h => by simp [TL.joinL] at h
  | [p], h => .inr ⟨p, by simp, by simpa [TL.joinL] using h⟩
  | p :: q :: r, h => by
    rw [TL.joinL, List.mem_append, List.mem_append] at h
    rcases h with h | h | h
    · exact .inr ⟨p, by simp, h⟩
    · exact .inl h
    · rcases joinL_mem S x (q :: r) h with h | ⟨z, m, h⟩
      · exact .inl h
      · exact .inr ⟨z, by simp at m ⊢; exact .inr m, h⟩
theorem join_cps (y : Str) (ws : List Str) : (Txt.join y ws).cps.toList = TL.joinL y.cps.toList (ws.map fun w => w.cps.toList) := by
  rw [TL.join_eq]; exact TL.tl_join y ws
theorem join_mem {y : Str} {ws : List Str} {c : Nat} (h : c ∈ (Txt.join y ws).cps.toList) : c ∈ y.cps.toList ∨ ∃ w ∈ ws, c ∈ w.cps.toList := by
  rw [join_cps] at h
  rcases joinL_mem _ _ _ h with h | ⟨p, m, h⟩
  · exact .inl h
  · obtain ⟨w, mw, rfl⟩ := List.mem_map.mp m
    exact .inr ⟨w, mw, h⟩
theorem join_len (y : Str) (ws : List Str) : (Txt.join y ws).length ≤ (ws.map (·.length)).sum + ws.length * y.length := by
  rw [len_eq, join_cps]
  have h1 := joinL_len y.cps.toList (ws.map fun w => w.cps.toList)
  rw [List.map_map, List.length_map] at h1
  have h3 : (ws.map (List.length ∘ fun w : Str => w.cps.toList)).sum = (ws.map (·.length)).sum := by
    rw [show (List.length ∘ fun w : Str => w.cps.toList) = fun w : Str => w.length from funext fun w => (len_eq w).symm]
  rw [h3, ← len_eq] at h1
  exact h1
theorem joinOk_of {y : Str} {ws : List Str} {b n : Nat} (h : ∀ w ∈ ws, w.length ≤ b) (hn : ws.length ≤ n) (hz : b * n + n * y.length ≤ 16000000) : joinOk y ws = true := by
  unfold joinOk
  have h1 := sum_le h
  have h2 : b * ws.length ≤ b * n := Nat.mul_le_mul_left _ hn
  have h3 : ws.length * y.length ≤ n * y.length := Nat.mul_le_mul_right _ hn
  exact Nat.ble_eq_true_of_le (by omega)
end GS
namespace GS
open PySem L2 PySem.Spec PyProof.Rows
theorem snoc_ind {α : Type} {P : List α → Prop} (h0 : P []) (hs : ∀ xs x, P xs → P (xs ++ [x])) (xs : List α) : P xs := by
  have : ∀ ys : List α, P ys.reverse := fun ys => by
    induction ys with
    | nil => exact h0
    | cons y ys ih => rw [List.reverse_cons]; exact hs _ _ ih
  have := this xs.reverse
  rwa [List.reverse_reverse] at this
section
variable {κ : Type} [DecidableEq κ]
/-- each once, in order -/
def uq (xs : List κ) : List κ := xs.foldl (fun acc x => if x ∈ acc then acc else acc ++ [x]) []
theorem uq_snoc (xs : List κ) (x : κ) : uq (xs ++ [x]) = if x ∈ uq xs then uq xs else uq xs ++ [x] := by
  unfold uq; rw [List.foldl_append]; rfl
theorem uq_len (xs : List κ) : (uq xs).length ≤ xs.length := by
  refine snoc_ind (P := fun xs => (uq xs).length ≤ xs.length) (by simp [uq]) (fun xs x ih => ?_) xs
  rw [uq_snoc]; split <;> simp <;> omega
theorem uq_mem (xs : List κ) (y : κ) : y ∈ uq xs ↔ y ∈ xs := by
  refine snoc_ind (P := fun xs => y ∈ uq xs ↔ y ∈ xs) (by simp [uq]) (fun xs x ih => ?_) xs
  rw [uq_snoc]
  by_cases h : x ∈ uq xs
  · rw [if_pos h, List.mem_append, ih]
    constructor
    · exact .inl
    · rintro (q | q)
      · exact q
      · simp at q; subst q; exact ih.mp h
  · rw [if_neg h, List.mem_append, List.mem_append, ih]
theorem uq_full (xs : List κ) : (uq xs).length = xs.length ↔ xs.Nodup := by
  refine snoc_ind (P := fun xs => (uq xs).length = xs.length ↔ xs.Nodup) (by simp [uq]) (fun xs x ih => ?_) xs
  have hl := uq_len xs
  rw [uq_snoc, List.nodup_append]
  by_cases h : x ∈ uq xs
  · rw [if_pos h]
    have hx := (uq_mem xs x).mp h
    constructor
    · intro e; rw [List.length_append, List.length_singleton] at e; omega
    · rintro ⟨_, _, q⟩; exact absurd rfl (q x hx x (by simp))
  · rw [if_neg h]
    have hx : x ∉ xs := fun q => h ((uq_mem xs x).mpr q)
    rw [List.length_append, List.length_append, List.length_singleton]
    constructor
    · intro e; exact ⟨ih.mp (by omega), by simp, fun a ha b hb e => hx (by simp at hb; subst hb; subst e; exact ha)⟩
    · rintro ⟨q, _⟩; have := ih.mpr q; omega
end
local instance (priority := high) keyBEq : BEq Key := instBEqOfDecidableEq
local instance keyLaw : LawfulBEq Key := inferInstanceAs (@LawfulBEq Key instBEqOfDecidableEq)
theorem vals_get : ∀ {xs : List V} {us : List Value} {i : Nat} {v : Value}, Vals xs us → us[i]? = some v → ∃ x, xs[i]? = some x ∧ RelV x v
  | _, _, _, _, .nil, h => by simp at h
  | _, _, 0, _, .cons r _, h => by simp at h; subst h; exact ⟨_, rfl, r⟩
  | _, _, i + 1, _, .cons _ t, h => by
    obtain ⟨x, h1, h2⟩ := vals_get (i := i) t (by simpa using h)
    exact ⟨x, by simpa using h1, h2⟩
section
variable {prog : Program} {w : World} {A : Around} {R : Result → Shared → Prop} {I : Addr} {fp wr : List Addr} {G : Array GenState → Array GenState → Prop} {n : Nat} {P : Nat → Value → Prop} {St : Nat → Shared → Prop}
abbrev uqS (xs : List Key) (i : Nat) : Key → Bool := fun k => decide (k ∈ uq (xs.take i))
theorem set_moves {h h' : Heap} {a : Addr} {S : Key → Bool} {m : Nat} (hS : h.SetOf (mixKind prog w) a S m) (k : ∀ o, h.get? a = some o → h'.get? a = some o) : h'.SetOf (mixKind prog w) a S m := by
  obtain ⟨o, es, ep, t, ho, rest⟩ := hS
  exact ⟨o, es, ep, t, k o ho, rest⟩
theorem loopK (W : WalksS prog w A.in1 I fp wr G n P St) (S : Addr) (hSf : S ∉ fp) (xs : List Key) (hsz : xs.length = n) (hb : n + 1 < scanBound)
    (hval : ∀ i v, P i v → ∃ k, xs[i]? = some k ∧ RelV (kV k) v) :
    ∀ (k i : Nat) (s : Shared), n - i = k → i ≤ n → St i s → s.heap.SetOf (mixKind prog w) S (uqS xs i) (uq (xs.take i)).length →
      (∀ s', Moved (S :: wr) G s s' → s'.heap.SetOf (mixKind prog w) S (uqS xs n) (uq (xs.take n)).length → R (.ok (.ret .none)) s') →
      codeAny (model prog w) A (.builtin "set.update.loop" ⟨[.ref S, .ref I], []⟩) R s := by
  have hSw : S ∉ wr := fun h => hSf (W.sub _ h)
  have hmo : ∀ b ∈ wr, b ∈ S :: wr := fun b q => List.mem_cons_of_mem _ q
  intro k
  induction k with
  | zero =>
    intro i s hk hi hst hS hR
    obtain rfl : i = n := by omega
    refine codeAny_builtin PyProof.Rows.F.entry_set_update_loop ?_
    rw [Around.under_plainId PyProof.Rows.F.plain_set_update_loop _]
    exact wpAny_bind (W.done s _ _ hst fun s' hm => wpAny_pure (hR s' (hm.mono hmo) (set_moves hS fun o => hm.heap S o hSw)))
  | succ k ih =>
    intro i s hk hi hst hS hR
    have hlt : i < n := by omega
    refine codeAny_builtin PyProof.Rows.F.entry_set_update_loop ?_
    rw [Around.under_plainId PyProof.Rows.F.plain_set_update_loop _]
    refine wpAny_bind (W.item i s _ _ hlt hst fun v s' hP hst' hm => ?_)
    obtain ⟨kx, hkx, rv⟩ := hval i v hP
    have hS' := set_moves (h' := s'.heap) hS fun o => hm.heap S o hSw
    have hln : (uq (xs.take i)).length ≤ i := Nat.le_trans (uq_len _) (by rw [List.length_take]; omega)
    show wpAny _ A.in1 (holding [v] (setAdd S v) >>= _) _ _ s'
    refine wpAny_bind (wpAny_holding ?_)
    unfold setAdd
    refine wpAny_holding (wpAny_bind ((mixKind prog w).pyHash (k := kx) (kV_is rv) ?_))
    refine wpAny_setAddHashed_of (knd := mixKind prog w) (s := { s' with toks := s'.toks + 1 }) (kV_is rv) (key_scan rv) hS' (by omega) fun h' hsb hS2 => ?_
    have tk : xs.take (i + 1) = xs.take i ++ [kx] := by rw [List.take_succ, hkx]; rfl
    have hSi : h'.SetOf (mixKind prog w) S (uqS xs (i + 1)) (uq (xs.take (i + 1))).length := by
      refine SetOf_congr hS2 (fun k' => ?_) ?_
      · unfold uqS
        rw [tk, uq_snoc, Bool.eq_iff_iff]
        by_cases q : kx ∈ uq (xs.take i)
        · rw [if_pos q]
          simp only [Bool.or_eq_true, decide_eq_true_eq]
          exact ⟨fun z => z.elim id fun e => e ▸ q, .inl⟩
        · rw [if_neg q]
          simp
      · unfold uqS
        rw [tk, uq_snoc]
        by_cases q : kx ∈ uq (xs.take i)
        · rw [if_pos q, if_pos (decide_eq_true q)]
        · rw [if_neg q, if_neg (by simpa using q)]
          simp
    refine wpAny_pure ⟨plainId_quiet PyProof.Rows.F.plain_set_update_loop _, ih (i + 1) _ (by omega) hlt (W.frame _ s' _ _ hst' (Nat.le_succ _) fun b hb o e => ?_) hSi fun s'' hm'' hS'' => ?_⟩
    · rw [hsb.2 b (fun h : b = S => hSf (by rw [← h]; exact hb))]; exact e
    · refine hR s'' (Moved.trans W.gtrans ((hm.mono hmo).then_heap (Nat.le_succ _) fun b o hb e => ?_) hm'') hS''
      rw [hsb.2 b (fun h : b = S => hb (by rw [h]; exact List.mem_cons_self))]; exact e
end
section
variable {prog : Program} {w : World} {A : Around} {E : Value → Shared → Prop} {s : Shared}
theorem call_setK {l : Addr} {items : Array Value} {xs : List Key} {Q : Value → Shared → Prop} (hh : A.handled = none) (hl : s.heap.IsList l items) (hi : Vals (xs.map kV) items.toList) (hn : xs.length + 1 < scanBound)
    (h : ∀ (h' : Heap) (tk : Nat), h'.SetOf (mixKind prog w) s.heap.objs.size (fun k => decide (k ∈ uq xs)) (uq xs).length →
      (∀ b o, b < s.heap.objs.size → s.heap.get? b = some o → h'.get? b = some o) → Q (.ref s.heap.objs.size) { s with heap := h', toks := tk }) :
    wpAny (model prog w) A (call (.type "set") [.ref l]) Q E s := by
  obtain ⟨c, tl, hmro⟩ := PySem.F.called_set.mro
  have hmade := PySem.F.called_set.made
  have hsub := PySem.F.called_set.sub
  refine wpAny_call (codeAny_of_tree ?_)
  show wpAny _ _ (callAny (.type "set") _) _ _ _
  refine wpAny_pure ⟨Code.quiet_builtin _ (by decide +kernel), codeAny_builtin PySem.F.entry_type_call ?_⟩
  rw [Around.under_plain (weight_type_call_type "set" [.ref l] []) rfl]
  have h1 := PySem.F.called_set.notType
  have h2 := PySem.F.called_set.canCreate
  have hct := PySem.F.typeCall_set_1 (.ref l)
  repeat (any_goals (first | assumption | wp_step))
  refine codeAny_mono (code_set_new_1 (.ref l) (E := E) (Q₁ := fun obj s₁ => ∃ led : Bool, obj = .ref s.heap.objs.size ∧ s₁ = { s with heap := s.heap.push { cls := .type "set", dict := none, data := .set #[] 0 (.fresh 0 0 led) } }) fun led => ⟨led, rfl, rfl⟩) fun r s₁ hr => ?_
  cases r with
  | error e => exact hr
  | ok fl =>
    cases fl with
    | ret obj =>
      obtain ⟨led, rfl, rfl⟩ := hr
      generalize hnew : s.heap.push { cls := .type "set", dict := none, data := .set #[] 0 (.fresh 0 0 led) } = hp1
      have hS : hp1.get? s.heap.objs.size = some { cls := .type "set", dict := none, data := .set #[] 0 (.fresh 0 0 led) } := by rw [← hnew]; exact Heap.get?_push_size _ rfl
      have hz1 : hp1.objs.size = s.heap.objs.size + 1 := by rw [← hnew, Heap.size_push]
      have hkp : ∀ b o, s.heap.get? b = some o → hp1.get? b = some o := fun b o e => by rw [← hnew]; exact Heap.get?_push_of_some _ e
      have hT : Shared.TypeIs { s with heap := hp1 } (.ref s.heap.objs.size) "set" := ⟨_, hS, rfl⟩
      have hli := PySem.F.called_set.init.lookup
      have hbi := PySem.F.called_set.init.bind (.ref s.heap.objs.size)
      repeat (any_goals (first | assumption | wp_step))
      refine codeAny_mono (codeAny_call_builtin (R := wants (fun r s₂ => r = .none ∧ ∃ h' tk, s₂ = { s with heap := h', toks := tk } ∧
          h'.SetOf (mixKind prog w) s.heap.objs.size (fun k => decide (k ∈ uq xs)) (uq xs).length ∧
          (∀ b o, b < s.heap.objs.size → s.heap.get? b = some o → h'.get? b = some o)) E) PySem.F.called_set.init.plain PySem.F.entry_set_init (check_set_init_1 hT ?_)) fun r₂ s₂ hr₂ => ?_
      · obtain ⟨⟨ocls, odict, odata, oslots⟩, hol, hcl, nl, hdl⟩ := hl
        simp only at hcl hdl
        subst hcl; subst hdl
        have hol' := hkp _ _ hol
        have hsls := PySem.F.sub_list_set
        have hslf := PySem.F.sub_list_frozenset
        have hne : (Value.type "list" == Value.type "dict") = false := by decide
        have hl1 : hp1.IsList l items := ⟨_, hol', rfl, nl, rfl⟩
        unfold Builtin.«set.__init__» noKeywords Builtin.Frozenset.updateFrom
        generalize hPI : pyIter = PI
        wp_walk
        subst hPI
        refine wpAny_pyIter_list hl1 (wpAny_bind (wpAny_runValue ?_))
        have hlS : l < s.heap.objs.size := Heap.lt_size hol
        have hh3 : A.in1.in1.in1.handled = none := by simp [hh]
        have hSf : s.heap.objs.size ∉ [hp1.objs.size, l] := by
          rw [hz1]; simp only [List.mem_cons, List.not_mem_nil, or_false, not_or]
          exact ⟨Nat.ne_of_lt (Nat.lt_succ_self _), Nat.ne_of_gt hlS⟩
        have hsz : xs.length = items.size := by have := hi.length; rw [List.length_map, Array.length_toList] at this; exact this
        have hval : ∀ (i : Nat) (v : Value), items[i]? = some v → ∃ k, xs[i]? = some k ∧ RelV (kV k) v := fun i v hv => by
          obtain ⟨x, hx, rx⟩ := vals_get (i := i) (v := v) hi (by rw [Array.getElem?_toList]; exact hv)
          rw [List.getElem?_map] at hx
          obtain ⟨k, hk, rfl⟩ := Option.map_eq_some_iff.mp hx
          exact ⟨k, hk, rx⟩
        refine loopK ((Walks.list hh3 _ l (show l ≠ hp1.objs.size from Nat.ne_of_lt (by rw [hz1]; exact Nat.lt_succ_of_lt hlS)) items).toS) s.heap.objs.size hSf xs hsz (by rw [← hsz]; exact hn) hval (items.size - 0) 0 _ (by omega) (Nat.zero_le _)
          ⟨⟨_, Heap.get?_push_size _ rfl, rfl, rfl⟩, (hl1.push _)⟩ ?hS0 ?hR
        case hS0 => exact SetOf_congr ((setObjOf_fresh (knd := mixKind prog w) led).setOf (Heap.get?_push_of_some _ hS) (by unfold scanBound; omega)) (fun _ => by simp [uqS, uq]) rfl
        case hR =>
          intro s' hm hS'
          obtain ⟨h', g', d', tk', os'⟩ := s'
          have eg : g' = s.gens := hm.gens
          have ed : d' = s.drawn := hm.drawn
          have eo : os' = s.os := hm.os
          subst eg; subst ed; subst eo
          refine wpAny_pure ?_
          show wpAny _ _ (ret Value.none) _ _ _
          rw [← hsz] at hS'
          refine wpAny_pure ⟨rfl, h', tk', rfl, SetOf_congr hS' (fun k => by simp [uqS]) (by simp), fun b o hb e => ?_⟩
          exact hm.heap b o (by simp only [List.mem_cons, List.not_mem_nil, or_false, not_or]; exact ⟨Nat.ne_of_lt hb, Nat.ne_of_lt (show b < hp1.objs.size by rw [hz1]; exact Nat.lt_succ_of_lt hb)⟩) (Heap.get?_push_of_some _ (hkp _ _ e))
      · cases r₂ with
        | error e => exact hr₂
        | ok fl₂ =>
          cases fl₂ with
          | ret r =>
            obtain ⟨rfl, h', tk, rfl, hS', hk'⟩ := hr₂
            repeat (any_goals (first | assumption | wp_step))
            exact h _ _ hS' hk'
          | _ => exact hr₂.elim
    | _ => exact hr.elim
end
end GS
namespace GS
open PySem L2 PySem.Spec PyProof.Rows
def keysD : List D → Option (List Key)
  | [] => some []
  | .int i :: ds => (keysD ds).map (.inl i :: ·)
  | .str x :: ds => (keysD ds).map (.inr x :: ·)
  | _ :: _ => none
theorem keysD_ok {K : KW} {B : Hp} : ∀ {vs : List V} {ds : List D} {ks : List Key}, RpL K B vs ds → keysD ds = some ks → vs = ks.map kV
  | _, _, _, .nil, e => by cases e; rfl
  | _, d :: ds, _, .cons h t, e => by
    cases d <;> first | (cases e; done) | skip
    · obtain ⟨r, er, rfl⟩ := Option.map_eq_some_iff.mp e
      cases h
      rw [keysD_ok t er]; rfl
    · obtain ⟨r, er, rfl⟩ := Option.map_eq_some_iff.mp e
      cases h
      rw [keysD_ok t er]; rfl
theorem keysD_strs (zs : List Str) : keysD (zs.map .str) = some (zs.map Sum.inr) := by
  induction zs with
  | nil => rfl
  | cons z zs ih => rw [List.map_cons, keysD, ih]; rfl
def tLenK (K : PySem.W.Frag) (ta : TE) : TE := fun σ H Q => ta σ H fun x H1 => ∃ (l : Addr) (ks : List Key), x = .ref l ∧ SqL K H1 l (ks.map kV) ∧ ks.length + 1 < scanBound ∧ Q (.int (uq ks).length) H1
def lsD (d : Option D) (ρ : Rho) : RE := match d with
  | some (.list ds) => match keysD ds with
    | some ks => if Nat.ble (ks.length + 2) 4096 then .ok (.sh (.int (uq ks).length)) ρ else .stuck
    | none => .stuck
  | _ => .stuck
def eLenSet (f : EF) : EF := fun ρ => bindE (eSet f ρ) fun h ρ1 => lsD (getH ρ1 h) ρ1
section
variable {X : Cx} {C : Ct} {a b : Expr} {ta tb : TE} {fa fb : EF} {p p2 q pos apos : Pos}
theorem pe_lenK (hm : X.mg "len" = none) (hm2 : X.mg "set" = none) (ha : PE X a ta) (hc : X.calm = true) (hg : Gl X "len") (hg2 : Gl X "set")
    (na : starEach [a] X.env = (false, eval a X.env) :: starEach [] X.env) : PE X (.Call (.Name "len" p) [.Call (.Name "set" p2) [a] [] q] [] pos) (tLenK X.K ta) := by
  refine ⟨fun pins s σ H Q I h => ?_⟩
  refine Call_ (ld_blt I hg hm boot_len (PyProof.Rows.callWith_builtin1 (PyProof.Rows.args_cons ?_ rfl) rfl rfl))
  refine Call_ (ld_blt I hg2 hm2 boot_set ?_)
  refine PyProof.Rows.callWith_type1 (PyProof.Rows.args_cons (thn (ha.run pins s σ H _ I h) fun v s1 ⟨x, H1, I1, r1, q1⟩ => PyProof.Rows.args_nil ?_) na) na rfl
  obtain ⟨l, ks, rfl, hq, hn, q1⟩ := q1
  cases r1
  obtain ⟨its, r, pl, hz⟩ := I1.list hq
  refine call_setK (I1.ok.hd hc) pl.isList (by simpa using r) hn fun h' tk hS hk => ?_
  refine PyProof.Rows.args_nil ?_
  obtain ⟨o, es, ep, t, ho, hex, hd, _, _, _, hf, hn2⟩ := hS
  have I2 : Inv X pins σ H1 { s1 with heap := h', toks := tk } := I1.kept fun b o e => hk b o (Heap.lt_size e) e
  have hl := uq_len ks
  have hb : scanBound = 4096 := rfl
  exact call_len_set ho hex hd hf (by rw [hn2]; omega) ⟨.int (uq ks).length, H1, I2.tok _, ⟨_, by rw [hn2]⟩, q1⟩
theorem se_lenSet (hm : X.mg "len" = none) (hm2 : X.mg "set" = none) (l : SE X C a ta fa) (hk : X.K = C.K := by rfl) (hc : X.calm = true := by rfl) (hg : Gl X "len" := by rfl) (hg2 : Gl X "set" := by rfl)
    (na : starEach [a] X.env = (false, eval a X.env) :: starEach [] X.env := by rfl) : SE X C (.Call (.Name "len" p) [.Call (.Name "set" p2) [a] [] q] [] pos) (tLenK C.K ta) (eLenSet fa) := by
  refine ⟨by rw [← hk]; exact pe_lenK hm hm2 l.pe hc hg hg2 na, fun ρ σ B H Q S g => ?_⟩
  refine l.lk.setBind S g fun h ρ1 x B1 H1 S1 e1 y1 g1 => ?_
  unfold lsD at g1
  split at g1
  · rename_i ds ed
    split at g1
    · rename_i ks ek
      split at g1
      · rename_i hb
        obtain ⟨l, vs, rfl, hl, rl⟩ := S1.tp y1 ed
        have := keysD_ok rl ek
        subst this
        refine ⟨l, ks, rfl, hl, by have := Nat.le_of_ble_eq_true hb; show ks.length + 1 < 4096; omega, g1 _ B1 H1 S1 Ext.refl (.int _)⟩
      · exact g1.elim
    · exact g1.elim
  · exact g1.elim
def maxI : List Int → Int
  | [] => 0
  | [a] => a
  | a :: b :: r => max a (maxI (b :: r))
theorem maxI_le : ∀ {ns : List Int} {y : Int}, y ∈ ns → y ≤ maxI ns
  | [a], y, h => by simp at h; subst h; exact Int.le_refl _
  | a :: b :: r, y, h => by
    rw [maxI]
    rcases List.mem_cons.mp h with rfl | h
    · exact Int.le_max_left _ _
    · exact Int.le_trans (maxI_le h) (Int.le_max_right _ _)
theorem maxI_mem : ∀ {ns : List Int}, ns ≠ [] → maxI ns ∈ ns
  | [a], _ => by simp [maxI]
  | a :: b :: r, _ => by
    rw [maxI]
    rcases Int.le_total a (maxI (b :: r)) with q | q
    · rw [Int.max_eq_right q]; exact List.mem_cons_of_mem _ (maxI_mem (by simp))
    · rw [Int.max_eq_left q]; simp
def maxLD : D → Option Hd
  | .list ds => (intsL ds).bind fun ns => if ns = [] then none else some (.sh (.int (maxI ns)))
  | _ => none
theorem cl_maxL {K : KW} : CalL K (rMax K) (un1 maxLD) := CalL.one fun ρ σ B H x d h Q S t e k => by
  cases d <;> first | (cases (show none = some h from e); done) | skip
  obtain ⟨ns, e1, e2⟩ := Option.bind_eq_some_iff.mp (show (intsL _).bind _ = some h from e)
  split at e2
  · cases e2
  · rename_i hne
    cases e2
    obtain ⟨a, vs, rfl, ha, ra⟩ := t
    have := intsL_ok ra e1
    subst this
    refine ⟨a, ns, rfl, ha, List.length_pos_iff.mpr hne, fun m m1 m2 => ?_⟩
    have : m = maxI ns := Int.le_antisymm (maxI_le m1) (m2 _ (maxI_mem hne))
    rw [this]
    exact now S (.int _) k
def rCountD (K : PySem.W.Frag) : V → List V → Hp → VK → Prop := fun x xs H Q => ∃ (a : Addr) (y : V) (d : PyData) (ds : List PyData), x = V.ref a ∧ xs = [y] ∧ Dp K H (V.ref a) (.list ds) ∧ Dp K H y d ∧
  SeqAt.shaped (.list ds) = true ∧ SeqAt.shaped d = true ∧ Q (.int ((ds.countP fun z => PyData.eqv z d : Nat) : Int)) H
theorem mt_countD (hu : X.A.units + 65 < cLine) : MtR X "list.count" (rCountD X.K) := by
  intro pins s σ H x xs v us Q I rx rxs h
  obtain ⟨a, y, d, ds, rfl, rfl, hl, hy, sl, sd, q⟩ := h
  cases rx
  cases rxs with
  | cons ry rt =>
    rename_i uy ut
    cases rt
    obtain ⟨bs, r1⟩ := Dp.reads I d y uy hy ry
    have hxs : PyData.canLayAll0 ds = true := SeqAt.canLay_of_shaped sl
    have hroom : X.A.units + 1 + min (PyData.depthAll ds) d.depth < cLine := room_in_shaped sd hu
    cases hl with
    | lst hs ha =>
      obtain ⟨its, rv, ⟨⟨cls, dd, data, sls⟩, n, ho, hc, hdn, hdt⟩, hlen⟩ := I.list hs
      simp only at hc hdt
      subst hc hdt
      obtain ⟨as, h4⟩ := Dp.readsAll I ds _ its ha rv
      have hmap : its.map (SeqAt.readOf s.heap) = ds := SeqAt.readsAll_map ds its as hxs h4
      refine call_meets PySem.F.slot_list_count ⟨_, ho, rfl⟩ PySem.F.entry_list_count (PySem.F.args_list_count_2 _ _)
        (SeqAt.list_countAt a its.toArray n dd sls uy (fun u => PyData.eqv (SeqAt.readOf s.heap u) d)) ⟨ho, SeqAt.items_eqAt (vs := its.toArray) (show ReadsAll s.heap its.toArray.toList ds as from h4) r1 hxs (SeqAt.canLay_of_shaped sd) hroom, ?_⟩
      have ec : its.toArray.toList.countP (fun u => PyData.eqv (SeqAt.readOf s.heap u) d) = ds.countP fun z => PyData.eqv z d := by
        rw [← hmap, List.countP_map]; rfl
      refine ⟨.int ((ds.countP fun z => PyData.eqv z d : Nat) : Int), H, I.tok _, ⟨s.toks, ?_⟩, q⟩
      show Value.int ((its.toArray.toList.countP (fun u => PyData.eqv (SeqAt.readOf s.heap u) d) : Nat) : Int) s.toks = _
      rw [ec]
def countD : D → D → Option Hd
  | .list ds, d => if okEq d && okEq (.list ds) then some (.sh (.int ((ds.countP fun z => PyData.eqv z d : Nat) : Int))) else none
  | _, _ => none
/-- a method of a list with one argument -/
def lGo (o : D → D → Option Hd) (fa : EF) (ha : Hd) (d : Option D) (ρ1 : Rho) : RE := match d with
  | some (.list _) => bindE (eSet fa ρ1) fun hb ρ2 => mRes o (getH ρ2 ha) (getH ρ2 hb) ρ2
  | _ => .stuck
def eL1 (o : D → D → Option Hd) (fr fa : EF) : EF := fun ρ => bindE (eSet fr ρ) fun ha ρ1 => lGo o fa ha (getH ρ1 ha) ρ1
theorem lk_l1 {r : V → List V → Hp → VK → Prop} {o : D → D → Option Hd} (hr : OpL C.K (fun x y H Q => r x [y] H Q) o) (la : LkE C ta fa) (lb : LkE C tb fb) : LkE C (tBM C.K "list" r ta (tCons tb tNil)) (eL1 o fa fb) := fun ρ σ B H Q S g => by
  refine la.setBind S g fun ha ρ1 x B1 H1 S1 e1 y1 g1 => ?_
  unfold lGo at g1
  split at g1
  · rename_i z ez
    obtain ⟨l, vs, rfl, hl, rl⟩ := S1.tp y1 ez
    refine ⟨.inl ⟨rfl, _, hl⟩, ?_⟩
    refine lb.setBind S1 g1 fun hb ρ2 y B2 H2 S2 e2 y2 g2 => ?_
    unfold mRes at g2
    split at g2
    · rename_i da db ea eb
      split at g2
      · rename_i h eh
        exact hr ρ2 σ B2 H2 _ y da db h Q S2 (S2.tp (N := fun _ => True) (HdOk.ext e2 y1) ea) (S2.tp y2 eb) eh g2
      · exact g2.elim
    · exact g2.elim
  · exact g1.elim
theorem ol_count {K : KW} : OpL K (fun x y H Q => rCountD K x [y] H Q) countD := fun ρ σ B H x y dx dy h Q S tx ty e k => by
  cases dx <;> first | (cases (show none = some h from e); done) | skip
  rename_i ds
  obtain ⟨c, rfl⟩ := if_some (show (if okEq dy && okEq (.list ds) then some (Hd.sh (.int ((ds.countP fun z => PyData.eqv z dy : Nat) : Int))) else none) = some h from e)
  simp only [okEq, Bool.and_eq_true] at c
  have tx' := tx.rp S.bh
  obtain ⟨l, vs, rfl, hl, rl⟩ := tx
  exact ⟨l, y, dy, ds, rfl, rfl, tx'.dp _ c.2.1, (ty.rp S.bh).dp _ c.1.1, c.2.2, c.1.2, now S (.int _) k⟩
theorem se_count (hu : X.A.units + 65 < cLine) (la : SE X C a ta fa) (lb : SE X C b tb fb) (hk : X.K = C.K := by rfl)
    (hbase : attributeBase a "count" X.env (eval a X.env) = eval a X.env := by rfl)
    (hfew : ((backTo pos (starEach [b] X.env)).all (fun x => !x.1) && (backToKw pos (keywordEach [] X.env)).all (fun x => x.1.isSome) && decide ([b].length + ([] : List Keyword).length + (if ([] : List Keyword).isEmpty then 0 else 1) < 30)) = true := by rfl)
    (hline : (apos.endLine == pos.line) = true := by rfl) (hs : starEach [b] X.env = (false, eval b X.env) :: starEach [] X.env := by rfl) (hplain : (backTo pos (starEach [] X.env)).any (·.1) = false := by rfl) :
    SE X C (.Call (.Attribute a "count" apos) [b] [] pos) (tBM C.K "list" (rCountD C.K) ta (tCons tb tNil)) (eL1 countD fa fb) :=
  ⟨by rw [← hk]; exact pe_bm PySem.F.plainAttrs_list PySem.F.slot_list_count PySem.F.type_list_count (mt_countD hu) la.pe (pa_cons lb.pe pa_nil hs) hbase hfew hline hs hplain, lk_l1 ol_count la.lk lb.lk⟩
end
section
variable {X : Cx} {C : Ct} {x : Str} {c : Value} {body suite : List Stmt} {b₀ : Stmt} {np pos pos' : Pos} {ts : TS} {fb fh : SF} {ns cs : List Str}
end
end GS
namespace GS
open PySem L2
section
variable {X : Cx} {C : Ct} {o e f : Expr} {td tk tx : TE} {fd fk fx : EF} {apos pos : Pos}
end
end GS
namespace GS
open PySem L2
section
variable {ρ ρ1 : Rho} {c : Prop} [Decidable c]
@[simp] theorem eLenSet_eq (f : EF) : eLenSet f ρ = bindE (eSet f ρ) fun h ρ1 => lsD (getH ρ1 h) ρ1 := rfl
theorem lsD_strs (zs : List Str) (h : zs.length ≤ 4000) : lsD (some (.list (zs.map .str))) ρ = .ok (.sh (.int (uq (zs.map (Sum.inr : Str → Key))).length)) ρ := by
  unfold lsD
  dsimp only
  rw [keysD_strs]
  dsimp only
  rw [if_pos (Nat.ble_eq_true_of_le (by rw [List.length_map]; omega))]
theorem intsL_map (ns : List Int) : intsL (ns.map .int) = some ns := by
  induction ns with
  | nil => rfl
  | cons b bs ih => rw [List.map_cons]; unfold intsL; rw [ih]; rfl
theorem maxLD_l {ns : List Int} (h : ns ≠ []) : maxLD (.list (ns.map .int)) = some (.sh (.int (maxI ns))) := by
  show (intsL _).bind _ = _
  rw [intsL_map, Option.bind_some, if_neg h]
@[simp] theorem lGo_l (o : D → D → Option Hd) (fa : EF) (ha : Hd) (ds : List D) : lGo o fa ha (some (.list ds)) ρ = bindE (eSet fa ρ) fun hb ρ2 => mRes o (getH ρ2 ha) (getH ρ2 hb) ρ2 := rfl
@[simp] theorem eL1_eq (o : D → D → Option Hd) (fr fa : EF) : eL1 o fr fa ρ = bindE (eSet fr ρ) fun ha ρ1 => lGo o fa ha (getH ρ1 ha) ρ1 := rfl
theorem countD_l (ds : List D) (d : D) (h1 : okEq d = true) (h2 : okEq (.list ds) = true) : countD (.list ds) d = some (.sh (.int ((ds.countP fun z => PyData.eqv z d : Nat) : Int))) := by
  show (if _ then _ else _) = _
  rw [h1, h2]; rfl
end
end GS
namespace GM
open PySem L2 GS
/-- is_key(text); slots 0:text 1:letter -/
def m_is_key_b1 : SF := (sKill [1] (sIf (eAnd (eB (eBin (inB true) (eVb 1) (eC (.str (Str.ofString "abcdefghijklmnopqrstuvwxyz"))))) (eB (eBin (inB true) (eVb 1) (eC (.str (Str.ofString "0123456789")))))) (sEnd (sRet (eC (.bool false)))) sNil))
def m_is_key : SF := (sSeq (sIf (eOr (eNot (eB (eChain (ltI fun i j => decide (i ≤ j)) (ltI fun i j => decide (i ≤ j)) (eC (.int 1)) (eCB (un1 lenD) (aCons (eVb 0) aNil)) (eC (.int 24))))) (eB (eBin (inB true) (eBin ixA (eVb 0) (eC (.int 0))) (eC (.str (Str.ofString "abcdefghijklmnopqrstuvwxyz")))))) (sEnd (sRet (eC (.bool false)))) sNil) (sSeq (sFor (iSq (eMv 0)) (gN 1) (m_is_key_b1)) (sEnd (sRet (eC (.bool true))))))
theorem m_is_key_eq (ρ : Rho) : fnF 2 1 (m_is_key) ρ = finR 1 (m_is_key (ρ ++ [none])) := fnF_eq 2 1 _
/-- _law_is_key(text); slots 0:text 1:one -/
def m_law_is_key_ct1 : EF := (eB (eBin (inB true) (eVb 1) (eC (.str (Str.ofString "abcdefghijklmnopqrstuvwxyz0123456789")))))
def m_law_is_key_ce2 : EF := (eMv 1)
def m_law_is_key : SF := (sSeq (sIf (eOr (eB (eBin (eqB false) (eCB (un1 lenD) (aCons (eVb 0) aNil)) (eC (.int 0)))) (eOr (eB (eBin (ltI fun i j => decide (j < i)) (eCB (un1 lenD) (aCons (eVb 0) aNil)) (eC (.int 24)))) (eB (eBin (inB false) (eBin ixA (eVb 0) (eC (.int 0))) (eC (.str (Str.ofString "0123456789"))))))) (sEnd (sRet (eC (.bool false)))) sNil) (sEnd (sRet (eBin (eqB false) (eCB (un1 lenD) (aCons (eLc [1] (iSq (eMv 0)) (gN 1) (eNox (m_law_is_key_ct1)) (eNox (m_law_is_key_ce2))) aNil)) (eC (.int 0))))))
theorem m_law_is_key_eq (ρ : Rho) : fnF 2 1 (m_law_is_key) ρ = finR 1 (m_law_is_key (ρ ++ [none])) := fnF_eq 2 1 _
end GM
namespace GM
open PySem L2 GS
def KeySp (F : FF) : Prop := ∀ s : Str, s.length ≤ sizeLine → F [some ⟨.str s, .sh⟩] = .ok (.sh (.bool (keyB s))) [none]
theorem is_key_ok : KeySp (fnF 2 1 m_is_key) := fun s hs => by
  rw [m_is_key_eq]
  have hl := len_eq s
  have h2 := forL_look (g := gN 1) (b := m_is_key_b1) [some ⟨.str s, .sh⟩, none] [none, none] (fun c => .str ⟨#[c]⟩) (okN SML) (.sh (.bool false)) s.cps.toList
    (fun c _ => by by_cases h1 : c ∈ SML.cps <;> by_cases h2 : c ∈ FIG.cps <;> simp [m_is_key_b1, okN, h1, h2])
  unfold keyB
  cases hc : s.cps.toList with
  | nil =>
    rw [hc] at hl
    simp [m_is_key, hs, hl, nameL]
  | cons c cs =>
    rw [hc] at hl h2
    rw [List.map_cons] at h2
    rw [List.length_cons] at hl
    rw [hl] at hs
    by_cases q1 : cs.length + 1 ≤ 24
    · have q2 : ¬ (24 : Int) < cs.length + 1 := by omega
      have q3 : (1 : Int) ≤ cs.length + 1 := by omega
      by_cases q4 : c ∈ SML.cps
      · by_cases q5 : (c :: cs).all (okN SML) = true
        · rw [if_pos q5] at h2
          simp [m_is_key, hs, hl, nameL, hc, q2, q3, q4, h2, q5, q1]
        · rw [if_neg q5] at h2
          simp [m_is_key, hs, hl, nameL, hc, q2, q3, q4, h2, q5, q1]
      · simp [m_is_key, hs, hl, nameL, hc, q2, q3, q4]
    · have q2 : (24 : Int) < cs.length + 1 := by omega
      have q3 : (1 : Int) ≤ cs.length + 1 := by omega
      have q4 : ¬ cs.length ≤ 23 := by omega
      simp [m_is_key, hs, hl, nameL, hc, q2, q3, q4]
theorem cps_sf : (Str.ofString "abcdefghijklmnopqrstuvwxyz0123456789").cps.toList = SML.cps.toList ++ FIG.cps.toList := by decide +kernel
theorem sf_dis : ∀ c ∈ SML.cps.toList, c ∉ FIG.cps.toList := by decide +kernel
theorem law_is_key_ok : KeySp (fnF 2 1 m_law_is_key) := fun s hs => by
  rw [m_law_is_key_eq]
  have hl := len_eq s
  have hf := lcL_up (vs := [1]) (g := gN 1) (ft := eNox m_law_is_key_ct1) (fe := eNox m_law_is_key_ce2) [some ⟨.str s, .sh⟩, none] (fun c => PyData.str ⟨#[c]⟩) (fun c => [some ⟨.str s, .sh⟩, some ⟨.str ⟨#[c]⟩, .sh⟩]) (fun c => !okN SML c) (fun c => PyData.str ⟨#[c]⟩) s.cps.toList [] (by rw [← hl]; simpa using hs) (fun c _ => by
    have : decide (c ∈ (Str.ofString "abcdefghijklmnopqrstuvwxyz0123456789").cps.toList) = okN SML c := by rw [cps_sf]; simp [okN]
    simp [m_law_is_key_ct1, m_law_is_key_ce2, this, -Array.mem_toList_iff])
  unfold keyB
  have hn := none_left (okN SML) s.cps.toList
  cases hc : s.cps.toList with
  | nil =>
    rw [hc] at hl
    simp [m_law_is_key, hs, hl, nameL]
  | cons c cs =>
    rw [hc] at hl hf hn
    rw [List.map_cons] at hf
    rw [List.length_cons] at hl
    rw [hl] at hs
    have z : ¬ ((cs.length : Int) + 1 = 0) := by omega
    by_cases q1 : cs.length + 1 ≤ 24
    · have q2 : ¬ (24 : Int) < cs.length + 1 := by omega
      by_cases q4 : c ∈ FIG.cps
      · have q5 : ¬ c ∈ SML.cps := fun h => sf_dis c (by simpa using h) (by simpa using q4)
        simp [m_law_is_key, hs, hl, nameL, hc, z, q2, q4, q5]
      · by_cases q6 : (c :: cs).all (okN SML) = true
        · have q7 : c ∈ SML.cps := by
            rw [List.all_cons, Bool.and_eq_true] at q6
            have := q6.1
            simpa [okN, q4] using this
          have hn' := hn.mpr q6
          simp [m_law_is_key, hs, hl, nameL, hc, z, q2, q4, q7, q1, q6, hf, hn']
        · have hn' : ¬ _ := fun h => q6 (hn.mp h)
          simp only [Bool.not_eq_true] at q6
          have : nameL SML (c :: cs) = false := by
            show (_ && _ && (c :: cs).all (okN SML)) = false
            rw [q6, Bool.and_false]
          rw [this]
          generalize (c :: cs).filter (fun c => !okN SML c) = fl at hf hn'
          have hn2 : fl ≠ [] := fun e => hn' (by rw [e]; rfl)
          simp [m_law_is_key, hs, hl, hc, z, q2, q4, q1, hf, hn2]
    · have q2 : (24 : Int) < cs.length + 1 := by omega
      have q4 : ¬ cs.length ≤ 23 := by omega
      simp [m_law_is_key, hs, hl, nameL, hc, z, q2, q4]
theorem keyB_len {s : Str} (h : keyB s = true) : 1 ≤ s.length ∧ s.length ≤ 24 := by
  rw [len_eq]
  unfold keyB at h
  cases hc : s.cps.toList with
  | nil => rw [hc] at h; cases h
  | cons c cs =>
    rw [hc] at h
    simp only [nameL, Bool.and_eq_true, decide_eq_true_eq] at h
    exact ⟨by simp, h.1.1⟩
def figs : List Str := [Str.ofString "0", Str.ofString "1", Str.ofString "2", Str.ofString "3", Str.ofString "4", Str.ofString "5", Str.ofString "6", Str.ofString "7"]
def fgN (f : Str) : Int := (PySem.intText? f).getD 0
theorem okEq_str {s : Str} (h : PyData.strOk s = true) : okEq (.str s) = true := okEq_of (by rw [cleanB]; exact h) (by rw [PyData.depth]; omega)
end GM
namespace GM
open PySem L2 GS
end GM
namespace GM
open PySem L2 GS
abbrev OB : Str := Str.ofString "["
end GM
namespace GM
open PySem L2 GS
def opensT (W : List Str) (a : Nat) : Nat := (W.drop a).count OB
@[simp] theorem isD_enc (neg : Bool) (t : Tr) : isD neg t.enc .none = some (.sh (.bool neg)) := by
  obtain ⟨w, r, h⟩ := enc_word t
  rw [h]; rfl
section
variable {n : Nat} {Fw Ft Fx Fk Fn : FF}
end
end GM
namespace GM
open PySem L2 GS
section
variable {n : Nat} {Fd Fn Fl : FF}
end
end GM
namespace GM
open PySem L2 GS
/-- _law_kid(state, left); slots 0:state 1:left 2:cell 3:sign 4:name 5:takes 6:kids 7:k -/
def m_law_kid_b1 (F__law_kid F__law_cell : FF) : SF := (sKill [7] (sApp 6 (eCall 2 (some 0) F__law_kid (aCons (eVb 0) (aCons (eBin subD (eVb 1) (eC (.int 1))) aNil)))))
def m_law_kid (F__law_kid F__law_cell : FF) : SF := (sSeq (sSet 2 (eCall 1 (some 0) F__law_cell (aCons (eVb 0) aNil))) (sSeq (sSet 3 (eTup (aCons (eC (.str (Str.ofString "sign"))) (aCons (eBin ixA (eLst (aCons (eC (.str (Str.ofString "a"))) (aCons (eC (.str (Str.ofString "b"))) (aCons (eC (.str (Str.ofString "ab"))) aNil)))) (eBin modD (eBin divD (eVb 2) (eC (.int 5))) (eC (.int 3)))) aNil)))) (sSeq (sSet 4 (eBin ixA (eLst (aCons (eC (.str (Str.ofString "S"))) (aCons (eC (.str (Str.ofString "S1"))) (aCons (eC (.str (Str.ofString "S2"))) aNil)))) (eBin modD (eBin divD (eVb 2) (eC (.int 15))) (eC (.int 3))))) (sSeq (sIf (eOr (eB (eBin (eqB false) (eVb 1) (eC (.int 0)))) (eB (eBin (ltI fun i j => decide (i < j)) (eBin modD (eVb 2) (eC (.int 5))) (eC (.int 3))))) (sEnd (sRet (eBin ixA (eLst (aCons (eMv 3) (aCons (eMv 3) (aCons (eTup (aCons (eC (.str (Str.ofString "void"))) aNil)) (aCons (eTup (aCons (eC (.str (Str.ofString "hole"))) (aCons (eMv 4) aNil))) aNil))))) (eBin modD (eBin divD (eVb 2) (eC (.int 45))) (eC (.int 4)))))) sNil) (sSeq (sSet 5 (eBin ixA (eLst (aCons (eC .none) (aCons (eTup (aCons (eMv 4) (aCons (eC (.bool false)) aNil))) (aCons (eTup (aCons (eC (.str (Str.ofString "Z"))) (aCons (eC (.bool false)) aNil))) (aCons (eTup (aCons (eMv 4) (aCons (eC (.bool true)) aNil))) aNil))))) (eBin modD (eBin divD (eVb 2) (eC (.int 45))) (eC (.int 4))))) (sSeq (sSet 6 (eLst aNil)) (sSeq (sFor (iR1 (eBin addD (eC (.int 1)) (eBin modD (eBin divD (eVb 2) (eC (.int 180))) (eC (.int 3))))) (gN 7) (m_law_kid_b1 F__law_kid F__law_cell)) (sEnd (sRet (eTup (aCons (eC (.str (Str.ofString "knot"))) (aCons (eBin ixA (eLst (aCons (eC (.str (Str.ofString "S"))) (aCons (eC (.str (Str.ofString "S1"))) (aCons (eC (.str (Str.ofString "S2"))) aNil)))) (eBin modD (eBin divD (eVb 2) (eC (.int 540))) (eC (.int 3)))) (aCons (eMv 5) (aCons (eCB (un1 tupleD) (aCons (eVb 6) aNil)) aNil))))))))))))))
theorem m_law_kid_eq (F__law_kid F__law_cell : FF) (ρ : Rho) : fnF 8 2 (m_law_kid F__law_kid F__law_cell) ρ = finR 2 (m_law_kid F__law_kid F__law_cell (ρ ++ [none, none, none, none, none, none])) := fnF_eq 8 2 _
/-- _law_footed(tree, foot, cell); slots 0:tree 1:foot 2:cell 3:knots 4:at 5:inner 6:k -/
def m_law_footed_ct1 (F__law_footed : FF) : EF := (eB (eBin (eqB false) (eBin ixA (eBin ixA (eBin ixA (eVb 0) (eC (.int 3))) (eVb 6)) (eC (.int 0))) (eC (.str (Str.ofString "knot")))))
def m_law_footed_ce2 (F__law_footed : FF) : EF := (eMv 6)
def m_law_footed (F__law_footed : FF) : SF := (sSeq (sSet 3 (eLc [6] (iR1 (eCB (un1 lenD) (aCons (eBin ixA (eVb 0) (eC (.int 3))) aNil))) (gN 6) (eNox (m_law_footed_ct1 F__law_footed)) (eNox (m_law_footed_ce2 F__law_footed)))) (sSeq (sKill [4, 5] (sIf (eAnd (eB (eBin (ltI fun i j => decide (j < i)) (eCB (un1 lenD) (aCons (eVb 3) aNil)) (eC (.int 0)))) (eB (eBin (eqB false) (eBin modD (eVb 2) (eC (.int 2))) (eC (.int 1))))) (sSeq (sSet 4 (eBin ixA (eVb 3) (eBin modD (eBin divD (eVb 2) (eC (.int 2))) (eCB (un1 lenD) (aCons (eVb 3) aNil))))) (sSeq (sSet 5 (eCall 3 none F__law_footed (aCons (eBin ixA (eBin ixA (eVb 0) (eC (.int 3))) (eVb 4)) (aCons (eMv 1) (aCons (eBin divD (eVb 2) (eC (.int 6))) aNil))))) (sEnd (sRet (eBin addD (eSl (eVb 0) none (some (eC (.int 3)))) (eTup (aCons (eBin addD (eBin addD (eSl (eBin ixA (eVb 0) (eC (.int 3))) none (some (eVb 4))) (eTup (aCons (eMv 5) aNil))) (eSl (eBin ixA (eVb 0) (eC (.int 3))) (some (eBin addD (eVb 4) (eC (.int 1)))) none)) aNil))))))) sNil)) (sSeq (sSet 4 (eBin modD (eBin divD (eVb 2) (eC (.int 2))) (eBin addD (eCB (un1 lenD) (aCons (eBin ixA (eVb 0) (eC (.int 3))) aNil)) (eC (.int 1))))) (sEnd (sRet (eBin addD (eSl (eVb 0) none (some (eC (.int 3)))) (eTup (aCons (eBin addD (eBin addD (eSl (eBin ixA (eVb 0) (eC (.int 3))) none (some (eVb 4))) (eTup (aCons (eMv 1) aNil))) (eSl (eBin ixA (eVb 0) (eC (.int 3))) (some (eVb 4)) none)) aNil))))))))
theorem m_law_footed_eq (F__law_footed : FF) (ρ : Rho) : fnF 7 3 (m_law_footed F__law_footed) ρ = finR 3 (m_law_footed F__law_footed (ρ ++ [none, none, none, none])) := fnF_eq 7 3 _
/-- _law_drawn(state, left); slots 0:state 1:left 2:cell 3:takes 4:kids 5:k 6:tree -/
def m_law_drawn_b1 (F__law_footed F__law_kid F__law_cell : FF) : SF := (sKill [5] (sIns 4 (eBin modD (eBin divD (eVb 2) (eC (.int 24))) (eBin addD (eCB (un1 lenD) (aCons (eVb 4) aNil)) (eC (.int 1)))) (eCall 2 (some 0) F__law_kid (aCons (eVb 0) (aCons (eMv 1) aNil)))))
def m_law_drawn (F__law_footed F__law_kid F__law_cell : FF) : SF := (sSeq (sSet 2 (eCall 1 (some 0) F__law_cell (aCons (eVb 0) aNil))) (sSeq (sSet 3 (eBin ixA (eLst (aCons (eC .none) (aCons (eTup (aCons (eC (.str (Str.ofString "S1"))) (aCons (eC (.bool false)) aNil))) (aCons (eTup (aCons (eC (.str (Str.ofString "S2"))) (aCons (eC (.bool false)) aNil))) (aCons (eTup (aCons (eC (.str (Str.ofString "S1"))) (aCons (eC (.bool true)) aNil))) aNil))))) (eBin modD (eVb 2) (eC (.int 4))))) (sSeq (sSet 4 (eLst (aCons (eTup (aCons (eC (.str (Str.ofString "sign"))) (aCons (eBin ixA (eLst (aCons (eC (.str (Str.ofString "a"))) (aCons (eC (.str (Str.ofString "b"))) aNil))) (eBin modD (eBin divD (eVb 2) (eC (.int 4))) (eC (.int 2)))) aNil))) aNil))) (sSeq (sFor (iR1 (eBin modD (eBin divD (eVb 2) (eC (.int 8))) (eC (.int 3)))) (gN 5) (m_law_drawn_b1 F__law_footed F__law_kid F__law_cell)) (sSeq (sSet 6 (eTup (aCons (eC (.str (Str.ofString "knot"))) (aCons (eBin ixA (eLst (aCons (eC (.str (Str.ofString "S"))) (aCons (eC (.str (Str.ofString "S1"))) (aCons (eC (.str (Str.ofString "S2"))) aNil)))) (eBin modD (eBin divD (eVb 2) (eC (.int 72))) (eC (.int 3)))) (aCons (eMv 3) (aCons (eCB (un1 tupleD) (aCons (eVb 4) aNil)) aNil)))))) (sSeq (sIf (eB (eBin (eqB false) (eBin modD (eBin divD (eVb 2) (eC (.int 216))) (eC (.int 2))) (eC (.int 0)))) (sEnd (sRet (eRv 6))) sNil) (sEnd (sRet (eCall 3 none F__law_footed (aCons (eMv 6) (aCons (eTup (aCons (eC (.str (Str.ofString "foot"))) (aCons (eBin ixA (eLst (aCons (eC (.str (Str.ofString "S"))) (aCons (eC (.str (Str.ofString "S1"))) (aCons (eC (.str (Str.ofString "S2"))) aNil)))) (eBin modD (eBin divD (eVb 2) (eC (.int 432))) (eC (.int 3)))) aNil))) (aCons (eBin divD (eVb 2) (eC (.int 1296))) aNil))))))))))))
theorem m_law_drawn_eq (F__law_footed F__law_kid F__law_cell : FF) (ρ : Rho) : fnF 7 2 (m_law_drawn F__law_footed F__law_kid F__law_cell) ρ = finR 2 (m_law_drawn F__law_footed F__law_kid F__law_cell (ρ ++ [none, none, none, none, none])) := fnF_eq 7 2 _
/-- _law_book(state, many, left); slots 0:state 1:many 2:left 3:cell 4:trees 5:k 6:name 7:foot 8:kids 9:key -/
def m_law_book_b1 (F__law_drawn F__law_cell : FF) : SF := (sKill [5, 9] (sSeq (sSet 9 (eBin ixA (eLst (aCons (eC (.str (Str.ofString "p"))) (aCons (eC (.str (Str.ofString "qq"))) (aCons (eC (.str (Str.ofString "r2"))) (aCons (eC (.str (Str.ofString "tall"))) (aCons (eC (.str (Str.ofString "u"))) aNil)))))) (eVb 5))) (sIns 4 (eBin modD (eBin divD (eVb 3) (eBin addD (eVb 5) (eC (.int 7)))) (eBin addD (eCB (un1 lenD) (aCons (eVb 4) aNil)) (eC (.int 1)))) (eTup (aCons (eMv 9) (aCons (eCall 2 (some 0) F__law_drawn (aCons (eVb 0) (aCons (eMv 2) aNil))) aNil))))))
def m_law_book_b2 (F__law_drawn F__law_cell : FF) : SF := (sKill [5, 6, 7, 8] (sSeq (sSet 6 (eBin ixA (eLst (aCons (eC (.str (Str.ofString "S"))) (aCons (eC (.str (Str.ofString "S1"))) (aCons (eC (.str (Str.ofString "S2"))) aNil)))) (eVb 5))) (sSeq (sApp 4 (eTup (aCons (eBin ixA (eLst (aCons (eC (.str (Str.ofString "s"))) (aCons (eC (.str (Str.ofString "x0"))) (aCons (eC (.str (Str.ofString "keytree"))) aNil)))) (eVb 5)) (aCons (eTup (aCons (eC (.str (Str.ofString "knot"))) (aCons (eMv 6) (aCons (eC .none) (aCons (eTup (aCons (eTup (aCons (eC (.str (Str.ofString "sign"))) (aCons (eBin ixA (eLst (aCons (eC (.str (Str.ofString "a"))) (aCons (eC (.str (Str.ofString "b"))) (aCons (eC (.str (Str.ofString "a"))) aNil)))) (eVb 5)) aNil))) aNil)) aNil))))) aNil)))) (sSeq (sSet 7 (eTup (aCons (eC (.str (Str.ofString "foot"))) (aCons (eMv 6) aNil)))) (sSeq (sSet 8 (eBin ixA (eLst (aCons (eTup (aCons (eTup (aCons (eC (.str (Str.ofString "sign"))) (aCons (eC (.str (Str.ofString "b"))) aNil))) (aCons (eMv 7) aNil))) (aCons (eTup (aCons (eMv 7) (aCons (eTup (aCons (eC (.str (Str.ofString "sign"))) (aCons (eC (.str (Str.ofString "a"))) aNil))) aNil))) aNil))) (eBin modD (eBin divD (eVb 3) (eBin addD (eVb 5) (eC (.int 1)))) (eC (.int 2))))) (sApp 4 (eTup (aCons (eBin ixA (eLst (aCons (eC (.str (Str.ofString "g"))) (aCons (eC (.str (Str.ofString "h1"))) (aCons (eC (.str (Str.ofString "graftofaone"))) aNil)))) (eVb 5)) (aCons (eTup (aCons (eC (.str (Str.ofString "knot"))) (aCons (eMv 6) (aCons (eC .none) (aCons (eMv 8) aNil))))) aNil)))))))))
def m_law_book (F__law_drawn F__law_cell : FF) : SF := (sSeq (sSet 3 (eCall 1 (some 0) F__law_cell (aCons (eVb 0) aNil))) (sSeq (sSet 4 (eLst aNil)) (sSeq (sFor (iR1 (eC (.int 3))) (gN 5) (m_law_book_b2 F__law_drawn F__law_cell)) (sSeq (sFor (iR1 (eVb 1)) (gN 5) (m_law_book_b1 F__law_drawn F__law_cell)) (sEnd (sRet (eTup (aCons (eBin ixA (eLst (aCons (eC (.str (Str.ofString "S"))) (aCons (eC (.str (Str.ofString "S"))) (aCons (eC (.str (Str.ofString "S1"))) aNil)))) (eBin modD (eBin divD (eVb 3) (eC (.int 3))) (eC (.int 3)))) (aCons (eCB (un1 tupleD) (aCons (eVb 4) aNil)) aNil)))))))))
theorem m_law_book_eq (F__law_drawn F__law_cell : FF) (ρ : Rho) : fnF 10 3 (m_law_book F__law_drawn F__law_cell) ρ = finR 3 (m_law_book F__law_drawn F__law_cell (ρ ++ [none, none, none, none, none, none, none])) := fnF_eq 10 3 _
end GM
namespace GM
open PySem L2 GS
def capN : Nat → Nat
  | 0 => 1
  | l + 1 => 1 + 3 * capN l
theorem capN_few {n : Nat} (h : capN n ≤ 15) : 3 * capN n + 2 ≤ 42 + 2 * n := by
  match n, h with
  | 0, _ => simp [capN]
  | 1, _ => simp [capN]
  | 2, _ => simp [capN]
  | n + 3, h =>
    have h' : 1 + 3 * (1 + 3 * (1 + 3 * capN n)) ≤ 15 := h
    omega
theorem capN_pos (l : Nat) : 1 ≤ capN l := by cases l <;> simp [capN]
/-- no knot has more than three kids -/
def Nar (t : Tr) : Prop := ∀ u ∈ t.pieces, u.kids.length ≤ 3
theorem Nar.kid {t k : Tr} (h : Nar t) (m : k ∈ t.kids) : Nar k := fun u mu => h u (by
  rw [pieces_kids t]
  exact List.mem_cons_of_mem _ (List.mem_flatMap.mpr ⟨k, m, mu⟩))
theorem Nar.knot {n : Str} {tk : Option (Str × Bool)} {ks : List Tr} (hl : ks.length ≤ 3) (h : ∀ k ∈ ks, Nar k) : Nar (.knot n tk ks) := fun u mu => by
  rw [pieces_kids] at mu
  rcases List.mem_cons.mp mu with rfl | mu
  · exact hl
  · obtain ⟨k, mk, mu⟩ := List.mem_flatMap.mp mu
    exact h k mk u mu
/-- what must be put has one of three names -/
def nm3 : List Str := [Str.ofString "S", Str.ofString "S1", Str.ofString "S2"]
def wtk : Option (Str × Bool) → Bool
  | some (n, true) => decide (n ∈ nm3)
  | _ => true
def sg3 : List Str := [Str.ofString "a", Str.ofString "b", Str.ofString "ab"]
def WnB : Tr → Bool
  | .hole n => decide (n ∈ nm3)
  | .knot n tk _ => decide (n ∈ nm3) && wtk tk
  | .foot n => decide (n ∈ nm3)
  | .sign s => decide (s ∈ sg3)
  | .void => true
def Wn (t : Tr) : Prop := ∀ u ∈ t.pieces, WnB u = true
theorem Wn.knot {n : Str} {tk : Option (Str × Bool)} {ks : List Tr} (h : (decide (n ∈ nm3) && wtk tk) = true) (hk : ∀ k ∈ ks, Wn k) : Wn (.knot n tk ks) := fun u mu => by
  rw [pieces_kids] at mu
  rcases List.mem_cons.mp mu with rfl | mu
  · exact h
  · obtain ⟨k, mk, mu⟩ := List.mem_flatMap.mp mu
    exact hk k mk u mu
theorem Wn.kid {t k : Tr} (h : Wn t) (m : k ∈ t.kids) : Wn k := fun u mu => h u (by
  rw [pieces_kids]
  exact List.mem_cons_of_mem _ (List.mem_flatMap.mpr ⟨k, m, mu⟩))
theorem Wn.self {t : Tr} (h : Wn t) : WnB t = true := h t (by rw [pieces_kids]; simp)
theorem Wn.one {t : Tr} (h : t.kids = []) (hw : WnB t = true) : Wn t := fun u mu => by
  rw [pieces_kids, h] at mu
  simp at mu
  subst mu
  exact hw
structure KidOk (l : Nat) (t : Tr) : Prop where
  ok : t.ok = true
  ht : t.ht ≤ l
  feet : t.feet = []
  sz : t.pieces.length ≤ capN l
  nar : Nar t
  wn : Wn t
theorem kid_leaf {l : Nat} {t : Tr} (h : t.kids = []) (ok : t.ok = true) (hh : t.ht = 0) (hf : t.footN = none) (hw : WnB t = true := by rfl) : KidOk l t := by
  have hp : t.pieces = [t] := by rw [pieces_kids, h]; rfl
  refine ⟨ok, by omega, by unfold Tr.feet; rw [hp]; simp [hf], by rw [hp]; exact capN_pos l, fun u mu => ?_, Wn.one h hw⟩
  rw [hp] at mu
  simp at mu
  subst mu
  rw [h]; simp
def KidGen (n : Nat) (F : FF) : Prop := ∀ (ns : List Int) (a : Nat) (ex : Option Int) (l : Nat), l ≤ n → ∃ (t : Tr) (a' : Nat), F [some ⟨stD ns a ex, .io⟩, some ⟨.int l, .sh⟩] = .ok (.sh t.enc) [some ⟨stD ns a' ex, .io⟩, none] ∧ KidOk l t
theorem n3 (c : Int) : ∃ z : Str, pick [PyData.str (Str.ofString "S"), .str (Str.ofString "S1"), .str (Str.ofString "S2")] (c % 3) = .str z ∧ nameB z = true ∧ decide (z ∈ nm3) = true :=
  pick3 (P := fun d => ∃ z : Str, d = .str z ∧ nameB z = true ∧ decide (z ∈ nm3) = true) c ⟨_, rfl, by decide +kernel, by decide +kernel⟩ ⟨_, rfl, by decide +kernel, by decide +kernel⟩ ⟨_, rfl, by decide +kernel, by decide +kernel⟩
theorem law_kid_ok {n : Nat} {Fk Fc : FF} (hc : CellSp Fc) (hk : ∀ m, m + 1 = n → KidGen m Fk) : KidGen n (fnF 8 2 (m_law_kid Fk Fc)) := fun ns a ex l hle => by
  obtain ⟨c, a0, h1⟩ := hc ns a ex
  obtain ⟨sg, esg, osg, wsg⟩ := pick3 (P := fun d => ∃ z : Str, d = .str z ∧ signB z = true ∧ decide (z ∈ sg3) = true) (a := .str (Str.ofString "a")) (b := .str (Str.ofString "b")) (d := .str (Str.ofString "ab")) (c / 5) ⟨_, rfl, by decide +kernel, by decide +kernel⟩ ⟨_, rfl, by decide +kernel, by decide +kernel⟩ ⟨_, rfl, by decide +kernel, by decide +kernel⟩
  obtain ⟨nm, enm, onm, wnm⟩ := n3 (c / 15)
  by_cases q : l = 0 ∨ c % 5 < 3
  · obtain ⟨t, et, ht⟩ := pick4 (P := fun d => ∃ t : Tr, d = t.enc ∧ KidOk l t) (a := Tr.enc (.sign sg)) (b := Tr.enc (.sign sg)) (d := Tr.enc .void) (f := Tr.enc (.hole nm)) (c / 45) ⟨_, rfl, kid_leaf rfl osg rfl rfl wsg⟩ ⟨_, rfl, kid_leaf rfl osg rfl rfl wsg⟩ ⟨_, rfl, kid_leaf rfl rfl rfl rfl⟩ ⟨_, rfl, kid_leaf rfl onm rfl rfl wnm⟩
    refine ⟨t, a0, ?_, ht⟩
    rw [m_law_kid_eq]
    simp only [Tr.enc] at et
    by_cases q1 : l = 0
    · simp [m_law_kid, h1, esg, enm, q1, et]
    · have q2 : c % 5 < 3 := by omega
      simp [m_law_kid, h1, esg, enm, q1, q2, et]
  · have q1 : ¬ l = 0 := by omega
    have q2 : ¬ c % 5 < 3 := by omega
    obtain ⟨tk, etk, otk, wkt⟩ := pick4 (P := fun d => ∃ tk : Option (Str × Bool), d = encTk tk ∧ okTk tk = true ∧ wtk tk = true) (a := .none) (b := .tuple [.str nm, .bool false]) (d := .tuple [.str (Str.ofString "Z"), .bool false]) (f := .tuple [.str nm, .bool true]) (c / 45) ⟨none, rfl, rfl, rfl⟩ ⟨some (nm, false), rfl, onm, rfl⟩ ⟨some (_, false), rfl, by decide +kernel, rfl⟩ ⟨some (nm, true), rfl, onm, wnm⟩
    obtain ⟨nm2, enm2, onm2, wnm2⟩ := n3 (c / 540)
    obtain ⟨m, hm, hm3⟩ : ∃ m : Nat, (1 : Int) + c / 180 % 3 = m ∧ 1 ≤ m ∧ m ≤ 3 := ⟨(1 + c / 180 % 3).toNat, by omega, by omega, by omega⟩
    have hk' := hk (n - 1) (by omega)
    obtain ⟨⟨ts, a'⟩, hf, hf1, hf2⟩ := forL_by (S := List Tr × Nat) (g := gN 7) (b := m_law_kid_b1 Fk Fc) (fun p => [some ⟨stD ns p.2 ex, .io⟩, some ⟨.int l, .sh⟩, some ⟨.int c, .sh⟩, some ⟨.tuple [.str (Str.ofString "sign"), .str sg], .sh⟩, some ⟨.str nm, .sh⟩, some ⟨encTk tk, .sh⟩, some ⟨.list (p.1.map Tr.enc), .ow⟩, none])
      (fun pre p => p.1.length = pre.length ∧ ∀ t ∈ p.1, KidOk (l - 1) t) (rgD 0 m) ([], a0) ⟨rfl, by simp⟩ (fun pre d post ⟨ts, a1⟩ hd ⟨g1, g2⟩ => by
        obtain ⟨hk1, rfl⟩ := rgD_mid hd
        obtain ⟨t, a2, e, ot⟩ := hk' ns a1 ex (l - 1) (by omega)
        rw [show ((l - 1 : Nat) : Int) = (l : Int) - 1 by omega] at e
        dsimp only at g1 g2
        have hz : ts.length < sizeLine := fitsl (by omega)
        refine ⟨(ts ++ [t], a2), ?_, by simp [g1], fun t' mt => ?_⟩
        · simp [m_law_kid_b1, e, hz]
        · rcases List.mem_append.mp mt with mt | mt
          · exact g2 t' mt
          · simp at mt; subst mt; exact ot)
    rw [rgD_len] at hf1
    dsimp only at hf hf1 hf2
    rw [List.map_nil] at hf
    have ok : okR (m : Int) = true := okR_nat (by omega)
    refine ⟨.knot nm2 tk ts, a', ?_, ?_, ?_, ?_, ?_, ?_, Wn.knot (by rw [wnm2, wkt]; rfl) fun t mt => (hf2 t mt).wn⟩
    · rw [m_law_kid_eq]
      simp [m_law_kid, h1, esg, enm, q1, q2, etk, hm, ok, hf, enm2, Tr.enc, encL_map]
    · simp only [Tr.ok, Bool.and_eq_true, decide_eq_true_eq]
      exact ⟨onm2, otk, by omega, by omega, okL_of fun t mt => (hf2 t mt).ok⟩
    · have := htL_of (ts := ts) (n := l - 1) fun t mt => (hf2 t mt).ht
      rw [Tr.ht]; omega
    · rw [feet_knot, List.flatMap_eq_nil_iff]
      exact fun t mt => (hf2 t mt).feet
    · rw [pieces_knot]
      have := flat_le (f := Tr.pieces) (n := capN (l - 1)) ts fun t mt => (hf2 t mt).sz
      have e : capN l = 1 + 3 * capN (l - 1) := by
        rw [show l = (l - 1) + 1 by omega]; rfl
      rw [e]
      have : ts.length * capN (l - 1) ≤ 3 * capN (l - 1) := Nat.mul_le_mul_right _ (by omega)
      omega
    · exact Nar.knot (by omega) fun t mt => (hf2 t mt).nar
/-- a foot is put in -/
structure Footed (nm : Str) (t t' : Tr) : Prop where
  ok : t'.ok = true
  ht : t'.ht ≤ t.ht
  feet : t'.feet = [nm]
  sz : t'.pieces.length = t.pieces.length + 1
  signs : t'.signs = t.signs
  kn : ∃ n tk ks ks', t = .knot n tk ks ∧ t' = .knot n tk ks'
  wn : decide (nm ∈ nm3) = true → Wn t → Wn t'
def FootedSp (n : Nat) (F : FF) : Prop := ∀ (t : Tr) (nm : Str) (cell : Int), t.ok = true → t.ht ≤ n → t.feet = [] → Nar t → t.isKnot = true → nameB nm = true → ∃ t', F [some ⟨t.enc, .sh⟩, some ⟨Tr.enc (.foot nm), .sh⟩, some ⟨.int cell, .sh⟩] = .ok (.sh t'.enc) [none, none, none] ∧ Footed nm t t'
theorem flat_feet_nil {ks : List Tr} (h : ks.flatMap Tr.feet = []) {k : Tr} (m : k ∈ ks) : k.feet = [] := List.flatMap_eq_nil_iff.mp h k m
theorem split_at {ks : List Tr} {i : Nat} {k : Tr} (h : ks[i]? = some k) : ks = ks.take i ++ k :: ks.drop (i + 1) := by
  have hi := (List.getElem?_eq_some_iff.mp h).1
  conv => lhs; rw [← List.take_append_drop i ks]
  congr 1
  rw [List.drop_eq_getElem_cons hi]
  congr 1
  exact (List.getElem?_eq_some_iff.mp h).2
theorem law_footed_ok {n : Nat} {Ff : FF} (hf : ∀ m, m + 1 = n → FootedSp m Ff) : FootedSp n (fnF 7 3 (m_law_footed Ff)) := fun t nm cell ok hh ft nar kn onm => by
  cases t with
  | knot tn tk ks =>
    have okt := ok
    rw [Tr.ok] at ok
    simp only [Bool.and_eq_true, decide_eq_true_eq] at ok
    obtain ⟨o1, o2, o3, o4, o5⟩ := ok
    have hl3 : ks.length ≤ 3 := nar (.knot tn tk ks) (by rw [pieces_kids]; simp)
    rw [feet_knot] at ft
    rw [Tr.ht] at hh
    have ek : Tr.encL ks = ks.map Tr.enc := encL_map ks
    have c3 : cutD [PyData.str (Str.ofString "knot"), .str tn, encTk tk, .tuple (ks.map Tr.enc)] none (some 3) = [PyData.str (Str.ofString "knot"), .str tn, encTk tk] := cutD_to _ 3
    have s3 : 3 + 1 ≤ sizeLine := by decide
    have ekn : Tr.enc (.knot tn tk ks) = .tuple [.str (Str.ofString "knot"), .str tn, encTk tk, .tuple (ks.map Tr.enc)] := by rw [Tr.enc, ek]
    rw [m_law_footed_eq]
    -- which kids are knots
    have hcm := lcL_up (vs := [6]) (g := gN 6) (ft := eNox (m_law_footed_ct1 Ff)) (fe := eNox (m_law_footed_ce2 Ff)) [some ⟨Tr.enc (.knot tn tk ks), .sh⟩, some ⟨Tr.enc (.foot nm), .sh⟩, some ⟨.int cell, .sh⟩, none, none, none, none] (fun i : Nat => PyData.int ((0 : Int) + (i : Int)))
      (fun i => [some ⟨Tr.enc (.knot tn tk ks), .sh⟩, some ⟨Tr.enc (.foot nm), .sh⟩, some ⟨.int cell, .sh⟩, none, none, none, some ⟨.int ((0 : Int) + (i : Int)), .sh⟩]) (fun i => (ks[i]?.map Tr.isKnot).getD false) (fun i : Nat => PyData.int (i : Int)) (List.range ks.length) [] (fits (by simp; omega)) (fun i mi => by
        have hi : i < ks.length := List.mem_range.mp mi
        have e1 : L2.atI (ks.map Tr.enc) (i : Int) = some (ks[i]).enc := by
          rw [atI_nat (xs := ks.map Tr.enc) (j := i) (v := (ks[i]).enc) (by simp [hi])]
        have e2 : ks[i]? = some ks[i] := List.getElem?_eq_getElem hi
        rw [e2]
        generalize ks[i] = k at e1
        cases k <;> simp [m_law_footed_ct1, m_law_footed_ce2, Tr.enc, ek, e1, Tr.isKnot])
    obtain ⟨kl, hkl⟩ : ∃ kl, (List.range ks.length).filter (fun i => (ks[i]?.map Tr.isKnot).getD false) = kl := ⟨_, rfl⟩
    rw [hkl, List.nil_append] at hcm
    have hkm : ∀ i ∈ kl, ∃ k, ks[i]? = some k ∧ k.isKnot = true := by
      intro i mi
      rw [← hkl, List.mem_filter] at mi
      cases hx : ks[i]? with
      | none => rw [hx] at mi; simp at mi
      | some k => rw [hx] at mi; exact ⟨k, rfl, by simpa using mi.2⟩
    have hrg : rgD 0 ks.length = (List.range ks.length).map fun i : Nat => PyData.int ((0 : Int) + (i : Int)) := rfl
    rw [← hrg] at hcm
    have okl : okR (ks.length : Int) = true := okR_nat (by omega)
    have tn2 : ((ks.length : Int)).toNat = ks.length := by omega
    by_cases q : 0 < kl.length ∧ cell % 2 = 1
    · obtain ⟨q1, q2⟩ := q
      have q1' : (0 : Int) < (kl.length : Int) := by omega
      have hm0 := Int.emod_nonneg (cell / 2) (show (kl.length : Int) ≠ 0 by omega)
      have hm1 := Int.emod_lt_of_pos (cell / 2) q1'
      obtain ⟨j, hj⟩ : ∃ j : Nat, cell / 2 % (kl.length : Int) = j := ⟨(cell / 2 % (kl.length : Int)).toNat, by omega⟩
      have hjl : j < kl.length := by omega
      have ej : L2.atI (kl.map fun i : Nat => PyData.int (i : Int)) (j : Int) = some (.int (kl[j] : Int)) := by
        rw [atI_nat (xs := kl.map fun i : Nat => PyData.int (i : Int)) (j := j) (v := .int (kl[j] : Int)) (by simp [hjl])]
      obtain ⟨k, hk, kk⟩ := hkm (kl[j]) (List.getElem_mem hjl)
      generalize kl[j] = i at ej hk
      have mk : k ∈ ks := List.mem_of_getElem? hk
      have hi := (List.getElem?_eq_some_iff.mp hk).1
      have ei : L2.atI (ks.map Tr.enc) (i : Int) = some k.enc := by
        rw [atI_nat (xs := ks.map Tr.enc) (j := i) (v := k.enc) (by rw [List.getElem?_map, hk]; rfl)]
      have hkh := ht_mem mk
      obtain ⟨k', ek', fk⟩ := hf (n - 1) (by omega) k nm (cell / 6) (okL_mem o5 k mk) (by omega) (flat_feet_nil ft mk) (nar.kid mk) kk onm
      have ct : cutD (ks.map Tr.enc) none (some (i : Int)) = (ks.take i).map Tr.enc := by rw [cutD_to, List.map_take]
      have cf : cutD (ks.map Tr.enc) (some ((i : Int) + 1)) none = (ks.drop (i + 1)).map Tr.enc := by
        rw [show (i : Int) + 1 = ((i + 1 : Nat) : Int) by omega, cutD_from, List.map_drop]
      have sp := split_at hk
      have z1 : min i ks.length + 1 ≤ sizeLine := fits (by omega)
      have z2 : min i ks.length + 1 + (ks.length - (i + 1)) ≤ sizeLine := fits (by omega)
      have z2' : min i ks.length + (ks.length - (i + 1) + 1) ≤ sizeLine := fits (by omega)
      refine ⟨.knot tn tk (ks.take i ++ k' :: ks.drop (i + 1)), ?_, ?_, ?_, ?_, ?_, ?_, ⟨tn, tk, ks, _, rfl, rfl⟩, fun w3 W => Wn.knot W.self fun z mz => ?_⟩
      · rw [ekn] at hcm ⊢
        have ek2 : Ff [some ⟨k.enc, .sh⟩, some ⟨Tr.enc (.foot nm), .sh⟩, some ⟨.int (cell / 6), .sh⟩] = .ok (.sh k'.enc) [none, none, none] := ek'
        simp [m_law_footed, okl, tn2, hcm, q1, q2, resO_mod, hj, ej, ei, ek2, c3, ct, cf, z1, z2, z2', s3]
        simp [Tr.enc, encL_map]
      · simp only [Tr.ok, Bool.and_eq_true, decide_eq_true_eq]
        have hlen : (ks.take i ++ k' :: ks.drop (i + 1)).length = ks.length := by conv => rhs; rw [sp]
                                                                                  simp
        refine ⟨o1, o2, by omega, by omega, okL_of fun t mt => ?_⟩
        rcases List.mem_append.mp mt with mt | mt
        · exact okL_mem o5 t (List.mem_of_mem_take mt)
        · rcases List.mem_cons.mp mt with rfl | mt
          · exact fk.ok
          · exact okL_mem o5 t (List.mem_of_mem_drop mt)
      · rw [Tr.ht, Tr.ht]
        have := htL_of (ts := ks.take i ++ k' :: ks.drop (i + 1)) (n := Tr.htL ks) fun t mt => by
          rcases List.mem_append.mp mt with mt | mt
          · exact ht_mem (List.mem_of_mem_take mt)
          · rcases List.mem_cons.mp mt with rfl | mt
            · exact Nat.le_trans fk.ht hkh
            · exact ht_mem (List.mem_of_mem_drop mt)
        omega
      · rw [feet_knot, List.flatMap_append, List.flatMap_cons, fk.feet]
        have h1 : (ks.take i).flatMap Tr.feet = [] := List.flatMap_eq_nil_iff.mpr fun t mt => flat_feet_nil ft (List.mem_of_mem_take mt)
        have h2 : (ks.drop (i + 1)).flatMap Tr.feet = [] := List.flatMap_eq_nil_iff.mpr fun t mt => flat_feet_nil ft (List.mem_of_mem_drop mt)
        rw [h1, h2]; rfl
      · rw [pieces_knot, pieces_knot]
        conv => rhs; rw [sp]
        simp only [List.flatMap_append, List.flatMap_cons, List.length_append, fk.sz]
        omega
      · rw [signs_knot, signs_knot]
        conv => rhs; rw [sp]
        simp only [List.flatMap_append, List.flatMap_cons, fk.signs]
      · rcases List.mem_append.mp mz with mz | mz
        · exact W.kid (List.mem_of_mem_take mz)
        · rcases List.mem_cons.mp mz with rfl | mz
          · exact fk.wn w3 (W.kid mk)
          · exact W.kid (List.mem_of_mem_drop mz)
    · have p0 : (0 : Int) < (ks.length : Int) + 1 := by omega
      have hm0 := Int.emod_nonneg (cell / 2) (show (ks.length : Int) + 1 ≠ 0 by omega)
      have hm1 := Int.emod_lt_of_pos (cell / 2) p0
      obtain ⟨i, hi⟩ : ∃ i : Nat, cell / 2 % ((ks.length : Int) + 1) = i := ⟨(cell / 2 % ((ks.length : Int) + 1)).toNat, by omega⟩
      have hil : i ≤ ks.length := by omega
      have ct : cutD (ks.map Tr.enc) none (some (i : Int)) = (ks.take i).map Tr.enc := by rw [cutD_to, List.map_take]
      have cf : cutD (ks.map Tr.enc) (some (i : Int)) none = (ks.drop i).map Tr.enc := by rw [cutD_from, List.map_drop]
      have z1 : min i ks.length + 1 ≤ sizeLine := fits (by omega)
      have z2 : min i ks.length + 1 + (ks.length - i) ≤ sizeLine := fits (by omega)
      have z2' : min i ks.length + (ks.length - i + 1) ≤ sizeLine := fits (by omega)
      have hlen : (ks.take i ++ Tr.foot nm :: ks.drop i).length = ks.length + 1 := by simp; omega
      refine ⟨.knot tn tk (ks.take i ++ .foot nm :: ks.drop i), ?_, ?_, ?_, ?_, ?_, ?_, ⟨tn, tk, ks, _, rfl, rfl⟩, fun w3 W => Wn.knot W.self fun z mz => ?_⟩
      · rw [ekn] at hcm ⊢
        by_cases qa : 0 < kl.length
        · have qb : ¬ cell % 2 = 1 := fun e => q ⟨qa, e⟩
          simp [m_law_footed, okl, tn2, hcm, qa, qb, resO_mod p0, hi, c3, ct, cf, z1, z2, z2', s3]
          simp [Tr.enc, encL_map]
        · simp [m_law_footed, okl, tn2, hcm, qa, resO_mod p0, hi, c3, ct, cf, z1, z2, z2', s3]
          simp [Tr.enc, encL_map]
      · simp only [Tr.ok, Bool.and_eq_true, decide_eq_true_eq]
        refine ⟨o1, o2, by omega, by omega, okL_of fun t mt => ?_⟩
        rcases List.mem_append.mp mt with mt | mt
        · exact okL_mem o5 t (List.mem_of_mem_take mt)
        · rcases List.mem_cons.mp mt with rfl | mt
          · exact onm
          · exact okL_mem o5 t (List.mem_of_mem_drop mt)
      · rw [Tr.ht, Tr.ht]
        have := htL_of (ts := ks.take i ++ Tr.foot nm :: ks.drop i) (n := Tr.htL ks) fun t mt => by
          rcases List.mem_append.mp mt with mt | mt
          · exact ht_mem (List.mem_of_mem_take mt)
          · rcases List.mem_cons.mp mt with rfl | mt
            · simp [Tr.ht]
            · exact ht_mem (List.mem_of_mem_drop mt)
        omega
      · rw [feet_knot, List.flatMap_append, List.flatMap_cons]
        have h1 : (ks.take i).flatMap Tr.feet = [] := List.flatMap_eq_nil_iff.mpr fun t mt => flat_feet_nil ft (List.mem_of_mem_take mt)
        have h2 : (ks.drop i).flatMap Tr.feet = [] := List.flatMap_eq_nil_iff.mpr fun t mt => flat_feet_nil ft (List.mem_of_mem_drop mt)
        rw [h1, h2]; rfl
      · rw [pieces_knot, pieces_knot]
        conv => rhs; rw [← List.take_append_drop i ks]
        simp only [List.flatMap_append, List.flatMap_cons, List.length_append]
        rw [show (Tr.foot nm).pieces = [.foot nm] from rfl, List.length_singleton]
        omega
      · rw [signs_knot, signs_knot]
        conv => rhs; rw [← List.take_append_drop i ks]
        simp only [List.flatMap_append, List.flatMap_cons]
        rfl
      · rcases List.mem_append.mp mz with mz | mz
        · exact W.kid (List.mem_of_mem_take mz)
        · rcases List.mem_cons.mp mz with rfl | mz
          · exact Wn.one rfl w3
          · exact W.kid (List.mem_of_mem_drop mz)
  | _ => cases kn
/-- a start or a graft that is drawn -/
structure TreeOk (h : Nat) (t : Tr) : Prop where
  ok : t.ok = true
  kn : t.isKnot = true
  feet : t.feet.length ≤ 1
  ht : t.ht ≤ h
  sz : t.pieces.length ≤ 50
  s4 : t.pieces.length ≤ 40 + 2 * h
  sg : 1 ≤ t.signs.length
  wn : Wn t
def DrawnGen (n : Nat) (F : FF) : Prop := ∀ (ns : List Int) (a : Nat) (ex : Option Int), ∃ (t : Tr) (a' : Nat), F [some ⟨stD ns a ex, .io⟩, some ⟨.int n, .sh⟩] = .ok (.sh t.enc) [some ⟨stD ns a' ex, .io⟩, none] ∧ TreeOk (n + 1) t
theorem ins_mem {α : Type} {xs : List α} {i : Nat} {x y : α} (h : y ∈ xs.take i ++ [x] ++ xs.drop i) : y = x ∨ y ∈ xs := by
  simp only [List.mem_append, List.mem_cons, List.not_mem_nil, or_false] at h
  rcases h with (h | h) | h
  · exact .inr (List.mem_of_mem_take h)
  · exact .inl h
  · exact .inr (List.mem_of_mem_drop h)
theorem ins_perm {α : Type} (xs : List α) (i : Nat) (x : α) : (xs.take i ++ [x] ++ xs.drop i).Perm (x :: xs) := by
  rw [List.append_assoc, List.singleton_append]
  exact List.perm_middle.trans (by rw [List.take_append_drop])
theorem ins_len {α : Type} (xs : List α) (i : Nat) (x : α) : (xs.take i ++ [x] ++ xs.drop i).length = xs.length + 1 := (ins_perm xs i x).length_eq
theorem perm_flat {f : Tr → List Str} {xs ys : List Tr} (h : xs.Perm ys) : (xs.flatMap f).length = (ys.flatMap f).length := (h.flatMap_right f).length_eq
theorem law_drawn_ok {n : Nat} {Ff Fk Fc : FF} (hn : capN n ≤ 15) (hc : CellSp Fc) (hk : KidGen n Fk) (hf : FootedSp (n + 1) Ff) : DrawnGen n (fnF 7 2 (m_law_drawn Ff Fk Fc)) := fun ns a ex => by
  obtain ⟨c, a0, h1⟩ := hc ns a ex
  obtain ⟨tk, etk, otk, wkt⟩ := pick4 (P := fun d => ∃ tk : Option (Str × Bool), d = encTk tk ∧ okTk tk = true ∧ wtk tk = true) (a := .none) (b := .tuple [.str (Str.ofString "S1"), .bool false]) (d := .tuple [.str (Str.ofString "S2"), .bool false]) (f := .tuple [.str (Str.ofString "S1"), .bool true]) c ⟨none, rfl, rfl, rfl⟩ ⟨some (_, false), rfl, by decide +kernel, rfl⟩ ⟨some (_, false), rfl, by decide +kernel, rfl⟩ ⟨some (_, true), rfl, by decide +kernel, by decide +kernel⟩
  obtain ⟨sg, esg, osg, wsg⟩ := pick2 (P := fun d => ∃ z : Str, d = .str z ∧ signB z = true ∧ decide (z ∈ sg3) = true) (a := .str (Str.ofString "a")) (b := .str (Str.ofString "b")) (c / 4) ⟨_, rfl, by decide +kernel, by decide +kernel⟩ ⟨_, rfl, by decide +kernel, by decide +kernel⟩
  obtain ⟨nm, enm, onm, w72⟩ := n3 (c / 72)
  obtain ⟨fm, efm, ofm, w432⟩ := n3 (c / 432)
  obtain ⟨m, hm, hm2⟩ : ∃ m : Nat, c / 8 % 3 = m ∧ m ≤ 2 := ⟨(c / 8 % 3).toNat, by omega, by omega⟩
  obtain ⟨⟨ks, a'⟩, f1, g1, g2, g3⟩ := forL_by (S := List Tr × Nat) (g := gN 5) (b := m_law_drawn_b1 Ff Fk Fc) (fun p => [some ⟨stD ns p.2 ex, .io⟩, some ⟨.int n, .sh⟩, some ⟨.int c, .sh⟩, some ⟨encTk tk, .sh⟩, some ⟨.list (p.1.map Tr.enc), .ow⟩, none, none])
    (fun pre p => p.1.length = pre.length + 1 ∧ (∀ k ∈ p.1, KidOk n k) ∧ 1 ≤ (p.1.flatMap Tr.signs).length) (rgD 0 m) ([.sign sg], a0) ⟨rfl, by
      intro k mk
      simp at mk
      subst mk
      exact kid_leaf rfl osg rfl rfl wsg, by simp [Tr.signs, Tr.pieces, Tr.signN]⟩ (fun pre d post ⟨ks, a1⟩ hd ⟨q1, q2, q3⟩ => by
      obtain ⟨hkk, rfl⟩ := rgD_mid hd
      dsimp only at q1 q2 q3 ⊢
      obtain ⟨t, a2, e, ot⟩ := hk ns a1 ex n (Nat.le_refl _)
      have p0 : (0 : Int) < (ks.length : Int) + 1 := by omega
      have hm0 := Int.emod_nonneg (c / 24) (show (ks.length : Int) + 1 ≠ 0 by omega)
      have hm1 := Int.emod_lt_of_pos (c / 24) p0
      obtain ⟨i, hi⟩ : ∃ i : Nat, c / 24 % ((ks.length : Int) + 1) = i := ⟨(c / 24 % ((ks.length : Int) + 1)).toNat, by omega⟩
      have oki : okI (i : Int) = true := okI_nat (by omega)
      have hz : ks.length < sizeLine := fitsl (by omega)
      refine ⟨(ks.take i ++ [t] ++ ks.drop i, a2), ?_, by rw [ins_len, q1]; simp, fun k mk => ?_, ?_⟩
      · simp [m_law_drawn_b1, resO_mod p0, hi, e, hz, oki]
      · rcases ins_mem mk with rfl | mk
        · exact ot
        · exact q2 k mk
      · have := perm_flat (f := Tr.signs) (ins_perm ks i t)
        dsimp only at this ⊢
        rw [this, List.flatMap_cons, List.length_append]
        omega)
  rw [rgD_len] at g1
  dsimp only at f1 g1 g2 g3
  have f1' : forL (gN 5) (m_law_drawn_b1 Ff Fk Fc) (rgD 0 m) [some ⟨stD ns a0 ex, .io⟩, some ⟨.int n, .sh⟩, some ⟨.int c, .sh⟩, some ⟨encTk tk, .sh⟩, some ⟨.list [.tuple [.str (Str.ofString "sign"), .str sg]], .ow⟩, none, none] = _ := f1
  have ok : okR (m : Int) = true := okR_nat (by omega)
  have okt : (Tr.knot nm tk ks).ok = true := by
    simp only [Tr.ok, Bool.and_eq_true, decide_eq_true_eq]
    exact ⟨onm, otk, by omega, by omega, okL_of fun t mt => (g2 t mt).ok⟩
  have hht : (Tr.knot nm tk ks).ht ≤ n + 1 := by
    have := htL_of (ts := ks) (n := n) fun t mt => (g2 t mt).ht
    rw [Tr.ht]; omega
  have hft : (Tr.knot nm tk ks).feet = [] := by
    rw [feet_knot, List.flatMap_eq_nil_iff]
    exact fun t mt => (g2 t mt).feet
  have hs4 : (Tr.knot nm tk ks).pieces.length + 1 ≤ 42 + 2 * n := by
    rw [pieces_knot]
    have h2 := flat_le (f := Tr.pieces) (n := capN n) ks fun t mt => (g2 t mt).sz
    have h3 : ks.length * capN n ≤ 3 * capN n := Nat.mul_le_mul_right _ (by omega)
    have h4 := capN_few hn
    omega
  have hsz : (Tr.knot nm tk ks).pieces.length ≤ 49 := by
    rw [pieces_knot]
    have h2 := flat_le (f := Tr.pieces) (n := capN n) ks fun t mt => (g2 t mt).sz
    have h3 : ks.length * capN n ≤ 3 * capN n := Nat.mul_le_mul_right _ (by omega)
    omega
  have hsg : 1 ≤ (Tr.knot nm tk ks).signs.length := by rw [signs_knot]; exact g3
  have wkn : Wn (.knot nm tk ks) := Wn.knot (by rw [w72, wkt]; rfl) fun t mt => (g2 t mt).wn
  have ee : Tr.enc (.knot nm tk ks) = .tuple [.str (Str.ofString "knot"), .str nm, encTk tk, .tuple (ks.map Tr.enc)] := by rw [Tr.enc, encL_map]
  by_cases q : c / 216 % 2 = 0
  · refine ⟨.knot nm tk ks, a', ?_, okt, rfl, by rw [hft]; simp, hht, by omega, by omega, hsg, wkn⟩
    rw [m_law_drawn_eq]
    simp [m_law_drawn, h1, etk, esg, hm, ok, f1', enm, q, ee]
  · obtain ⟨t', e', fk⟩ := hf (.knot nm tk ks) fm (c / 1296) okt hht hft (Nar.knot (by omega) fun t mt => (g2 t mt).nar) rfl ofm
    obtain ⟨_, _, _, ks', _, et'⟩ := fk.kn
    refine ⟨t', a', ?_, fk.ok, by rw [et']; rfl, by rw [fk.feet]; simp, Nat.le_trans fk.ht hht, by rw [fk.sz]; omega, by rw [fk.sz]; omega, by rw [fk.signs]; exact hsg, fk.wn w432 wkn⟩
    rw [ee, Tr.enc] at e'
    rw [m_law_drawn_eq]
    simp [m_law_drawn, h1, etk, esg, hm, ok, f1', enm, q, efm, e']
def baseK : List Str := [Str.ofString "s", Str.ofString "g", Str.ofString "x0", Str.ofString "h1", Str.ofString "keytree", Str.ofString "graftofaone"]
def moreK : List Str := [Str.ofString "p", Str.ofString "qq", Str.ofString "r2", Str.ofString "tall", Str.ofString "u"]
theorem allK_nd : (baseK ++ moreK).Nodup := by decide +kernel
theorem allK_ok : ∀ k ∈ baseK ++ moreK, keyB k = true := by decide +kernel
/-- the six trees that stand in each book -/
structure Base (ts : List (Str × Tr)) : Prop where
  st : ∀ n ∈ [Str.ofString "S", Str.ofString "S1", Str.ofString "S2"], ∃ p ∈ ts, p.1 ∈ baseK ∧ p.2.isGraft = false ∧ p.2.name = n
  gr : ∀ n ∈ [Str.ofString "S", Str.ofString "S1", Str.ofString "S2"], ∃ p ∈ ts, p.1 ∈ baseK ∧ p.2.isGraft = true ∧ p.2.name = n
/-- nothing can be put in -/
def noW : Tr → Bool
  | .hole _ => false
  | .knot _ (some _) _ => false
  | _ => true
def NoW (t : Tr) : Prop := ∀ u ∈ t.pieces, noW u = true
/-- .. and the tree is low -/
structure NoWh (m : Nat) (t : Tr) : Prop where
  w : NoW t
  h : t.ht ≤ 3
  h1 : t.ht ≤ max 1 (m - 2)
structure BookOk (h : Nat) (b : Bk) : Prop where
  top : nameB b.top = true
  len : b.trees.length ≤ 11
  pos : 6 ≤ b.trees.length
  nd : (b.trees.map (·.1)).Nodup
  keys : ∀ p ∈ b.trees, p.1 ∈ baseK ++ moreK
  trees : ∀ p ∈ b.trees, TreeOk h p.2
  base : Base b.trees
  bs : ∀ p ∈ b.trees, p.1 ∈ baseK → NoWh h p.2
def BookGen (n : Nat) (F : FF) : Prop := ∀ (ns : List Int) (a : Nat) (ex : Option Int) (m : Nat), m ≤ 5 → ∃ (b : Bk) (a' : Nat), F [some ⟨stD ns a ex, .io⟩, some ⟨.int m, .sh⟩, some ⟨.int n, .sh⟩] = .ok (.sh b.enc) [some ⟨stD ns a' ex, .io⟩, none, none] ∧ BookOk (n + 1) b ∧ b.trees.length = 6 + m
theorem base_start (h : Nat) {n s : Str} (hn : nameB n = true) (hs : signB s = true) (h3 : n ∈ nm3) (s3 : s ∈ sg3) : TreeOk (h + 1) (.knot n none [.sign s]) :=
  ⟨by simp [Tr.ok, Tr.okL, okTk, hn, hs], rfl, by simp [Tr.feet, Tr.pieces, Tr.piecesL, Tr.footN, List.filterMap_cons], by simp [Tr.ht, Tr.htL], by simp [Tr.pieces, Tr.piecesL], by simp [Tr.pieces, Tr.piecesL] <;> omega, by simp [Tr.signs, Tr.pieces, Tr.piecesL, Tr.signN, List.filterMap_cons], by simp [Wn, Tr.pieces, Tr.piecesL, WnB, wtk, h3, s3]⟩
theorem base_graft (h : Nat) {n s m : Str} (hn : nameB n = true) (hs : signB s = true) (hm : nameB m = true) (h3 : n ∈ nm3) (s3 : s ∈ sg3) (m3 : m ∈ nm3) : TreeOk (h + 1) (.knot n none [.sign s, .foot m]) ∧ TreeOk (h + 1) (.knot n none [.foot m, .sign s]) :=
  ⟨⟨by simp [Tr.ok, Tr.okL, okTk, hn, hs, hm], rfl, by simp [Tr.feet, Tr.pieces, Tr.piecesL, Tr.footN, List.filterMap_cons], by simp [Tr.ht, Tr.htL], by simp [Tr.pieces, Tr.piecesL], by simp [Tr.pieces, Tr.piecesL] <;> omega, by simp [Tr.signs, Tr.pieces, Tr.piecesL, Tr.signN, List.filterMap_cons], by simp [Wn, Tr.pieces, Tr.piecesL, WnB, wtk, h3, s3, m3]⟩,
   ⟨by simp [Tr.ok, Tr.okL, okTk, hn, hs, hm], rfl, by simp [Tr.feet, Tr.pieces, Tr.piecesL, Tr.footN, List.filterMap_cons], by simp [Tr.ht, Tr.htL], by simp [Tr.pieces, Tr.piecesL], by simp [Tr.pieces, Tr.piecesL] <;> omega, by simp [Tr.signs, Tr.pieces, Tr.piecesL, Tr.signN, List.filterMap_cons], by simp [Wn, Tr.pieces, Tr.piecesL, WnB, wtk, h3, s3, m3]⟩⟩
theorem encKT_eq (k n : Str) (ks : List Tr) : encKT (k, .knot n none ks) = .tuple [.str k, .tuple [.str (Str.ofString "knot"), .str n, .none, .tuple (ks.map Tr.enc)]] := by
  rw [encKT, Tr.enc, encL_map]; rfl
theorem law_book_ok {n : Nat} {Fd Fc : FF} (hc : CellSp Fc) (hd : DrawnGen n Fd) : BookGen n (fnF 10 3 (m_law_book Fd Fc)) := fun ns a ex m hm => by
  obtain ⟨c, a0, h1⟩ := hc ns a ex
  -- the six
  have gk : ∀ (x : Int) (nm : Str), nameB nm = true → nm ∈ nm3 → ∃ ks : List Tr, pick [PyData.tuple [.tuple [.str (Str.ofString "sign"), .str (Str.ofString "b")], .tuple [.str (Str.ofString "foot"), .str nm]], .tuple [.tuple [.str (Str.ofString "foot"), .str nm], .tuple [.str (Str.ofString "sign"), .str (Str.ofString "a")]]] (x % 2) = .tuple (ks.map Tr.enc) ∧ TreeOk (n + 1) (.knot nm none ks) ∧ ∃ s, Tr.knot nm none ks = .knot nm none [.sign s, .foot nm] ∨ Tr.knot nm none ks = .knot nm none [.foot nm, .sign s] := fun x nm onm n3' =>
    pick2 (P := fun d => ∃ ks : List Tr, d = .tuple (ks.map Tr.enc) ∧ TreeOk (n + 1) (.knot nm none ks) ∧ ∃ s, Tr.knot nm none ks = .knot nm none [.sign s, .foot nm] ∨ Tr.knot nm none ks = .knot nm none [.foot nm, .sign s]) x
      ⟨[.sign (Str.ofString "b"), .foot nm], rfl, (base_graft n onm (by decide +kernel) onm n3' (by decide +kernel) n3').1, _, .inl rfl⟩ ⟨[.foot nm, .sign (Str.ofString "a")], rfl, (base_graft n onm (by decide +kernel) onm n3' (by decide +kernel) n3').2, _, .inr rfl⟩
  obtain ⟨k0, e0, o0, b0⟩ := gk c (Str.ofString "S") (by decide +kernel) (by decide +kernel)
  obtain ⟨k1, e1, o1, b1⟩ := gk (c / 2) (Str.ofString "S1") (by decide +kernel) (by decide +kernel)
  obtain ⟨k2, e2, o2, b2⟩ := gk (c / 3) (Str.ofString "S2") (by decide +kernel) (by decide +kernel)
  let six : List (Str × Tr) := [(Str.ofString "s", .knot (Str.ofString "S") none [.sign (Str.ofString "a")]), (Str.ofString "g", .knot (Str.ofString "S") none k0), (Str.ofString "x0", .knot (Str.ofString "S1") none [.sign (Str.ofString "b")]), (Str.ofString "h1", .knot (Str.ofString "S1") none k1),
    (Str.ofString "keytree", .knot (Str.ofString "S2") none [.sign (Str.ofString "a")]), (Str.ofString "graftofaone", .knot (Str.ofString "S2") none k2)]
  have hsix : six = [(Str.ofString "s", .knot (Str.ofString "S") none [.sign (Str.ofString "a")]), (Str.ofString "g", .knot (Str.ofString "S") none k0), (Str.ofString "x0", .knot (Str.ofString "S1") none [.sign (Str.ofString "b")]), (Str.ofString "h1", .knot (Str.ofString "S1") none k1),
    (Str.ofString "keytree", .knot (Str.ofString "S2") none [.sign (Str.ofString "a")]), (Str.ofString "graftofaone", .knot (Str.ofString "S2") none k2)] := rfl
  have z : ∀ k : Nat, k ≤ 5 → k < sizeLine := fun k h => fitsl (by omega)
  have f1 : forL (gN 5) (m_law_book_b2 Fd Fc) (rgD 0 3) [some ⟨stD ns a0 ex, .io⟩, some ⟨.int m, .sh⟩, some ⟨.int n, .sh⟩, some ⟨.int c, .sh⟩, some ⟨.list [], .ow⟩, none, none, none, none, none] = .nx [some ⟨stD ns a0 ex, .io⟩, some ⟨.int m, .sh⟩, some ⟨.int n, .sh⟩, some ⟨.int c, .sh⟩, some ⟨.list (six.map encKT), .ow⟩, none, none, none, none, none] := by
    rw [show rgD 0 3 = [.int 0, .int 1, .int 2] from rfl]
    rw [hsix]
    simp only [List.map_cons, List.map_nil, encKT_eq]
    simp [forL_cons, m_law_book_b2, z, e0, e1, e2, Tr.enc]
  have six_len : six.length = 6 := rfl
  have six_keys : six.map (·.1) = baseK := rfl
  have six_ok : ∀ p ∈ six, TreeOk (n + 1) p.2 := by
    intro p mp
    rw [hsix] at mp
    simp only [List.mem_cons, List.not_mem_nil, or_false] at mp
    rcases mp with rfl | rfl | rfl | rfl | rfl | rfl
    · exact base_start n (by decide +kernel) (by decide +kernel) (by decide +kernel) (by decide +kernel)
    · exact o0
    · exact base_start n (by decide +kernel) (by decide +kernel) (by decide +kernel) (by decide +kernel)
    · exact o1
    · exact base_start n (by decide +kernel) (by decide +kernel) (by decide +kernel) (by decide +kernel)
    · exact o2
  have bst : ∀ (nm s : Str), (Tr.knot nm none [.sign s]).isGraft = false ∧ (Tr.knot nm none [.sign s]).name = nm := fun nm s => by simp [Tr.isGraft, Tr.name, Tr.word, Tr.feet, Tr.pieces, Tr.piecesL, Tr.footN, List.filterMap_cons]
  have bgr : ∀ {nm : Str} {t : Tr}, (∃ s, t = .knot nm none [.sign s, .foot nm] ∨ t = .knot nm none [.foot nm, .sign s]) → t.isGraft = true ∧ t.name = nm := by
    rintro nm t ⟨s, rfl | rfl⟩ <;> simp [Tr.isGraft, Tr.name, Tr.word, Tr.feet, Tr.pieces, Tr.piecesL, Tr.footN, List.filterMap_cons]
  have six_base : Base six := by
    refine ⟨fun nm mn => ?_, fun nm mn => ?_⟩
    · simp only [List.mem_cons, List.not_mem_nil, or_false] at mn
      rcases mn with rfl | rfl | rfl
      · exact ⟨_, by rw [hsix]; exact .head _, by decide +kernel, bst _ _⟩
      · exact ⟨_, by rw [hsix]; exact .tail _ (.tail _ (.head _)), by decide +kernel, bst _ _⟩
      · exact ⟨_, by rw [hsix]; exact .tail _ (.tail _ (.tail _ (.tail _ (.head _)))), by decide +kernel, bst _ _⟩
    · simp only [List.mem_cons, List.not_mem_nil, or_false] at mn
      rcases mn with rfl | rfl | rfl
      · exact ⟨_, by rw [hsix]; exact .tail _ (.head _), by dsimp only; decide +kernel, bgr b0⟩
      · exact ⟨_, by rw [hsix]; exact .tail _ (.tail _ (.tail _ (.head _))), by dsimp only; decide +kernel, bgr b1⟩
      · exact ⟨_, by rw [hsix]; exact .tail _ (.tail _ (.tail _ (.tail _ (.tail _ (.head _))))), by dsimp only; decide +kernel, bgr b2⟩
  have six_bs : ∀ p ∈ six, NoWh (n + 1) p.2 := by
    have gs : ∀ nm s : Str, NoWh (n + 1) (.knot nm none [.sign s]) := fun nm s => ⟨by simp [NoW, Tr.pieces, Tr.piecesL, noW], by simp [Tr.ht, Tr.htL], by simp [Tr.ht, Tr.htL]; omega⟩
    have gb : ∀ {nm : Str} {t : Tr}, (∃ s, t = .knot nm none [.sign s, .foot nm] ∨ t = .knot nm none [.foot nm, .sign s]) → NoWh (n + 1) t := by
      rintro nm t ⟨s, rfl | rfl⟩ <;> exact ⟨by simp [NoW, Tr.pieces, Tr.piecesL, noW], by simp [Tr.ht, Tr.htL], by simp [Tr.ht, Tr.htL]; omega⟩
    intro p mp
    rw [hsix] at mp
    simp only [List.mem_cons, List.not_mem_nil, or_false] at mp
    rcases mp with rfl | rfl | rfl | rfl | rfl | rfl
    · exact gs _ _
    · exact gb b0
    · exact gs _ _
    · exact gb b1
    · exact gs _ _
    · exact gb b2
  clear_value six
  obtain ⟨⟨ts, a'⟩, f2, g1, g2, g3, g4, g5⟩ := forL_by (S := List (Str × Tr) × Nat) (g := gN 5) (b := m_law_book_b1 Fd Fc) (fun p => [some ⟨stD ns p.2 ex, .io⟩, some ⟨.int m, .sh⟩, some ⟨.int n, .sh⟩, some ⟨.int c, .sh⟩, some ⟨.list (p.1.map encKT), .ow⟩, none, none, none, none, none])
    (fun pre p => p.1.length = 6 + pre.length ∧ (p.1.map (·.1)).Perm ((moreK.take pre.length).reverse ++ baseK) ∧ (∀ q ∈ p.1, TreeOk (n + 1) q.2) ∧ (∀ q ∈ six, q ∈ p.1) ∧ ∀ q ∈ p.1, q.1 ∈ baseK → NoWh (n + 1) q.2) (rgD 0 m) (six, a0) ⟨by simpa using six_len, by simp [six_keys], six_ok, fun _ h => h, fun q mq _ => six_bs q mq⟩ (fun pre d post ⟨ts, a1⟩ hd' ⟨q1, q2, q3, q4, q5⟩ => by
      obtain ⟨hkk, rfl⟩ := rgD_mid hd'
      generalize hkp : pre.length = k at hkk q1 q2
      rw [show (0 : Int) + (k : Int) = k by omega]
      dsimp only at q1 q2 q3 q4 q5 ⊢
      obtain ⟨t, a2, e, ot⟩ := hd ns a1 ex
      have hk5 : k < moreK.length := by have : moreK.length = 5 := rfl; omega
      have ek : L2.atI [PyData.str (Str.ofString "p"), .str (Str.ofString "qq"), .str (Str.ofString "r2"), .str (Str.ofString "tall"), .str (Str.ofString "u")] (k : Int) = some (.str moreK[k]) := by
        have := atI_nat (xs := moreK.map PyData.str) (j := k) (v := .str (moreK[k])) (by simp [hk5])
        exact this
      have p1 : (0 : Int) < (k : Int) + 7 := by omega
      have p2 : (k : Int) + 7 < 1073741824 := by omega
      have p0 : (0 : Int) < (ts.length : Int) + 1 := by omega
      have hm0 := Int.emod_nonneg (c / ((k : Int) + 7)) (show (ts.length : Int) + 1 ≠ 0 by omega)
      have hm1 := Int.emod_lt_of_pos (c / ((k : Int) + 7)) p0
      obtain ⟨i, hi⟩ : ∃ i : Nat, c / ((k : Int) + 7) % ((ts.length : Int) + 1) = i := ⟨(c / ((k : Int) + 7) % ((ts.length : Int) + 1)).toNat, by omega⟩
      have oki : okI (i : Int) = true := okI_nat (by omega)
      have hz : ts.length < sizeLine := fitsl (by omega)
      refine ⟨(ts.take i ++ [(moreK[k], t)] ++ ts.drop i, a2), ?_, by rw [ins_len, q1, List.length_append, List.length_singleton, hkp]; omega, ?_, fun q mq => ?_, fun q mq => ?_, fun q mq bq => ?_⟩
      · simp [m_law_book_b1, ek, resO_div p1 p2, resO_mod p0, hi, e, hz, oki, encKT]
      · have h3 := (ins_perm ts i (moreK[k], t)).map (·.1)
        refine h3.trans ?_
        rw [List.map_cons, List.length_append, List.length_singleton, hkp]
        have h4 : moreK.take (k + 1) = moreK.take k ++ [moreK[k]] := by rw [List.take_succ, List.getElem?_eq_getElem hk5]; rfl
        rw [h4, List.reverse_append]
        exact q2.cons _
      · rcases ins_mem mq with rfl | mq
        · exact ot
        · exact q3 q mq
      · have := (ins_perm ts i (moreK[k], t)).symm.mem_iff (a := q)
        exact this.mp (by simp [q4 q mq])
      · rcases ins_mem mq with rfl | mq
        · exact absurd (List.getElem_mem hk5) fun h => by
            have := (List.nodup_append.mp allK_nd).2.2 _ bq _ h
            exact this rfl
        · exact q5 q mq bq)
  rw [rgD_len] at g1 g2
  dsimp only at f2 g1 g2 g3 g4 g5
  obtain ⟨top, etop, otop⟩ := pick3 (P := fun d => ∃ z : Str, d = .str z ∧ nameB z = true) (a := .str (Str.ofString "S")) (b := .str (Str.ofString "S")) (d := .str (Str.ofString "S1")) (c / 3) ⟨_, rfl, by decide +kernel⟩ ⟨_, rfl, by decide +kernel⟩ ⟨_, rfl, by decide +kernel⟩
  have hsub : ∀ k ∈ ts.map (·.1), k ∈ baseK ++ moreK := fun k mk => by
    have := g2.mem_iff.mp mk
    simp only [List.mem_append, List.mem_reverse] at this
    rcases this with h | h
    · exact List.mem_append_right _ (List.mem_of_mem_take h)
    · exact List.mem_append_left _ h
  refine ⟨⟨top, ts⟩, a', ?_, ⟨otop, by dsimp only; omega, by dsimp only; omega, ?_, fun p mp => hsub p.1 (List.mem_map_of_mem mp), g3, ?_, g5⟩, g1⟩
  · rw [m_law_book_eq]
    have okm : okR (m : Int) = true := okR_nat (by omega)
    have ok3 : okR 3 = true := rfl
    have t3 : (3 : Int).toNat = 3 := rfl
    simp [m_law_book, h1, ok3, f1, okm, f2, etop, Bk.enc]
  · refine (g2.nodup_iff).mpr ?_
    have h5 : ((moreK.take m).reverse ++ baseK).Perm (baseK ++ moreK.take m) := List.perm_append_comm.trans ((List.Perm.refl _).append (List.reverse_perm _))
    refine (h5.nodup_iff).mpr ?_
    exact List.Nodup.sublist (List.Sublist.append (List.Sublist.refl _) (List.take_sublist _ _)) allK_nd
  · refine ⟨fun nm mn => ?_, fun nm mn => ?_⟩
    · obtain ⟨p, mp, r⟩ := six_base.st nm mn
      exact ⟨p, g4 p mp, r⟩
    · obtain ⟨p, mp, r⟩ := six_base.gr nm mn
      exact ⟨p, g4 p mp, r⟩
end GM
namespace GM
open PySem L2 GS
/-- piece_at(tree, place); slots 0:tree 1:place 2:found 3:number 4:kids -/
def m_piece_at_2_b1 (F_NoPlace F_kids_of : FF) : SF := (sKill [3, 4] (sSeq (sSet 4 (eCall 1 none F_kids_of (aCons (eMv 2) aNil))) (sSeq (sIf (eNot (eB (eChain (ltI fun i j => decide (i ≤ j)) (ltI fun i j => decide (i < j)) (eC (.int 0)) (eVb 3) (eCB (un1 lenD) (aCons (eVb 4) aNil))))) (sRaise F_NoPlace "NoPlace" ["place"] (aCons (eMv 1) aNil)) sNil) (sSet 2 (eBin ixA (eVb 4) (eVb 3))))))
def m_piece_at_2 (F_NoPlace F_kids_of : FF) : SF := (sSeq (sSet 2 (eMv 0)) (sSeq (sFor (iSq (eMv 1)) (gN 3) (m_piece_at_2_b1 F_NoPlace F_kids_of)) (sEnd (sRet (eRv 2)))))
theorem m_piece_at_2_eq (F_NoPlace F_kids_of : FF) (ρ : Rho) : fnF 5 2 (m_piece_at_2 F_NoPlace F_kids_of) ρ = finR 2 (m_piece_at_2 F_NoPlace F_kids_of (ρ ++ [none, none, none])) := fnF_eq 5 2 _
/-- signs_of(tree); slots 0:tree 1:found 2:kid -/
def m_signs_of_b1 (F_kids_of F_signs_of : FF) : SF := (sKill [2] (sSet 1 (eBin addD (eVb 1) (eCall 1 none F_signs_of (aCons (eMv 2) aNil)))))
def m_signs_of (F_kids_of F_signs_of : FF) : SF := (sSeq (sIf (eB (eBin (eqB false) (eBin ixA (eVb 0) (eC (.int 0))) (eC (.str (Str.ofString "sign"))))) (sEnd (sRet (eTup (aCons (eBin ixA (eVb 0) (eC (.int 1))) aNil)))) sNil) (sSeq (sSet 1 (eTup aNil)) (sSeq (sFor (iSq (eCall 1 none F_kids_of (aCons (eMv 0) aNil))) (gN 2) (m_signs_of_b1 F_kids_of F_signs_of)) (sEnd (sRet (eRv 1))))))
theorem m_signs_of_eq (F_kids_of F_signs_of : FF) (ρ : Rho) : fnF 3 1 (m_signs_of F_kids_of F_signs_of) ρ = finR 1 (m_signs_of F_kids_of F_signs_of (ρ ++ [none, none])) := fnF_eq 3 1 _
/-- amiss_in(tree); slots 0:tree 1:found 2:place -/
def m_amiss_in_ce1 (F_signs_of F_feet_of F_places : FF) : EF := (eCB (un1 lenD) (aCons (eVb 2) aNil))
def m_amiss_in (F_signs_of F_feet_of F_places : FF) : SF := (sSeq (sSet 1 (eCall 1 none F_places (aCons (eMv 0) aNil))) (sSeq (sIf (eB (eBin (eqB true) (eBin ixA (eVb 0) (eC (.int 0))) (eC (.str (Str.ofString "knot"))))) (sEnd (sRet (eC (.str (Str.ofString "knot"))))) sNil) (sSeq (sIf (eB (eBin (ltI fun i j => decide (j < i)) (eCB (un1 lenD) (aCons (eCall 1 none F_feet_of (aCons (eMv 0) aNil)) aNil)) (eC (.int 1)))) (sEnd (sRet (eC (.str (Str.ofString "feet"))))) sNil) (sSeq (sIf (eB (eBin (eqB false) (eCB (un1 lenD) (aCons (eCall 1 none F_signs_of (aCons (eMv 0) aNil)) aNil)) (eC (.int 0)))) (sEnd (sRet (eC (.str (Str.ofString "sign"))))) sNil) (sSeq (sIf (eOr (eB (eBin (ltI fun i j => decide (j < i)) (eCB (un1 lenD) (aCons (eVb 1) aNil)) (eC (.int 60)))) (eB (eBin (ltI fun i j => decide (j ≤ i)) (eCB (un1 maxLD) (aCons (eLc [2] (iSq (eMv 1)) (gN 2) (eNox eYes) (eNox (m_amiss_in_ce1 F_signs_of F_feet_of F_places))) aNil)) (eC (.int 12))))) (sEnd (sRet (eC (.str (Str.ofString "great"))))) sNil) (sEnd (sRet (eC .none))))))))
theorem m_amiss_in_eq (F_signs_of F_feet_of F_places : FF) (ρ : Rho) : fnF 3 1 (m_amiss_in F_signs_of F_feet_of F_places) ρ = finR 1 (m_amiss_in F_signs_of F_feet_of F_places (ρ ++ [none, none])) := fnF_eq 3 1 _
/-- is_entry(thing); slots 0:thing -/
def m_is_entry (F_amiss_in F_is_tree F_is_key : FF) : SF := (sSeq (sIf (eOr (eNot (eB (eIsi isTup (eVb 0)))) (eOr (eB (eBin (eqB true) (eCB (un1 lenD) (aCons (eVb 0) aNil)) (eC (.int 2)))) (eOr (eNot (eB (eIsi isStr (eBin ixA (eVb 0) (eC (.int 0)))))) (eNot (eB (eCall 1 none F_is_key (aCons (eBin ixA (eVb 0) (eC (.int 0))) aNil))))))) (sRet (eC (.bool false))) sNil) (sEnd (sRet (eAnd (eB (eCall 1 none F_is_tree (aCons (eBin ixA (eVb 0) (eC (.int 1))) aNil))) (eBin (isD false) (eCall 1 none F_amiss_in (aCons (eBin ixA (eVb 0) (eC (.int 1))) aNil)) (eC .none))))))
theorem m_is_entry_eq (F_amiss_in F_is_tree F_is_key : FF) (ρ : Rho) : fnF 1 1 (m_is_entry F_amiss_in F_is_tree F_is_key) ρ = finR 1 (m_is_entry F_amiss_in F_is_tree F_is_key (ρ ++ [])) := fnF_eq 1 1 _
/-- is_book(thing); slots 0:thing 1:keys 2:one -/
def m_is_book_b1 (F_is_entry F_is_name : FF) : SF := (sKill [2] (sSeq (sIf (eNot (eB (eCall 1 none F_is_entry (aCons (eMv 2) aNil)))) (sEnd (sRet (eC (.bool false)))) sNil) (sApp 1 (eBin ixA (eVb 2) (eC (.int 0))))))
def m_is_book (F_is_entry F_is_name : FF) : SF := (sSeq (sIf (eOr (eNot (eB (eIsi isTup (eVb 0)))) (eOr (eB (eBin (eqB true) (eCB (un1 lenD) (aCons (eVb 0) aNil)) (eC (.int 2)))) (eOr (eNot (eB (eIsi isStr (eBin ixA (eVb 0) (eC (.int 0)))))) (eNot (eB (eCall 1 none F_is_name (aCons (eBin ixA (eVb 0) (eC (.int 0))) aNil))))))) (sEnd (sRet (eC (.bool false)))) sNil) (sSeq (sIf (eOr (eNot (eB (eIsi isTup (eBin ixA (eVb 0) (eC (.int 1)))))) (eNot (eB (eChain (ltI fun i j => decide (i ≤ j)) (ltI fun i j => decide (i ≤ j)) (eC (.int 1)) (eCB (un1 lenD) (aCons (eBin ixA (eVb 0) (eC (.int 1))) aNil)) (eC (.int 400)))))) (sEnd (sRet (eC (.bool false)))) sNil) (sSeq (sSet 1 (eLst aNil)) (sSeq (sFor (iSq (eBin ixA (eVb 0) (eC (.int 1)))) (gN 2) (m_is_book_b1 F_is_entry F_is_name)) (sEnd (sRet (eBin (eqB false) (eLenSet (eVb 1)) (eCB (un1 lenD) (aCons (eVb 1) aNil)))))))))
theorem m_is_book_eq (F_is_entry F_is_name : FF) (ρ : Rho) : fnF 3 1 (m_is_book F_is_entry F_is_name) ρ = finR 1 (m_is_book F_is_entry F_is_name (ρ ++ [none, none])) := fnF_eq 3 1 _
end GM
namespace GM
open PySem L2 GS
theorem map_int_mid {p : List Nat} {pre post : List D} {d : D} (hd : (p.map fun n : Nat => PyData.int (n : Int)) = pre ++ d :: post) : ∃ k, p[pre.length]? = some k ∧ d = .int (k : Int) := by
  have h2 : (p.map fun n : Nat => PyData.int (n : Int))[pre.length]? = some d := by rw [hd, List.getElem?_append_right (Nat.le_refl _), Nat.sub_self]; rfl
  rw [List.getElem?_map] at h2
  obtain ⟨k, h3, h4⟩ := Option.map_eq_some_iff.mp h2
  exact ⟨k, h3, h4.symm⟩
theorem piece_at_2_ok {Fx Fk : FF} (hk : KidsSp Fk) : PieceSp (fnF 5 2 (m_piece_at_2 Fx Fk)) := fun t p u hu => by
  rw [m_piece_at_2_eq]
  obtain ⟨v, hf, hv⟩ := forL_by (S := Tr) (g := gN 3) (b := m_piece_at_2_b1 Fx Fk) (fun v => [some ⟨t.enc, .sh⟩, some ⟨encP p, .sh⟩, some ⟨v.enc, .sh⟩, none, none])
    (fun pre v => t.at (p.take pre.length) = some v) (p.map fun n : Nat => PyData.int (n : Int)) t (by simp [Tr.at]) (fun pre d post v hd hv => by
      obtain ⟨k, hk1, rfl⟩ := map_int_mid hd
      have htk : p.take (pre.length + 1) = p.take pre.length ++ [k] := by rw [List.take_succ, hk1]; rfl
      obtain ⟨w, hw⟩ := at_pre (t := t) (p := p.take (pre.length + 1)) (q := p.drop (pre.length + 1)) (u := u) (by rw [List.take_append_drop]; exact hu)
      have hw2 := hw
      rw [htk, at_snoc, hv] at hw2
      simp only [Option.bind_some] at hw2
      have hlt : k < v.kids.length := (List.getElem?_eq_some_iff.mp hw2).1
      have ea : L2.atI (v.kids.map Tr.enc) (k : Int) = some w.enc := by
        rw [atI_nat (xs := v.kids.map Tr.enc) (j := k) (v := w.enc) (by rw [List.getElem?_map, hw2]; rfl)]
      refine ⟨w, ?_, by rw [List.length_append, List.length_singleton]; exact hw⟩
      simp [m_piece_at_2_b1, hk v, hlt, ea])
  rw [List.length_map, List.take_length, hu] at hv
  cases hv
  have hf' : forL (gN 3) (m_piece_at_2_b1 Fx Fk) (p.map fun n : Nat => PyData.int (n : Int)) [some ⟨t.enc, .sh⟩, some ⟨encP p, .sh⟩, some ⟨t.enc, .sh⟩, none, none] = .nx [some ⟨t.enc, .sh⟩, some ⟨encP p, .sh⟩, some ⟨u.enc, .sh⟩, none, none] := hf
  simp only [encP] at hf' ⊢
  simp [m_piece_at_2, hf']
def SignsSp (n : Nat) (F : FF) : Prop := ∀ t : Tr, t.ht ≤ n → t.pieces.length ≤ 100000 → F [some ⟨t.enc, .sh⟩] = .ok (.sh (.tuple (t.signs.map .str))) [none]
theorem signs_le (t : Tr) : t.signs.length ≤ t.pieces.length := by unfold Tr.signs; exact List.length_filterMap_le _ _
theorem signs_kids (t : Tr) (h : t.signN = none) : t.signs = t.kids.flatMap Tr.signs := by
  cases t with
  | knot n tk ks => exact signs_knot n tk ks
  | sign s => cases h
  | void => rfl
  | hole n => rfl
  | foot n => rfl
theorem signs_of_ok {n : Nat} {Fk Fs : FF} (hk : KidsSp Fk) (hs : ∀ m, m + 1 = n → SignsSp m Fs) : SignsSp n (fnF 3 1 (m_signs_of Fk Fs)) := fun t hh hz => by
  rw [m_signs_of_eq]
  have key : t.signN = none → forL (gN 2) (m_signs_of_b1 Fk Fs) (t.kids.map Tr.enc) [some ⟨t.enc, .sh⟩, some ⟨.tuple [], .sh⟩, none] = .nx [some ⟨t.enc, .sh⟩, some ⟨.tuple (t.signs.map .str), .sh⟩, none] := fun h => by
    obtain ⟨acc, hf, ha⟩ := forL_by (S := List Str) (g := gN 2) (b := m_signs_of_b1 Fk Fs) (fun acc => [some ⟨t.enc, .sh⟩, some ⟨.tuple (acc.map .str), .sh⟩, none])
      (fun pre acc => acc = (t.kids.take pre.length).flatMap Tr.signs) (t.kids.map Tr.enc) [] (by simp) (fun pre d post acc hd ha => by
        obtain ⟨k, hk1, rfl⟩ := map_mid hd
        have mk : k ∈ t.kids := List.mem_of_getElem? hk1
        have hkh := ht_kids mk
        obtain ⟨n', rfl⟩ : ∃ n', n = n' + 1 := ⟨n - 1, by omega⟩
        have e := hs n' rfl k (by omega) (Nat.le_trans (pieces_kid_le mk) hz)
        have htk : t.kids.take (pre.length + 1) = t.kids.take pre.length ++ [k] := by rw [List.take_succ, hk1]; rfl
        have hac : ((t.kids.take (pre.length + 1)).flatMap Tr.signs).length ≤ t.signs.length := by
          rw [signs_kids t h]
          have : t.kids.flatMap Tr.signs = (t.kids.take (pre.length + 1)).flatMap Tr.signs ++ (t.kids.drop (pre.length + 1)).flatMap Tr.signs := by rw [← List.flatMap_append, List.take_append_drop]
          rw [this, List.length_append]; omega
        have hsl := signs_le t
        rw [htk, List.flatMap_append, List.length_append] at hac
        simp only [List.flatMap_cons, List.flatMap_nil, List.append_nil] at hac
        have z : acc.length + k.signs.length ≤ sizeLine := fits (by rw [ha]; omega)
        refine ⟨acc ++ k.signs, ?_, by rw [List.length_append, List.length_singleton, htk, List.flatMap_append, ha]; simp⟩
        simp [m_signs_of_b1, e, z])
    rw [List.length_map, List.take_length, ← signs_kids t h] at ha
    subst ha
    exact hf
  cases t with
  | sign s => simp [m_signs_of, Tr.enc, Tr.signs, Tr.pieces, Tr.signN]
  | knot nm tk ks =>
    have e := hk (.knot nm tk ks)
    have k1 := key rfl
    simp only [Tr.enc] at e k1 ⊢
    simp [m_signs_of, e, k1]
  | void =>
    have e := hk .void
    have k1 := key rfl
    simp only [Tr.enc] at e k1 ⊢
    simp [m_signs_of, e, k1]
  | hole nm =>
    have e := hk (.hole nm)
    have k1 := key rfl
    simp only [Tr.enc] at e k1 ⊢
    simp [m_signs_of, e, k1]
  | foot nm =>
    have e := hk (.foot nm)
    have k1 := key rfl
    simp only [Tr.enc] at e k1 ⊢
    simp [m_signs_of, e, k1]
def Tr.deep (t : Tr) : Bool := t.places.any fun p => decide (12 ≤ p.length)
def am (t : Tr) : Option Str := if t.isKnot = false then some (Str.ofString "knot") else if 1 < t.feet.length then some (Str.ofString "feet") else if t.signs = [] then some (Str.ofString "sign")
  else if 60 < t.places.length ∨ t.deep = true then some (Str.ofString "great") else none
def optS : Option Str → D
  | none => .none
  | some s => .str s
def AmissSp (n : Nat) (F : FF) : Prop := ∀ t : Tr, t.ht ≤ n → t.pieces.length ≤ 100000 → F [some ⟨t.enc, .sh⟩] = .ok (.sh (optS (am t))) [none]
theorem max_deep (t : Tr) : decide ((12 : Int) ≤ maxI (t.places.map fun p => (p.length : Int))) = t.deep := by
  have hne : t.places.map (fun p => (p.length : Int)) ≠ [] := by rw [places_kids]; simp
  unfold Tr.deep
  rw [Bool.eq_iff_iff, decide_eq_true_eq, List.any_eq_true]
  constructor
  · intro h
    obtain ⟨p, mp, e⟩ := List.mem_map.mp (maxI_mem hne)
    exact ⟨p, mp, by rw [decide_eq_true_eq]; omega⟩
  · rintro ⟨p, mp, h⟩
    have := maxI_le (List.mem_map.mpr ⟨p, mp, rfl⟩ : (p.length : Int) ∈ t.places.map fun p => (p.length : Int))
    rw [decide_eq_true_eq] at h
    omega
theorem amiss_in_ok {n : Nat} {Fs Ff Fp : FF} (hs : SignsSp n Fs) (hf : FeetSp n Ff) (hp : PlacesSp n Fp) : AmissSp n (fnF 3 1 (m_amiss_in Fs Ff Fp)) := fun t hh hz => by
  rw [m_amiss_in_eq]
  have e1 := hs t hh hz
  have e2 := hf t hh hz
  have e3 := hp t hh hz
  have pl := places_len t
  have hne : t.places.map (fun p => (p.length : Int)) ≠ [] := by rw [places_kids]; simp
  have h := lcL_all (vs := [2]) (g := gN 2) (fe := eNox (m_amiss_in_ce1 Fs Ff Fp)) [some ⟨t.enc, .sh⟩, some ⟨.list (t.places.map encP), .sh⟩, none] encP (fun p => [some ⟨t.enc, .sh⟩, some ⟨.list (t.places.map encP), .sh⟩, some ⟨encP p, .sh⟩]) (fun p => .int (p.length : Int)) t.places [] (fits (by simp; omega)) (fun p _ => by simp [m_amiss_in_ce1, encP])
  rw [List.nil_append, show t.places.map (fun p : List Nat => PyData.int (p.length : Int)) = (t.places.map fun p => (p.length : Int)).map .int by rw [List.map_map]; rfl] at h
  have hm := maxLD_l hne
  have hd := max_deep t
  generalize t.places.map (fun p => (p.length : Int)) = ls at h hm hd
  unfold am
  have hkn : ∃ w r, t.enc = .tuple (.str w :: r) ∧ (w = Str.ofString "knot" ↔ t.isKnot = true) := by
    cases t <;> refine ⟨_, _, rfl, ?_⟩ <;> simp [Tr.isKnot] <;> decide +kernel
  obtain ⟨w, r, he, hw⟩ := hkn
  rw [he] at e1 e2 e3 h ⊢
  by_cases q1 : t.isKnot = true
  · have hw1 := hw.mpr q1
    subst hw1
    rw [if_neg (by rw [q1]; simp)]
    by_cases q2 : 1 < t.feet.length
    · rw [if_pos q2]
      have q2' : (1 : Int) < t.feet.length := by omega
      simp [m_amiss_in, e3, e2, q2, q2', optS]
    · rw [if_neg q2]
      have q2' : ¬ (1 : Int) < t.feet.length := by omega
      by_cases q3 : t.signs = []
      · rw [if_pos q3]
        simp [m_amiss_in, e3, e2, q2, q2', e1, q3, optS]
      · rw [if_neg q3]
        by_cases q4 : 60 < t.places.length
        · rw [if_pos (.inl q4)]
          have q4' : (60 : Int) < t.places.length := by omega
          simp [m_amiss_in, e3, e2, q2, q2', e1, q3, q4, q4', optS]
        · have q4' : ¬ (60 : Int) < t.places.length := by omega
          cases q5 : t.deep with
          | true =>
            rw [q5, decide_eq_true_eq] at hd
            rw [if_pos (.inr rfl)]
            simp [m_amiss_in, e3, e2, q2, q2', e1, q3, q4, q4', h, hm, hd, optS]
          | false =>
            rw [q5, decide_eq_false_iff_not] at hd
            rw [if_neg (by simp [q4])]
            simp [m_amiss_in, e3, e2, q2, q2', e1, q3, q4, q4', h, hm, hd, optS]
  · have hw1 : ¬ w = Str.ofString "knot" := fun e => q1 (hw.mp e)
    rw [if_pos (by simpa using q1)]
    simp [m_amiss_in, e3, hw1, optS]
structure PairOk (n : Nat) (p : Str × Tr) : Prop where
  ok : p.2.ok = true
  ht : p.2.ht ≤ n
  sz : p.2.pieces.length ≤ 100000
  kl : p.1.length ≤ 1000000
@[simp] theorem isD_optS (neg : Bool) (o : Option Str) : isD neg (optS o) .none = some (.sh (.bool (neg ^^ o.isNone))) := by cases o <;> cases neg <;> rfl
theorem inr_nodup (ks : List Str) : (ks.map (Sum.inr : Str → Key)).Nodup ↔ ks.Nodup := by
  unfold List.Nodup
  rw [List.pairwise_map]
  exact ⟨fun h => h.imp fun q e => q (by rw [e]), fun h => h.imp fun q e => q (Sum.inr.inj e)⟩
theorem in_strs (neg : Bool) (k : Str) (ks : List Str) (h1 : PyData.strOk k = true) (h2 : ∀ k ∈ ks, PyData.strOk k = true) : inB neg (.str k) (.list (ks.map .str)) = some (.sh (.bool (neg ^^ decide (k ∈ ks)))) := by
  have o2 : okEq (.list (ks.map .str)) = true := okEq_of (strs_clean h2).1 (by
    rw [PyData.depth]
    have := depthAll_of (ds := ks.map PyData.str) (n := 0) fun d m => by obtain ⟨f, _, rfl⟩ := List.mem_map.mp m; exact Nat.le_refl _
    omega)
  rw [inB_l, okEq_str h1, o2]
  have e : (ks.map PyData.str).any (fun z => PyData.eqv z (.str k)) = decide (k ∈ ks) := by
    rw [List.any_map, Bool.eq_iff_iff, List.any_eq_true, decide_eq_true_eq]
    simp [PyData.eqv]
  rw [e]; rfl
end GM
namespace GM
open PySem L2 GS
end GM
namespace GM
open PySem L2 GS
structure RowOk (n : Nat) (s : Str) : Prop where
  len : s.length ≤ 90000
  ok : ∀ c ∈ s.cps.toList, c < 0x110000
  op : opensT (Txt.split s BL) 0 < n
section
variable {n : Nat} {Fm Fr Fn Fx : FF}
end
def rowW (p : Str × Tr) : Str := p.1 ++ Str.ofString " : " ++ lineT p.2.words
def Bk.rows (b : Bk) : List Str := (Str.ofString "top " ++ b.top) :: b.trees.map rowW
structure BookW (n : Nat) (b : Bk) : Prop where
  len : b.trees.length ≤ 1000
  top : b.top.length ≤ 1000
  all : ∀ p ∈ b.trees, p.2.ok = true ∧ p.2.ht ≤ n ∧ p.2.pieces.length ≤ 5000 ∧ p.1.length ≤ 1000
end GM
namespace GM
open PySem L2 GS
/-- a book that is well -/
structure BkW (h : Nat) (b : Bk) : Prop where
  top : nameB b.top = true
  pos : 1 ≤ b.trees.length
  len : b.trees.length ≤ 400
  nd : (b.trees.map (·.1)).Nodup
  keys : ∀ p ∈ b.trees, keyB p.1 = true
  trees : ∀ p ∈ b.trees, TreeOk h p.2
theorem BookOk.w {h : Nat} {b : Bk} (B : BookOk h b) : BkW h b := ⟨B.top, by have := B.pos; omega, by have := B.len; omega, B.nd, fun p m => allK_ok _ (B.keys p m), B.trees⟩
theorem am_none {h : Nat} {t : Tr} (T : TreeOk h t) (hh : h ≤ 11) : am t = none := by
  unfold am
  have h1 := T.feet
  have h2 : t.signs ≠ [] := fun e => by have := T.sg; rw [e] at this; simp at this
  have h3 : t.deep = false := by
    unfold Tr.deep
    rw [Bool.eq_false_iff]
    intro q
    obtain ⟨p, mp, hp⟩ := List.any_eq_true.mp q
    have := place_len t p mp
    have := T.ht
    rw [decide_eq_true_eq] at hp
    omega
  rw [if_neg (by rw [T.kn]; simp), if_neg (by omega), if_neg h2, if_neg (by rw [places_len, h3]; have := T.sz; simp; omega)]
theorem BkW.bw {h : Nat} {b : Bk} (B : BkW h b) : BookW h b := ⟨by have := B.len; omega, by have := nameB_len B.top; omega, fun p m => ⟨(B.trees p m).ok, (B.trees p m).ht, by have := (B.trees p m).sz; omega, by have := keyB_len (B.keys p m); omega⟩⟩
theorem BkW.known {h : Nat} {b : Bk} (B : BkW h b) (hh : h ≤ 11) : (nameB b.top && decide (1 ≤ b.trees.length) && decide (b.trees.length ≤ 400) && (b.trees.all fun p => keyB p.1 && (am p.2).isNone) && decide (b.trees.map (·.1)).Nodup) = true := by
  have h1 : (b.trees.all fun p => keyB p.1 && (am p.2).isNone) = true := List.all_eq_true.mpr fun p m => by rw [B.keys p m, am_none (B.trees p m) hh]; rfl
  simp [B.top, B.pos, B.len, B.nd, h1]
end GM
namespace GM
open PySem L2 GS
end GM
namespace GM
open PySem L2 GS
end GM
namespace GM
open PySem L2 GS
/-- _law_all(tree, place); slots 0:tree 1:place 2:found 3:k -/
def m_law_all_2_b1 (F__law_all : FF) : SF := (sKill [3] (sExt 2 (eCall 2 none F__law_all (aCons (eBin ixA (eBin ixA (eVb 0) (eC (.int 3))) (eVb 3)) (aCons (eBin addD (eVb 1) (eTup (aCons (eMv 3) aNil))) aNil)))))
def m_law_all_2 (F__law_all : FF) : SF := (sSeq (sSet 2 (eLst (aCons (eTup (aCons (eMv 1) (aCons (eMv 0) aNil))) aNil))) (sSeq (sKill [3] (sIf (eB (eBin (eqB false) (eBin ixA (eVb 0) (eC (.int 0))) (eC (.str (Str.ofString "knot"))))) (sFor (iR1 (eCB (un1 lenD) (aCons (eBin ixA (eVb 0) (eC (.int 3))) aNil))) (gN 3) (m_law_all_2_b1 F__law_all)) sNil)) (sEnd (sRet (eRv 2)))))
theorem m_law_all_2_eq (F__law_all : FF) (ρ : Rho) : fnF 4 2 (m_law_all_2 F__law_all) ρ = finR 2 (m_law_all_2 F__law_all (ρ ++ [none, none])) := fnF_eq 4 2 _
/-- _law_amiss(tree); slots 0:tree 1:pieces 2:sorts 3:place 4:piece -/
def m_law_amiss_ct1 (F__law_all : FF) : EF := (eB (eBin (ltI fun i j => decide (j < i)) (eCB (un1 lenD) (aCons (eVb 3) aNil)) (eC (.int 11))))
def m_law_amiss_ce2 (F__law_all : FF) : EF := (eMv 3)
def m_law_amiss_ce3 (F__law_all : FF) : EF := (eBin ixA (eVb 4) (eC (.int 0)))
def m_law_amiss (F__law_all : FF) : SF := (sSeq (sSet 1 (eCall 2 none F__law_all (aCons (eMv 0) (aCons (eTup aNil) aNil)))) (sSeq (sSet 2 (eLc [3, 4] (iSq (eMv 1)) (gT 2 (gsC (gN 3) (gsC (gN 4) gsN))) (eNox eYes) (eNox (m_law_amiss_ce3 F__law_all)))) (sSeq (sIf (eB (eBin (eqB true) (eBin ixA (eVb 2) (eC (.int 0))) (eC (.str (Str.ofString "knot"))))) (sEnd (sRet (eC (.str (Str.ofString "knot"))))) sNil) (sSeq (sIf (eB (eBin (ltI fun i j => decide (j < i)) (eL1 countD (eVb 2) (eC (.str (Str.ofString "foot")))) (eC (.int 1)))) (sEnd (sRet (eC (.str (Str.ofString "feet"))))) sNil) (sSeq (sIf (eB (eBin (inB true) (eC (.str (Str.ofString "sign"))) (eVb 2))) (sEnd (sRet (eC (.str (Str.ofString "sign"))))) sNil) (sSeq (sIf (eOr (eB (eBin (ltI fun i j => decide (j < i)) (eCB (un1 lenD) (aCons (eVb 1) aNil)) (eC (.int 60)))) (eB (eBin (ltI fun i j => decide (j < i)) (eCB (un1 lenD) (aCons (eLc [3, 4] (iSq (eMv 1)) (gT 2 (gsC (gN 3) (gsC (gN 4) gsN))) (eNox (m_law_amiss_ct1 F__law_all)) (eNox (m_law_amiss_ce2 F__law_all))) aNil)) (eC (.int 0))))) (sEnd (sRet (eC (.str (Str.ofString "great"))))) sNil) (sEnd (sRet (eC (.str (Str.ofString "")))))))))))
theorem m_law_amiss_eq (F__law_all : FF) (ρ : Rho) : fnF 5 1 (m_law_amiss F__law_all) ρ = finR 1 (m_law_amiss F__law_all (ρ ++ [none, none, none, none])) := fnF_eq 5 1 _
end GM
namespace GM
open PySem L2 GS
section
variable {n : Nat} {Fn Fr Fs : FF}
end
end GM
namespace GM
open PySem L2 GS
mutual
def Tr.pps (q : List Nat) : Tr → List (List Nat × Tr)
  | .knot n tk ks => (q, .knot n tk ks) :: Tr.ppsL q 0 ks
  | .sign s => [(q, .sign s)]
  | .void => [(q, .void)]
  | .hole s => [(q, .hole s)]
  | .foot s => [(q, .foot s)]
def Tr.ppsL (q : List Nat) (k : Nat) : List Tr → List (List Nat × Tr)
  | [] => []
  | t :: ts => Tr.pps (q ++ [k]) t ++ Tr.ppsL q (k + 1) ts
end
theorem ppsL_snoc (t : Tr) (q : List Nat) : ∀ (k : Nat) (ts : List Tr), Tr.ppsL q k (ts ++ [t]) = Tr.ppsL q k ts ++ t.pps (q ++ [k + ts.length])
  | k, [] => by simp [Tr.ppsL]
  | k, u :: ts => by
    rw [List.cons_append, Tr.ppsL, Tr.ppsL, ppsL_snoc t q (k + 1) ts, List.append_assoc, List.length_cons, show k + 1 + ts.length = k + (ts.length + 1) by omega]
mutual
theorem pps_snd : ∀ (t : Tr) (q : List Nat), (t.pps q).map (·.2) = t.pieces
  | .knot n tk ks, q => by rw [Tr.pps, Tr.pieces, List.map_cons, ppsL_snd ks q 0]
  | .sign s, q => by rw [Tr.pps, Tr.pieces]; rfl; intros; simp_all
  | .void, q => by rw [Tr.pps, Tr.pieces]; rfl; intros; simp_all
  | .hole s, q => by rw [Tr.pps, Tr.pieces]; rfl; intros; simp_all
  | .foot s, q => by rw [Tr.pps, Tr.pieces]; rfl; intros; simp_all
theorem ppsL_snd : ∀ (ts : List Tr) (q : List Nat) (k : Nat), (Tr.ppsL q k ts).map (·.2) = Tr.piecesL ts
  | [], q, k => rfl
  | t :: ts, q, k => by rw [Tr.ppsL, Tr.piecesL, List.map_append, pps_snd t, ppsL_snd ts]
end
mutual
theorem pps_fst : ∀ (t : Tr) (q : List Nat), (t.pps q).map (·.1) = t.places.map (q ++ ·)
  | .knot n tk ks, q => by rw [Tr.pps, places_kids, List.map_cons, List.map_cons, ppsL_fst ks q 0]; simp [Tr.kids]
  | .sign s, q => by rw [Tr.pps, places_kids]; simp [Tr.kids, Tr.placesL]
  | .void, q => by rw [Tr.pps, places_kids]; simp [Tr.kids, Tr.placesL]
  | .hole s, q => by rw [Tr.pps, places_kids]; simp [Tr.kids, Tr.placesL]
  | .foot s, q => by rw [Tr.pps, places_kids]; simp [Tr.kids, Tr.placesL]
theorem ppsL_fst : ∀ (ts : List Tr) (q : List Nat) (k : Nat), (Tr.ppsL q k ts).map (·.1) = (Tr.placesL k ts).map (q ++ ·)
  | [], q, k => rfl
  | t :: ts, q, k => by
    rw [Tr.ppsL, Tr.placesL, List.map_append, List.map_append, pps_fst t, ppsL_fst ts, List.map_map]
    congr 1
    refine List.map_congr_left fun p _ => ?_
    simp
end
theorem pps_len (t : Tr) (q : List Nat) : (t.pps q).length = t.pieces.length := by rw [← pps_snd t q, List.length_map]
def encPT (p : List Nat × Tr) : D := .tuple [encP p.1, p.2.enc]
def AllP (n : Nat) (F : FF) : Prop := ∀ (t : Tr) (q : List Nat), t.ht ≤ n → t.pieces.length ≤ 100000 → q.length + t.ht ≤ 1000 → F [some ⟨t.enc, .sh⟩, some ⟨encP q, .sh⟩] = .ok (.fr (.list ((t.pps q).map encPT))) [none, none]
theorem encP_snoc (q : List Nat) (k : Nat) (h : q.length ≤ 100000) : addD (encP q) (.tuple [.int (k : Int)]) = some (.sh (encP (q ++ [k]))) := by
  unfold encP
  have : q.length + 1 ≤ sizeLine := fits (by omega)
  simp [this]
theorem law_all_2_ok {n : Nat} {Fa : FF} (ha : ∀ m, m + 1 = n → AllP m Fa) : AllP n (fnF 4 2 (m_law_all_2 Fa)) := fun t q hh hz hq => by
  rw [m_law_all_2_eq]
  cases t with
  | knot nm tk ks =>
    have p4 : ks.length ≤ 100000 := by
      have h1 : ks.length ≤ (Tr.piecesL ks).length := by
        rw [piecesL_flat]
        clear hh hz hq ha
        induction ks with
        | nil => simp
        | cons k ks ih => rw [List.flatMap_cons, List.length_append, List.length_cons, pieces_kids k, List.length_cons]; omega
      rw [Tr.pieces, List.length_cons] at hz
      omega
    have okr : okR (ks.length : Int) = true := okR_nat (by omega)
    obtain ⟨acc, hf, hacc⟩ := forL_by (S := List (List Nat × Tr)) (g := gN 3) (b := m_law_all_2_b1 Fa) (fun acc => [some ⟨Tr.enc (.knot nm tk ks), .sh⟩, some ⟨encP q, .sh⟩, some ⟨.list (acc.map encPT), .ow⟩, none])
      (fun pre acc => acc = (q, Tr.knot nm tk ks) :: Tr.ppsL q 0 (ks.take pre.length)) (rgD 0 ks.length) [(q, .knot nm tk ks)] (by simp [Tr.ppsL]) (fun pre d post acc hd hacc => by
        obtain ⟨hk, rfl⟩ := rgD_mid hd
        rw [Int.zero_add]
        have hg : ks[pre.length]? = some ks[pre.length] := List.getElem?_eq_getElem hk
        generalize ks[pre.length] = k at hg
        have mk : k ∈ ks := List.mem_of_getElem? hg
        have hkh : k.ht ≤ Tr.htL ks := ht_mem mk
        simp only [Tr.ht] at hh hq
        obtain ⟨n', rfl⟩ : ∃ n', n = n' + 1 := ⟨n - 1, by omega⟩
        have kz : k.pieces.length ≤ 100000 := Nat.le_trans (pieces_kid_le (t := .knot nm tk ks) mk) hz
        have e := ha n' rfl k (q ++ [pre.length]) (by omega) kz (by simp; omega)
        have es := encP_snoc q pre.length (by omega)
        have htk : ks.take (pre.length + 1) = ks.take pre.length ++ [k] := by rw [List.take_succ, hg]; rfl
        have hsn := ppsL_snoc k q 0 (ks.take pre.length)
        rw [Nat.zero_add, List.length_take, Nat.min_eq_left (by omega)] at hsn
        have hle : (Tr.ppsL q 0 (ks.take (pre.length + 1))).length ≤ 100000 := by
          have h1 : (Tr.ppsL q 0 (ks.take (pre.length + 1))).length = (Tr.piecesL (ks.take (pre.length + 1))).length := by rw [← ppsL_snd _ q 0, List.length_map]
          rw [h1, piecesL_flat]
          rw [Tr.pieces, List.length_cons, piecesL_flat] at hz
          have : ks.flatMap Tr.pieces = (ks.take (pre.length + 1)).flatMap Tr.pieces ++ (ks.drop (pre.length + 1)).flatMap Tr.pieces := by rw [← List.flatMap_append, List.take_append_drop]
          rw [this, List.length_append] at hz
          omega
        rw [htk, hsn, List.length_append] at hle
        have z : acc.length + (k.pps (q ++ [pre.length])).length ≤ sizeLine := fits (by rw [hacc, List.length_cons]; omega)
        have ea : L2.atI (ks.map Tr.enc) (pre.length : Int) = some k.enc := by
          rw [atI_nat (xs := ks.map Tr.enc) (j := pre.length) (v := k.enc) (by rw [List.getElem?_map, hg]; rfl)]
        refine ⟨acc ++ k.pps (q ++ [pre.length]), ?_, by rw [List.length_append, List.length_singleton, htk, hsn, hacc]; simp⟩
        rw [enc_knot]
        simp [m_law_all_2_b1, ea, es, e, z])
    rw [rgD_len, List.take_length] at hacc
    subst hacc
    have hf' : forL (gN 3) (m_law_all_2_b1 Fa) (rgD 0 ks.length) [some ⟨Tr.enc (.knot nm tk ks), .sh⟩, some ⟨encP q, .sh⟩, some ⟨.list [.tuple [encP q, Tr.enc (.knot nm tk ks)]], .ow⟩, none] = _ := hf
    rw [enc_knot] at hf' ⊢
    rw [Tr.pps]
    simp [m_law_all_2, okr, hf']
  | sign s => simp [m_law_all_2, Tr.enc, Tr.pps, encPT]
  | void => simp [m_law_all_2, Tr.enc, Tr.pps, encPT]
  | hole s => simp [m_law_all_2, Tr.enc, Tr.pps, encPT]
  | foot s => simp [m_law_all_2, Tr.enc, Tr.pps, encPT]
def Tr.kind : Tr → Str
  | .sign _ => Str.ofString "sign"
  | .void => Str.ofString "void"
  | .hole _ => Str.ofString "hole"
  | .foot _ => Str.ofString "foot"
  | .knot _ _ _ => Str.ofString "knot"
theorem enc_w (t : Tr) : ∃ r, t.enc = .tuple (.str t.kind :: r) := by cases t <;> exact ⟨_, rfl⟩
theorem word_ok (t : Tr) : PyData.strOk t.kind = true := by cases t <;> exact strOk_ofS _
theorem count_feet (t : Tr) : (t.pieces.map Tr.kind).countP (fun z => decide (z = Str.ofString "foot")) = t.feet.length := by
  unfold Tr.feet
  rw [List.countP_map, List.length_filterMap_eq_countP]
  congr 1
  funext u
  cases u <;> simp [Tr.kind, Tr.footN] <;> decide +kernel
theorem sign_mem (t : Tr) : Str.ofString "sign" ∈ t.pieces.map Tr.kind ↔ t.signs ≠ [] := by
  unfold Tr.signs
  rw [List.mem_map, Ne, List.filterMap_eq_nil_iff]
  constructor
  · rintro ⟨u, mu, e⟩ h
    have := h u mu
    cases u with
    | sign s => cases this
    | void => exact absurd e (by decide +kernel)
    | hole _ => exact absurd e (by simp only [Tr.kind]; decide +kernel)
    | foot _ => exact absurd e (by simp only [Tr.kind]; decide +kernel)
    | knot _ _ _ => exact absurd e (by simp only [Tr.kind]; decide +kernel)
  · intro h
    refine Classical.byContradiction fun hn => h fun u mu => ?_
    cases u with
    | sign s => exact absurd ⟨.sign s, mu, rfl⟩ hn
    | void => rfl
    | hole _ => rfl
    | foot _ => rfl
    | knot _ _ _ => rfl
def LAmiss (n : Nat) (F : FF) : Prop := ∀ t : Tr, t.ht ≤ n → t.pieces.length ≤ 100000 → F [some ⟨t.enc, .sh⟩] = .ok (.sh (.str ((am t).getD (Str.ofString "")))) [none]
theorem law_amiss_ok {n : Nat} {Fa : FF} (hn : n ≤ 1000) (ha : AllP n Fa) : LAmiss n (fnF 5 1 (m_law_amiss Fa)) := fun t hh hz => by
  rw [m_law_amiss_eq]
  have e1 := ha t [] hh hz (by simp; omega)
  have e1' : Fa [some ⟨t.enc, .sh⟩, some ⟨.tuple [], .sh⟩] = .ok (.fr (.list ((t.pps []).map encPT))) [none, none] := e1
  have pl := pps_len t []
  have hs := lcL_all (vs := [3, 4]) (g := gT 2 (gsC (gN 3) (gsC (gN 4) gsN))) (fe := eNox (m_law_amiss_ce3 Fa)) [some ⟨t.enc, .sh⟩, some ⟨.list ((t.pps []).map encPT), .sh⟩, none, none, none] encPT (fun p => [some ⟨t.enc, .sh⟩, some ⟨.list ((t.pps []).map encPT), .sh⟩, none, some ⟨encP p.1, .sh⟩, some ⟨p.2.enc, .sh⟩]) (fun p => .str p.2.kind) (t.pps []) [] (fits (by simp; omega)) (fun p _ => by
    obtain ⟨r, hr⟩ := enc_w p.2
    simp [m_law_amiss_ce3, encPT, hr])
  have hw : (t.pps []).map (fun p => PyData.str p.2.kind) = (t.pieces.map Tr.kind).map .str := by rw [← pps_snd t [], List.map_map, List.map_map]; rfl
  rw [List.nil_append, hw] at hs
  have okw : ∀ k ∈ t.pieces.map Tr.kind, PyData.strOk k = true := fun k m => by obtain ⟨u, _, rfl⟩ := List.mem_map.mp m; exact word_ok u
  have hcnt : countD (.list ((t.pieces.map Tr.kind).map .str)) (.str (Str.ofString "foot")) = some (.sh (.int (t.feet.length : Int))) := by
    rw [countD_l _ _ (okEq_str (strOk_ofS _)) (okEq_of (strs_clean okw).1 (by
      rw [PyData.depth]
      have := depthAll_of (ds := (t.pieces.map Tr.kind).map PyData.str) (n := 0) fun d m => by obtain ⟨f, _, rfl⟩ := List.mem_map.mp m; exact Nat.le_refl _
      omega))]
    rw [← count_feet t, List.countP_map (f := PyData.str)]
    rw [show ((fun z => PyData.eqv z (PyData.str (Str.ofString "foot"))) ∘ PyData.str) = fun z => decide (z = Str.ofString "foot") from funext fun z => by simp [PyData.eqv]; rw [Bool.eq_iff_iff]; simp]
  have hin := in_strs true (Str.ofString "sign") (t.pieces.map Tr.kind) (strOk_ofS _) okw
  have hg := lcL_up (vs := [3, 4]) (g := gT 2 (gsC (gN 3) (gsC (gN 4) gsN))) (ft := eNox (m_law_amiss_ct1 Fa)) (fe := eNox (m_law_amiss_ce2 Fa)) [some ⟨t.enc, .sh⟩, some ⟨.list ((t.pps []).map encPT), .sh⟩, some ⟨.list ((t.pieces.map Tr.kind).map .str), .ow⟩, none, none] encPT (fun p => [some ⟨t.enc, .sh⟩, some ⟨.list ((t.pps []).map encPT), .sh⟩, some ⟨.list ((t.pieces.map Tr.kind).map .str), .ow⟩, some ⟨encP p.1, .sh⟩, some ⟨p.2.enc, .sh⟩]) (fun p => decide (12 ≤ p.1.length)) (fun p => encP p.1) (t.pps []) [] (fits (by simp; omega)) (fun p _ => by
    have e : decide ((11 : Int) < (p.1.length : Int)) = decide (12 ≤ p.1.length) := by
      by_cases h : 12 ≤ p.1.length
      · rw [decide_eq_true h, decide_eq_true (by omega)]
      · rw [decide_eq_false h, decide_eq_false (by omega)]
    by_cases h : 12 ≤ p.1.length
    · have h' : (11 : Int) < (p.1.length : Int) := by omega
      have h'' : 11 < p.1.length := by omega
      simp [m_law_amiss_ct1, m_law_amiss_ce2, encPT, encP, h, h', h'']
    · have h' : ¬ (11 : Int) < (p.1.length : Int) := by omega
      have h'' : ¬ 11 < p.1.length := by omega
      simp [m_law_amiss_ct1, m_law_amiss_ce2, encPT, encP, h, h', h''])
  rw [List.nil_append] at hg
  have hdeep : ((t.pps []).filter fun p => decide (12 ≤ p.1.length)) = [] ↔ t.deep = false := by
    rw [List.filter_eq_nil_iff]
    unfold Tr.deep
    have hp := pps_fst t []
    simp only [List.nil_append, List.map_id'] at hp
    rw [← hp, List.any_map, List.any_eq_false]
    rfl
  obtain ⟨r, hr⟩ := enc_w t
  have h0 : ∃ rest, (t.pieces.map Tr.kind).map PyData.str = .str t.kind :: rest := by rw [pieces_kids t]; exact ⟨_, rfl⟩
  obtain ⟨rest, h0⟩ := h0
  have hat : L2.atI ((t.pieces.map Tr.kind).map PyData.str) 0 = some (.str t.kind) := by rw [h0]; simp
  have hkn : t.kind = Str.ofString "knot" ↔ t.isKnot = true := by cases t <;> simp [Tr.kind, Tr.isKnot] <;> decide +kernel
  unfold am
  rw [places_len]
  have pl' : (t.pps []).length = t.pieces.length := pl
  generalize (t.pieces.map Tr.kind).map PyData.str = ws at hs hcnt hin hg hat
  by_cases q1 : t.isKnot = true
  · have w1 := hkn.mpr q1
    rw [w1] at hat
    rw [if_neg (by rw [q1]; simp)]
    by_cases q2 : 1 < t.feet.length
    · rw [if_pos q2]
      have q2' : (1 : Int) < t.feet.length := by omega
      simp [m_law_amiss, e1', hs, hat, hcnt, q2, q2']
    · rw [if_neg q2]
      have q2' : ¬ (1 : Int) < t.feet.length := by omega
      by_cases q3 : t.signs = []
      · rw [if_pos q3]
        rw [decide_eq_false (fun h => (sign_mem t).mp h q3)] at hin
        simp [m_law_amiss, e1', hs, hat, hcnt, q2, q2', hin]
      · rw [if_neg q3]
        rw [decide_eq_true ((sign_mem t).mpr q3)] at hin
        by_cases q4 : 60 < t.pieces.length
        · have q4' : (60 : Int) < (t.pieces.length : Int) := by omega
          rw [if_pos (.inl q4)]
          simp [m_law_amiss, e1', hs, hat, hcnt, q2, q2', hin, pl', q4, q4']
        · have q4' : ¬ (60 : Int) < (t.pieces.length : Int) := by omega
          cases q5 : t.deep with
          | true =>
            rw [if_pos (.inr rfl)]
            have hne : ((t.pps []).filter fun p => decide (12 ≤ p.1.length)) ≠ [] := fun h => by rw [hdeep.mp h] at q5; cases q5
            have hpos := List.length_pos_iff.mpr hne
            generalize (t.pps []).filter (fun p => decide (12 ≤ p.1.length)) = fl at hg hpos
            simp [m_law_amiss, e1', hs, hat, hcnt, q2, q2', hin, pl', q4, q4', hg, hpos]
          | false =>
            rw [if_neg (by simp [q4])]
            rw [hdeep.mpr q5] at hg
            simp [m_law_amiss, e1', hs, hat, hcnt, q2, q2', hin, pl', q4, q4', hg]
  · have w1 : ¬ t.kind = Str.ofString "knot" := fun e => q1 (hkn.mp e)
    rw [if_pos (by simpa using q1)]
    simp [m_law_amiss, e1', hs, hat, w1]
end GM
namespace GM
open PySem L2 GS
end GM
namespace GM
open PySem L2 GS
def fl1 (x : Xc) : D := (x.fs.head?.map (·.2)).getD .none
def fl2 (x : Xc) : D := ((x.fs.drop 1).head?.map (·.2)).getD .none
def xd (x : Xc) : D := if x.cls = "NoRow" then .tuple [.str (Str.ofString "row"), fl1 x] else if x.cls = "NoKey" then .tuple [.str (Str.ofString "key"), fl1 x] else if x.cls = "Twice" then .tuple [.str (Str.ofString "twice"), fl1 x] else .tuple [.str (Str.ofString "tree"), fl2 x, fl1 x]
section
variable {n : Nat} {Fa Fk Fr Fn : FF}
end
end GM
namespace GM
open PySem L2 GS
end GM
namespace GM
open PySem L2 GS
end GM
namespace GM
open PySem L2 GS
end GM
namespace GM
open PySem L2 GS
abbrev six : List Str := ["NoPlace", "NoText", "NoKey", "Twice", "NoTree", "NoRow"]
end GM
namespace GM
open PySem L2 GS
section
variable {n : Nat} {Fa Fk Fm : FF}
end
end GM
namespace GS
open PySem L2
section
variable {ρ : Rho}
theorem slot_one (c : Option Cel) (x : Cel) (outs : Rho) : slot (c :: some x :: outs) 1 = some x := rfl
@[simp] theorem backR_io1 (i : Nat) (h0 : Hd) (hs : List Hd) (d : D) (d' : D) (fl : Fl) (c0 : Option Cel) (outs : Rho) : backR ρ (some 1) (h0 :: .bw i :: hs) (.ok (.sh d) (c0 :: some ⟨d', fl⟩ :: outs)) = match slot ρ i with
    | some c => .ok (.sh d) (ρ.set i (some ⟨d', c.fl⟩))
    | none => .stuck := by
  unfold backR
  dsimp only
  rw [putB_bw i 1 _ _ rfl, slot_one]
  cases slot ρ i <;> rfl
@[simp] theorem backR_io1x (i : Nat) (h0 : Hd) (hs : List Hd) (x : Xc) (d' : D) (fl : Fl) (c0 : Option Cel) (outs : Rho) : backR ρ (some 1) (h0 :: .bw i :: hs) (.exc x (c0 :: some ⟨d', fl⟩ :: outs)) = match slot ρ i with
    | some c => .exc x (ρ.set i (some ⟨d', c.fl⟩))
    | none => .stuck := by
  unfold backR
  dsimp only
  rw [putB_bw i 1 _ _ rfl, slot_one]
  cases slot ρ i <;> rfl
@[simp] theorem backR_io0x (i : Nat) (hs : List Hd) (x : Xc) (d' : D) (fl : Fl) (outs : Rho) : backR ρ (some 0) (.bw i :: hs) (.exc x (some ⟨d', fl⟩ :: outs)) = match slot ρ i with
    | some c => .exc x (ρ.set i (some ⟨d', c.fl⟩))
    | none => .stuck := by
  unfold backR
  dsimp only
  rw [putB_bw i 0 _ _ rfl, slot_zero]
  cases slot ρ i <;> rfl
end
end GS
namespace GM
open PySem L2 GS
abbrev four : List Str := ["NoPlace", "NoKey", "Twice", "NoTree"]
end GM
namespace GS
open PySem L2 PySem.Spec PyProof.Rows
section
variable {X : Cx} {C : Ct} {e : Expr} {es : List Expr} {ta : TA} {fa : AF} {te : TE} {fe : EF} {p pos : Pos} {x : Str} {fns : List Str}
end
end GS
namespace GS
open PySem L2 PySem.Spec PyProof.Rows
theorem tuple_mulW0 (l : Addr) (items : Array Value) (n : Nat) (dd : Option Addr) (sl : Array (Option Value)) (u : Tok) (c1 : (items.isEmpty || (0 : Int) == 1) = false) :
    Meets (Builtin.«tuple.__mul__» ⟨[.ref l, .int 0 u], []⟩) (fun _ R s => s.heap.get? l = some { cls := .type "tuple", dict := dd, data := .seq items n, slots := sl } ∧
      R (.ok (.ret (Value.ref s.heap.objs.size))) { s with heap := s.heap.push { cls := Value.type "tuple", data := Data.seq #[] }, toks := s.toks }) :=
  .of_wp fun prog w A R s h => by
    obtain ⟨hp, g, d, tk, os⟩ := s
    obtain ⟨hl, h⟩ := h
    have f1 := AutoSeq1.idx_int
    have c0 : (decide ((0 : Int) < -(2 ^ 63)) || decide ((0 : Int) ≥ 2 ^ 63)) = false := by decide
    have c2 : (decide ((0 : Int) ≤ 0) || items.isEmpty) = true := by simp
    wp_walk using wpAny_loadPart' hl
    repeat (first
      | (refine wpAny_ite_false (decide_eq_false (by rw [c0]; exact Bool.false_ne_true)) ?_; wp_walk using wpAny_loadPart' hl)
      | (refine wpAny_ite_false (decide_eq_false (by rw [c1]; exact Bool.false_ne_true)) ?_; wp_walk using wpAny_loadPart' hl)
      | (refine wpAny_ite_true (decide_eq_true c2) ?_; wp_walk using wpAny_loadPart' hl))
    exact ⟨_, rfl, h⟩
def rRep0 (K : PySem.W.Frag) : R2 := fun x y H Q => ∃ l xs, x = .ref l ∧ y = .int 0 ∧ SqT K H l xs ∧ xs ≠ [] ∧ ∀ p o, H p = none → o.dict = none → Q (.ref p) (upd H p (.frz o (.tup [])))
theorem op_rep0 {X : Cx} : OpR X (binaryOp .Mult) (rRep0 X.K) := by
  intro pins s σ H x y v u Q I rx ry h
  obtain ⟨l, xs, rfl, rfl, hT, hne, q⟩ := h
  cases rx
  obtain ⟨t, rfl⟩ := ry
  obtain ⟨its, r, ⟨⟨cls, dd, data, sl⟩, ho, hc, n, hd⟩, hs⟩ := I.tuple hT
  simp only at hc hd
  subst hc hd
  have hle : its.length = xs.length := r.length.symm
  have hi : its.toArray.isEmpty = false := by
    cases its with
    | nil => exact absurd (List.eq_nil_of_length_eq_zero hle.symm) hne
    | cons a b => rfl
  have c1 : (its.toArray.isEmpty || (0 : Int) == 1) = false := by rw [hi]; rfl
  refine wpAny_binaryOp_repeat_ref (T := "tuple") (U := "int") (by decide) ⟨_, ho, rfl⟩ (fun s' => typeIs_int s' 0 t) noFill_tuple_mul F.fills_int_mul F.slot_int_rmul repeat_tuple F.slot_int_index.lookup
    (call_meets F.slot_int_rmul (typeIs_int s 0 t) F.entry_int_rmul (F.args_int_rmul_2 _ _) (int_rmul_tuple 0 t l its.toArray n dd sl)
      ⟨ho, rfl, ⟨_, ho, rfl⟩, call_meets F.slot_tuple_mul ⟨_, ho, rfl⟩ F.entry_tuple_mul (F.args_tuple_mul_2 _ _) (tuple_mulW0 l its.toArray n dd sl t c1) ⟨ho, ?_⟩⟩)
  exact ⟨.ref s.heap.objs.size, _, laidX (ys := []) (us := []) (tk := s.toks) I .nil (by rw [sizeLine_eq]; exact Nat.zero_le _), rfl, q _ _ (I.hok.fresh (Nat.le_refl _)) rfl⟩
def mulT : D → D → Option Hd
  | .tuple ds, .int k => if decide (k = 0) && Nat.ble 1 ds.length then some (.sh (.tuple [])) else mulA (.tuple ds) (.int k)
  | d, e => mulA d e
def rMulT (K : PySem.W.Frag) : R2 := fun x y H Q => rMulA K x y H Q ∨ rRep0 K x y H Q
theorem op_mulT {X : Cx} : OpR X (binaryOp .Mult) (rMulT X.K) := OpR.or op_mulA op_rep0
theorem ol_mulT {K : KW} : OpL K (rMulT K) mulT := fun ρ σ B H x y dx dy h Q S tx ty e k => by
  have base : mulA dx dy = some h → rMulT K x y H Q := fun e => .inl (ol_mulA ρ σ B H x y dx dy h Q S tx ty e k)
  cases dx with
  | tuple ds =>
    cases dy with
    | int i =>
      have e : (if decide (i = 0) && Nat.ble 1 ds.length then some (Hd.sh (.tuple [])) else mulA (.tuple ds) (.int i)) = some h := e
      cases c : (decide (i = 0) && Nat.ble 1 ds.length) with
      | true =>
        rw [c, if_pos rfl] at e
        cases e
        rw [Bool.and_eq_true] at c
        have h0 : i = 0 := by simpa using c.1
        have h1 := Nat.le_of_ble_eq_true c.2
        subst h0
        obtain ⟨a, vs, rfl, ha, ra⟩ := tx.tup
        have hl := ra.length
        rw [ty.int]
        exact .inr ⟨a, vs, rfl, rfl, same_t S.bh ha, fun z => by subst z; cases ra; simp at h1, newT S .nil k⟩
      | false =>
        rw [c, if_neg Bool.false_ne_true] at e
        exact base e
    | _ => exact base e
  | _ => exact base e
end GS
namespace GM
open PySem L2 GS
/-- _law_wide(many); slots 0:many 1:kids 2:left 3:few -/
def m_law_wide_2_t1 : EF := (eB (eBin (ltI fun i j => decide (j < i)) (eVb 2) (eC (.int 1))))
def m_law_wide_2_b2 : SF := (sKill [3] (sSeq (sSet 3 (eCB (un2 minD) (aCons (eC (.int 8)) (aCons (eBin subD (eVb 2) (eC (.int 1))) aNil)))) (sSeq (sSet 1 (eBin addD (eVb 1) (eTup (aCons (eTup (aCons (eC (.str (Str.ofString "knot"))) (aCons (eC (.str (Str.ofString "S"))) (aCons (eC .none) (aCons (eBin mulT (eTup (aCons (eTup (aCons (eC (.str (Str.ofString "void"))) aNil)) aNil)) (eVb 3)) aNil))))) aNil)))) (sSet 2 (eBin subD (eBin subD (eVb 2) (eC (.int 1))) (eVb 3))))))
def m_law_wide_2 : SF := (sSeq (sSet 1 (eTup (aCons (eTup (aCons (eC (.str (Str.ofString "sign"))) (aCons (eC (.str (Str.ofString "a"))) aNil))) aNil))) (sSeq (sSet 2 (eBin subD (eVb 0) (eC (.int 2)))) (sSeq (whileL (m_law_wide_2_t1) (m_law_wide_2_b2) wFuel) (sEnd (sRet (eTup (aCons (eC (.str (Str.ofString "knot"))) (aCons (eC (.str (Str.ofString "S"))) (aCons (eC .none) (aCons (eBin addD (eVb 1) (eBin mulT (eTup (aCons (eTup (aCons (eC (.str (Str.ofString "void"))) aNil)) aNil)) (eVb 2))) aNil))))))))))
/-- _law_deep(many); slots 0:many 1:tree 2:k -/
def m_law_deep_b1 : SF := (sKill [2] (sSet 1 (eTup (aCons (eC (.str (Str.ofString "knot"))) (aCons (eC (.str (Str.ofString "S"))) (aCons (eC .none) (aCons (eTup (aCons (eMv 1) aNil)) aNil)))))))
def m_law_deep : SF := (sSeq (sSet 1 (eTup (aCons (eC (.str (Str.ofString "sign"))) (aCons (eC (.str (Str.ofString "a"))) aNil)))) (sSeq (sFor (iR1 (eVb 0)) (gN 2) (m_law_deep_b1)) (sEnd (sRet (eRv 1)))))
end GM
namespace GM
open PySem L2 GS
def kS (ks : List Tr) : Tr := .knot (Str.ofString "S") none ks
def aS : Tr := .sign (Str.ofString "a")
def fS : Tr := .foot (Str.ofString "S")
def wideT (few : Nat) : Tr := kS (aS :: (List.replicate 6 (kS (List.replicate 8 .void)) ++ [kS (List.replicate few .void)]))
def deepT : Nat → Tr
  | 0 => aS
  | n + 1 => kS [deepT n]
theorem wide60 : fnF 4 1 m_law_wide_2 [some ⟨.int 60, .sh⟩] = .ok (.sh (wideT 3).enc) [none] := by kernel_rfl
theorem wide61 : fnF 4 1 m_law_wide_2 [some ⟨.int 61, .sh⟩] = .ok (.sh (wideT 4).enc) [none] := by kernel_rfl
theorem deep11 : fnF 3 1 m_law_deep [some ⟨.int 11, .sh⟩] = .ok (.sh (deepT 11).enc) [none] := by kernel_rfl
theorem deep12 : fnF 3 1 m_law_deep [some ⟨.int 12, .sh⟩] = .ok (.sh (deepT 12).enc) [none] := by kernel_rfl
end GM
namespace GM
open PySem L2 GS
structure RB (b c : Nat) (s : Str) : Prop where
  len : s.length ≤ b
  chr : ∀ ch ∈ s.cps.toList, ch < 128
  cnt : s.cps.toList.count 91 ≤ c
theorem RB.up {b b' c c' : Nat} {s : Str} (h : RB b c s) (l : b ≤ b') (l2 : c ≤ c') : RB b' c' s := ⟨by have := h.len; omega, h.chr, by have := h.cnt; omega⟩
theorem ob_cnt (W : List Str) : opensT W 0 ≤ (W.map fun w => w.cps.toList.count 91).sum := by
  unfold opensT
  rw [List.drop_zero]
  induction W with
  | nil => simp
  | cons w W ih =>
    rw [List.count_cons, List.map_cons, List.sum_cons]
    by_cases h : w = OB
    · have : OB.cps.toList.count 91 = 1 := by decide +kernel
      subst h
      simp only [beq_self_eq_true, if_true]
      omega
    · rw [if_neg (by simpa using h)]
      omega
theorem RB.ok {b c n : Nat} {s : Str} (h : RB b c s) (hb : b ≤ 90000) (hc : c < n) : RowOk n s :=
  ⟨by have := h.len; omega, fun ch m => by have := h.chr ch m; omega, by
    have h1 := ob_cnt (Txt.split s BL)
    have h2 := (split_bl s).cnt 91
    have := h.cnt
    omega⟩
theorem fin_exS {α : Type} {n : Nat} {f g : SF} {ρ : Rho} {Q : α → RE} {P : α → Prop} (ρ' : Rho) (h : f ρ = .nx ρ') (h2 : ∃ r, finR n (g ρ') = Q r ∧ P r) : ∃ r, finR n (sSeq f g ρ) = Q r ∧ P r := by
  obtain ⟨r, e, p⟩ := h2
  exact ⟨r, fin_seq ρ' h e, p⟩
end GM
namespace GM
open PySem L2 GS
theorem z25 : ∃ z : Str, mulA (.str (Str.ofString "z")) (.int 25) = some (.sh (.str z)) ∧ z.length ≤ 100 ∧ PyData.strOk z = true := ⟨Txt.mul (Str.ofString "z") 25, by kernel_rfl, by decide +kernel, by decide +kernel⟩
theorem z24 : ∃ z : Str, mulA (.str (Str.ofString "z")) (.int 24) = some (.sh (.str z)) ∧ z.length ≤ 100 ∧ PyData.strOk z = true := ⟨Txt.mul (Str.ofString "z") 24, by kernel_rfl, by decide +kernel, by decide +kernel⟩
theorem at_in {α : Type} [Inhabited α] {xs : List α} {c n : Int} (h0 : 0 < n) (h : n ≤ xs.length) : ∃ x, L2.atI xs (c % n) = some x ∧ x ∈ xs := by
  have := atI_pick (xs := xs) (i := c % n) (Int.emod_nonneg _ (by omega)) (by have := Int.emod_lt_of_pos c h0; omega)
  exact ⟨_, this.1, this.2⟩
section
variable {Fd Fw : FF}
end
end GM
namespace GM
open PySem L2 GS
/-- a knot's kids lie two deeper -/
theorem is_knot_okD {n : Nat} {Ft Fk Fn : FF} (ht : ∀ k, n = k + 2 → TreeSp k Ft) (hk : TakesSp Fk) (hn : NameSp Fn) : KnotSp n (fnF 2 1 (m_is_knot Ft Fk Fn)) := fun ds hd dp => by
  rw [m_is_knot_eq]
  match ds, hd, dp with
  | [], _, _ => simp [m_is_knot, knotB]
  | [_], _, _ => simp [m_is_knot, knotB]
  | [_, _], _, _ => simp [m_is_knot, knotB]
  | [_, _, _], _, _ => simp [m_is_knot, knotB]
  | a0 :: a1 :: a2 :: a3 :: a4 :: r, _, _ =>
    have : ¬ ((r.length : Int) + 1 + 1 + 1 + 1 + 1 = 4) := by omega
    simp [m_is_knot, knotB, this]
  | [a0, a1, a2, a3], hd, dp =>
    have h1 := szB_t hd a1 (by simp)
    have h2 := hk a2 (szB_t hd a2 (by simp))
    have h3 := szB_t hd a3 (by simp)
    cases a1 with
    | str nm =>
      have hnm := hn nm (szB_s h1)
      by_cases e1 : nameB nm = true
      · by_cases e2 : takesB a2 = true
        · cases a3 with
          | tuple ks =>
            have hf := forL_lookD (g := gN 1) (b := m_is_knot_b1 Ft Fk Fn) [some ⟨.tuple [a0, .str nm, a2, .tuple ks], .sh⟩, none] [none, none] isTree (.sh (.bool false)) ks (fun k hk => by
              have d1 := dep_mem hk
              have d2 := dep_mem (ds := [a0, .str nm, a2, .tuple ks]) (d := .tuple ks) (by simp)
              rw [PyData.depth] at dp d2
              have e := ht (n - 2) (by omega) k (szB_t h3 k hk) (by omega)
              cases q : isTree k <;> simp [m_is_knot_b1, e, q])
            by_cases q1 : 1 ≤ ks.length
            · have q3 : (1 : Int) ≤ ks.length := by omega
              by_cases q2 : ks.length ≤ 8
              · have q4 : ¬ (8 : Int) < ks.length := by omega
                by_cases q5 : ks.all isTree = true
                · rw [if_pos q5] at hf
                  simp [m_is_knot, knotB, hnm, h2, e1, e2, L2.atI, ixN, q1, q2, q3, q4, hf, isTreeL_all, q5]
                · rw [if_neg q5] at hf
                  simp only [Bool.not_eq_true] at q5
                  simp [m_is_knot, knotB, hnm, h2, e1, e2, L2.atI, ixN, q1, q2, q3, q4, hf, isTreeL_all, q5]
              · have q4 : (8 : Int) < ks.length := by omega
                simp [m_is_knot, knotB, hnm, h2, e1, e2, L2.atI, ixN, q1, q2, q3, q4]
            · have q3 : ¬ (1 : Int) ≤ ks.length := by omega
              simp [m_is_knot, knotB, hnm, h2, e1, e2, L2.atI, ixN, q1, q3]
          | _ => simp [m_is_knot, knotB, hnm, h2, e1, e2, L2.atI, ixN, isTup]
        · simp only [Bool.not_eq_true] at e2
          have : knotB [a0, .str nm, a2, a3] = false := by cases a3 <;> simp [knotB, e2]
          simp [m_is_knot, hnm, h2, e1, e2, L2.atI, ixN, this]
      · simp only [Bool.not_eq_true] at e1
        have : knotB [a0, .str nm, a2, a3] = false := by cases a3 <;> simp [knotB, e1]
        simp [m_is_knot, hnm, e1, L2.atI, ixN, this]
    | _ => simp [m_is_knot, knotB, isStr, L2.atI, ixN]
end GM
namespace GM
open PySem L2 GS
end GM
namespace GM
open PySem L2 GS
structure RdBk (n : Nat) (t : Str) (L : List (Str × Tr)) : Prop where
  top : nameB t = true
  pos : 1 ≤ L.length
  len : L.length ≤ 400
  all : ∀ p ∈ L, keyB p.1 = true ∧ am p.2 = none
  nd : (L.map (·.1)).Nodup
  ok : ∀ p ∈ L, PairOk n p
theorem RdBk.known {n : Nat} {t : Str} {L : List (Str × Tr)} (B : RdBk n t L) : (nameB t && decide (1 ≤ L.length) && decide (L.length ≤ 400) && (L.all fun p => keyB p.1 && (am p.2).isNone) && decide (L.map (·.1)).Nodup) = true := by
  have h1 : (L.all fun p => keyB p.1 && (am p.2).isNone) = true := List.all_eq_true.mpr fun p m => by rw [(B.all p m).1, (B.all p m).2]; rfl
  simp [B.top, B.pos, B.len, B.nd, h1]
/-- what is asked of the rows of a turn -/
structure GoodR (rows : List Str) : Prop where
  rb : ∀ s ∈ rows, RB 50000 55 s
  len : rows.length ≤ 950
theorem GoodR.ok {rows : List Str} (h : GoodR rows) : ∀ s ∈ rows, RowOk 60 s := fun s m => (h.rb s m).ok (by decide) (by decide)
end GM
namespace GM
open PySem L2 GS
section
variable {Fi Fd Ft Fb Fw Fk Fc : FF}
end
end GM
namespace GM
open PySem L2 GS
end GM
namespace GM
open PySem L2 GS
section
variable {Fi Fd Ft Fb Fc Fk : FF}
end
end GM
namespace GM
open PySem L2 GS
section
variable {Fi Fd Ft Fb Fc Fk : FF}
def keyK (k : Nat) : Str := Str.ofString "k" ++ ((toString (k : Int) : String) : Str)
theorem keyK_all : ((List.range 401).all fun k => decide ((keyK k).length ≤ 10) && decide ((k : Int).natAbs.log2 < 1920) && PyData.strOk (keyK k)) = true := by decide +kernel
end
end GM
namespace GM
open PySem L2 GS
end GM
namespace GS
open PySem L2
section
variable {ρ : Rho}
end
end GS
namespace GS
open PySem L2 PySem.Spec PyProof.Rows PySem.W PySem.Calls
/-- v is a tuple of these numbers -/
def IsTI (h : Heap) (v : Value) (ns : List Int) : Prop := ∃ (a : Addr) (its : List Value), v = .ref a ∧ h.IsTuple a its.toArray ∧ IntsAre its ns
theorem IsTI.keeps {h h' : Heap} {v : Value} {ns : List Int} (x : IsTI h v ns) (k : ∀ b o, v = .ref b → h.get? b = some o → h'.get? b = some o) : IsTI h' v ns := by
  obtain ⟨a, its, e, ⟨o, ho, hc, n, hd⟩, hi⟩ := x
  exact ⟨a, its, e, ⟨o, k a o e ho, hc, n, hd⟩, hi⟩
section
variable {M : Model} {A : Around} {E : Value → Shared → Prop} {s : Shared}
theorem IsTI.type {v : Value} {ns : List Int} (x : IsTI s.heap v ns) : Looks M s.heap (typeOf v) (.type "tuple") := by
  obtain ⟨a, its, rfl, ⟨o, ho, hc, n, hd⟩, hi⟩ := x
  rw [← hc]
  exact (Looks.ld ho).andThen .now
end
section
variable {prog : Program} {w : World} {A : Around} {E : Value → Shared → Prop} {s : Shared}
end
section
variable {prog : Program} {w : World} {A : Around} {E : Value → Shared → Prop} {s : Shared}
end
section
variable {X : Cx}
end
end GS
namespace GS
open PySem L2 PySem.Spec PyProof.Rows
def TI (K : PySem.W.Frag) (H : Hp) (x : V) (ns : List Int) : Prop := ∃ t, x = V.ref t ∧ SqT K H t (ns.map V.int)
section
variable {X : Cx}
end
section
variable {K : KW} {B H : Hp}
end
end GS
namespace GS
open PySem L2
end GS
namespace L2
open PySem PySem.W PySem.Calls PySem.Spec PyProof.Rows
section
variable {X : Cx} {pins : List (Addr × Obj)} {σ : St} {H : Hp} {s : Shared}
end
end L2
namespace GS
open PySem L2
section
variable {K : KW} {ρ : Rho} {σ : St} {B H : Hp} {v x y : V} {Q : VK}
/-- a new dict that nobody holds -/
theorem newD (S : Sim K ρ σ B H) {ps : List (D × D)} {p : Addr} {ep : Nat} {b : Bool} {xs : List (NestedKey × Value × Value)} (hp : H p = none) (h : RpX K B b xs ps) (k : ∀ v B' H', Sim K ρ σ B' H' → Ext ρ σ B H ρ σ B' H' → HdOk K (New ρ σ H) ρ σ B' H' v (.fr (.dict ps)) → Q v H') :
    Q (.ref p) (upd H p (dX K.w p ep xs)) := by
  obtain ⟨S', x⟩ := S.newH hp (dX K.w p ep xs)
  obtain ⟨bb, n⟩ := S.free hp
  exact k _ _ _ S' x ⟨p, rfl, bb, ⟨ep, b, xs, upd_same, h⟩, n, .inl hp⟩
end
section
variable {X : Cx} {C : Ct} {pos : Pos}
end
end GS
namespace GS
open PySem L2 RT
section
variable {X : Cx} {C : Ct} {ρ ρ1 : Rho} {σ σ1 : St} {B H B1 H1 : Hp} {e tg : Expr} {te : TE} {fe : EF} {pos p : Pos} {K : KW}
end
end GS
namespace GS
open PySem L2 PySem.Spec PyProof.Rows PySem.W PySem.Calls
section
variable {prog : Program} {w : World} {A : Around} {E : Value → Shared → Prop} {s : Shared}
end
section
variable {X : Cx}
end
section
variable {K : KW} {B H : Hp}
end
end GS
namespace GS
open PySem L2 PySem.Spec PyProof.Rows
/-- a def's promise where no repr is under way -/
structure FnG (P : Program) (w : World) (K : PySem.W.Frag) (mg : Str → Option Value) (base : Heap) (k : Nat) (f : Addr) (fd : FuncData) (ps : List Str) (sp : Sp) : Prop where
  ln : ∀ vs H Q E, sp vs H Q E → vs.length = ps.length
  go : ∀ (A : Around) (out : List Env) (t : Shared) (H : Hp) (ar : Args) (zs : List Value) (vs : List V) (Q : VK) (E : XK),
    A.guards = some [] → Room k A → Env0 P w K mg base A out t H → BindsTo t fd ar (ps.zip zs) → Vals vs zs → sp vs H Q E →
    codeAny (model P w) A (.call (.ref f) ar) (CR (L2.CX P w) out P w H t Q E) t
theorem FnG.of {P : Program} {w : World} {K : PySem.W.Frag} {mg : Str → Option Value} {base : Heap} {k : Nat} {f : Addr} {fd : FuncData} {ps : List Str} {sp : Sp} (F : FnOk P w K mg base (L2.CX P w) k f fd ps sp) : FnG P w K mg base k f fd ps sp :=
  ⟨F.len, fun A o t H ar zs vs Q E _ => F.run A o t H ar zs vs Q E⟩
section
variable {P : Program} {w : World} {K : PySem.W.Frag} {mg : Str → Option Value} {base : Heap}
theorem fnG_fun {x qual : Str} {st : Stmt} {f : Addr} {fd : FuncData} {N ps : List Str} {k : Nat} {sp : Sp} (F : Fun K x qual st f fd) (S : FnScope N ps (defScope st)) (ln : ∀ vs H Q E, sp vs H Q E → vs.length = ps.length)
    (hb : ∀ (cdv : Value) (A : Around) (out : List Env) (t : Shared) (H : Hp) (vs : List V) (Q : VK) (E : XK), A.guards = some [] → Room k (A.deeper (envOfC qual (defScope st) t.heap.objs.size f cdv)) → sp vs H Q E →
      ∃ r, PSs (cxOf (L2.CX P w) P w K mg base N qual (defScope st) f cdv A out t H E) (defBody st) r ∧ r { nx := fun _ H' => Q .non H', rt := Q } (start N vs) H) : FnG P w K mg base (k + 1) f fd ps sp := by
  obtain ⟨oc, od, kV, doc, pm, an, cdv, ct, osl, rfl, look, code⟩ := F.ex
  refine ⟨ln, fun A out t H ar zs vs Q E hg room en bd rv hsp => ?_⟩
  have hin := en.mod.kin.keeps fun b o e => (en.bs b o e).1
  have hnl := en.mod.nolimit.keeps fun b o e => (en.bs b o e).1
  refine codeAny_call_function room.depth (hin _ _ look) rfl S.co S.gen rfl (PySem.W.codeRec_of hin code) (bd _ _ _ _ ?_)
  refine wpAny_newFunctionEnv_cells S.kind (fun y my => ?_) fun env ev s1 nw => ?_
  · obtain ⟨n, v⟩ := y
    have := S.par n (List.of_mem_zip my).1
    exact this.imp id fun q => ⟨q, PySem.W.cellsFrom_some _ _ _ (.inl q)⟩
  subst ev
  obtain ⟨r, hr, hq⟩ := hb cdv A out t H vs Q E hg (room.deeper _) hsp
  refine ⟨hnl.keeps nw.toInCall.keep, codeAny_func (wpAny_mono (hr.run [] s1 (start N vs) H _ (inv_start S room.hd en (ln _ _ _ _ hsp) rv nw) hq) (fun fl s' hs => ?_) fun e s' hs => hs)⟩
  cases fl with
  | ret u => obtain ⟨v, _, H', J, rv, q⟩ := hs; exact ⟨v, H', J.os, J.bare, J.base, J.hok, rv, q⟩
  | next => obtain ⟨_, H', J, q⟩ := hs; exact ⟨.non, H', J.os, J.bare, J.base, J.hok, rfl, q⟩
  | brk => obtain ⟨_, _, _, q⟩ := hs; exact q.elim
  | cont => obtain ⟨_, _, _, q⟩ := hs; exact q.elim
end
section
variable {P : Program} {w : World} {K : KW} {mg : Str → Option Value} {base : Heap} {cv : Str → Value}
theorem fnG_of {x qual : Str} {st : Stmt} {f : Addr} {fd : FuncData} (N : List Str) {ps : List Str} {k m n : Nat} {g : SF} (hm : N.length = m) (hn : ps.length = n) (F : Fun K x qual st f fd) (S : FnScope N ps (defScope st))
    (hb : ∀ (cdv : Value) (A : Around) (outer : List Env) (s : Shared) (H : Hp) (E : XK), A.guards = some [] → Room k (cxF P w K mg base N qual st f cdv A outer s H E).A → Takes (cxF P w K mg base N qual st f cdv A outer s H E) (ctF K cv E).W →
      PassesOwn (model P w) (cxF P w K mg base N qual st f cdv A outer s H E).A (cxF P w K mg base N qual st f cdv A outer s H E).env (cxF P w K mg base N qual st f cdv A outer s H E).xe →
      ∃ t, SSs (cxF P w K mg base N qual st f cdv A outer s H E) (ctF K cv E) (defBody st) t g) :
    FnG P w K mg base (k + 1) f fd ps (spF K cv n (fnF m n g)) := by
  subst hm hn
  have hpl : ps.length ≤ N.length := by have := congrArg List.length S.pre; rw [List.length_take] at this; omega
  refine fnG_fun F S (fun vs H Q E h => ?_) (fun cdv A outer s H vs Q E hg hr h => ?_)
  · obtain ⟨ρ, B, hl, Sm, _⟩ := h
    have := Sm.len
    rw [List.length_map] at this
    omega
  · obtain ⟨ρ, B, hl, Sm, gd⟩ := h
    have hv : vs.length = ps.length := by
      have := Sm.len
      rw [List.length_map] at this
      omega
    obtain ⟨t, ht⟩ := hb cdv A outer s H E hg hr (takes_of rfl rfl rfl rfl) (passes_of rfl)
    refine ⟨t, ht.ps, ht.lk (ρ ++ List.replicate (N.length - ps.length) none) _ B H _ (by rw [← hv]; exact entry_sim Sm (by omega)) ?_⟩
    unfold fnF at gd
    cases eg : g (ρ ++ List.replicate (N.length - ps.length) none) with
    | stuck => rw [eg] at gd; exact gd
    | bk _ => rw [eg] at gd; exact gd.elim
    | ct _ => rw [eg] at gd; exact gd.elim
    | nx ρ1 =>
      rw [eg] at gd
      intro σ1 B1 H1 S1 x1
      obtain ⟨S2, x2, _, _⟩ := exit_sim Sm hl S1 x1
      exact gd .non B1 H1 S2 x2 .non
    | exc c ρ1 =>
      rw [eg] at gd
      intro cls dct σ1 B1 H1 S1 x1 ok
      obtain ⟨S2, x2, _, _⟩ := exit_sim Sm hl S1 x1
      exact gd cls dct B1 H1 S2 x2 ok
    | rt h ρ1 =>
      rw [eg] at gd
      intro v σ1 B1 H1 S1 x1 y1
      obtain ⟨S2, x2, n1, n2⟩ := exit_sim Sm hl S1 x1
      cases h with
      | sh d => exact gd v B1 H1 S2 x2 y1
      | fr d =>
        obtain ⟨a, r1, r2, r3, r4, r5⟩ := y1
        exact gd v B1 H1 S2 x2 ⟨a, r1, r2, r3, fun z => r4 (n1 a z), n2 a r5⟩
      | bw i => exact gd.elim
theorem fnG_zero {f : Addr} {fd : FuncData} {ps : List Str} {n : Nat} (hn : n = ps.length) : FnG P w K mg base 0 f fd ps (spF K cv n fun _ => .stuck) := .of (fn_zero hn)
end
section
variable {X : Cx} {C : Ct} {k n : Nat} {f : Addr} {fd : FuncData} {ps : List Str} {sp : Sp} {W : L2.St → XK} {x : Str} {p pos : Pos} {e e0 : Expr} {es : List Expr} {t : TA} {t0 : TE} {F : FF} {g : AF} {f0 : EF}
end
def rRepr (K : PySem.W.Frag) : List V → Hp → VK → Prop := fun vs H Q => ∃ (a : Addr) (d : PyData), vs = [V.ref a] ∧ Dp K H (V.ref a) d ∧ d.showable = true ∧ d.hasDict = false ∧ d.depth ≤ 64 ∧ d.shown.length ≤ sizeLine ∧ Q (.str d.shown) H
theorem cr_repr {X : Cx} (gd : X.A.guards = some []) (hu : X.A.units + 199 < cLine) : CallR X (.builtin "repr") (rRepr X.K) := by
  intro pins s σ H vs us Q I r h
  obtain ⟨a, d, rfl, hd, h1, h2, h3, h4, q⟩ := h
  obtain ⟨u, rfl, ru⟩ := vals1 r
  obtain rfl : u = Value.ref a := ru
  obtain ⟨as, rd⟩ := Dp.reads I d _ _ hd rfl
  exact repr_of_reads' rd h1 (fun z => by rw [h2] at z; cases z) gd (by omega) (fun _ _ e => e) (fun h' u tk hk => ⟨.str d.shown, H, I.kept hk, ⟨u, rfl⟩, q⟩) h4
def reprD : D → Option Hd
  | .tuple ds => if okEq (.tuple ds) && ((PyData.tuple ds).showable && decide ((PyData.tuple ds).shown.length ≤ sizeLine)) then some (.sh (.str (PyData.tuple ds).shown)) else none
  | _ => none
theorem cl_repr {K : KW} : CalL K (rRepr K) (un1 reprD) := CalL.one fun ρ σ B H x d h Q S t e k => by
  cases d <;> first | (cases (show none = some h from e); done) | skip
  rename_i ds
  obtain ⟨c, rfl⟩ := if_some (show (if okEq (.tuple ds) && ((PyData.tuple ds).showable && decide ((PyData.tuple ds).shown.length ≤ sizeLine)) then some (Hd.sh (.str (PyData.tuple ds).shown)) else none) = some h from e)
  simp only [okEq, Bool.and_eq_true, decide_eq_true_eq] at c
  obtain ⟨⟨c1, c2⟩, c3, c4⟩ := c
  have t' := Tp.rp S.bh t
  obtain ⟨a, vs, rfl, _, _⟩ := Tp.tupX t
  have c2' := c2
  unfold SeqAt.shaped at c2'
  simp only [Bool.and_eq_true, decide_eq_true_eq] at c2'
  exact ⟨a, _, rfl, t'.dp _ c1, c3, PyData.hasDict_of_canLay _ c2'.1, c2'.2, c4, now S (.str _) k⟩
def rInT (neg : Bool) : R2 := fun x y H Q => ∃ i j, x = .str i ∧ y = .str j ∧ Q (.bl (neg ^^ !(Builtin.Str.occurrences j i 0 j.length 1).isEmpty)) H
theorem op_inT {X : Cx} : OpR X (compareOp .In) (rInT false) := by
  intro pins s σ H x y u v Q I rx ry h
  obtain ⟨i, j, ex, ey, q⟩ := h
  exact op_in_str pins s σ H x y u v Q I rx ry ⟨i, j, ex, ey, by rwa [Bool.false_xor] at q⟩
def occB (i j : Str) : Bool := !(Builtin.Str.occurrences j i 0 j.length 1).isEmpty
def inT (neg : Bool) : D → D → Option Hd
  | .str i, .str j => some (.sh (.bool (neg ^^ occB i j)))
  | _, _ => none
theorem ol_inT {K : KW} (neg : Bool) : OpL K (rInT neg) (inT neg) := fun ρ σ B H x y dx dy h Q S tx ty e k => by
  cases dx <;> first | (cases dy <;> first | (cases (show none = some h from e); done) | skip) | skip
  cases e
  exact ⟨_, _, tx.str, ty.str, now S (.bl _) k⟩
@[simp] theorem inT_s (neg : Bool) (i j : Str) : inT neg (.str i) (.str j) = some (.sh (.bool (neg ^^ occB i j))) := rfl
end GS
namespace GS
open PySem L2 PySem.Spec PyProof.Rows
theorem lawG_call {P : Program} {w : World} {K : PySem.W.Frag} {gl bl : Str → Option Value} {k : Nat} {fa a : Addr} {fd : FuncData} {x : Str} {sp : Sp} {t : Shared} {vs : List Value} {ns : List Int}
    (kin : K.In t.heap) (n1 : t.heap.Ns mainGlobals gl) (n2 : t.heap.Ns builtinsNs bl) (n3 : ∀ y : Str, y ≠ "__name__" → bl y = bootBuiltins y) (lim : t.heap.NoLimit) (gens : t.gens = #[])
    (at0 : t.heap.get? a = some { cls := .type "list", data := .seq vs.toArray }) (its : IntsAre vs ns) (few : ns.length ≤ sizeLine) (room : Room k callerA)
    (G : ∀ bs : Heap, K.In bs → bs.Ns mainGlobals gl → FnG P w K gl bs k fa fd [x] sp) (bd : ∀ (s : Shared) (u : Value), BindsTo s fd ⟨[u], []⟩ [(x, u)])
    (pr : ∀ J : Hp, Only J → SqL K J a (ns.map V.int) → sp [.ref a] J (fun v _ => v = .bl true) fun _ _ _ => False)
    (nx : ∀ J e s', L2.CX P w [] J t (fun _ _ _ => False) e s' → False) :
    codeAny (model P w) callerA (.call (.ref fa) ⟨[.ref a], []⟩) (fun r s' => r = .ok (.ret (.bool true)) ∧ OldK t.heap s'.heap ∧ s'.os = t.os ∧ AllBare s'.gens) t := by
  have vi := vals_ints its
  have vl := its.length
  have inner : ∀ J : Hp, Only J → SqL K J a (ns.map V.int) → HOk P w J t.heap → (∀ b, J b ≠ none → b = a) → (J a ≠ none → K.lookup a = none) →
      codeAny (model P w) callerA (.call (.ref fa) ⟨[.ref a], []⟩) (fun r s' => r = .ok (.ret (.bool true)) ∧ OldK t.heap s'.heap ∧ s'.os = t.os ∧ AllBare s'.gens) t := by
    intro J oJ sJ kJ aJ lJ
    have dictFree : ∀ {b : Addr} {o : Obj} {es : Array DictEntry} {ep : Nat}, t.heap.get? b = some o → o.data = .dict es ep → J b = none := fun {b o es ep} hb hd => by
      cases q : J b with
      | none => rfl
      | some u =>
        obtain rfl : b = a := aJ b (by rw [q]; simp)
        rw [at0] at hb
        cases hb
        cases (show Data.seq vs.toArray _ = Data.dict es ep from hd)
    have keepNs : ∀ {b : Addr} {m : Str → Option Value}, t.heap.Ns b m → (hidT t.heap J).Ns b m := fun {b m} ⟨o, es, ep, hb, hd, r⟩ => ⟨o, es, ep, hidT_get hb (dictFree hb hd), hd, r⟩
    have kin' : K.In (hidT t.heap J) := fun b o hb => hidT_get (kin b o hb) (by
      cases q : J b with
      | none => rfl
      | some u =>
        obtain rfl : b = a := aJ b (by rw [q]; simp)
        rw [lJ (by rw [q]; simp)] at hb
        cases hb)
    have md : Mod K gl (hidT t.heap J) := ⟨kin', keepNs n1, ⟨bl, keepNs n2, n3⟩, let ⟨mc, c1, c2⟩ := lim; ⟨mc, keepNs c1, c2⟩⟩
    have en : Env0 P w K gl (hidT t.heap J) callerA [] t J := ⟨rfl, md, fun b o hb => of_hidT hb, Nat.le_of_eq (hidT_size _ _), trivial, fun b hb => absurd (show b ∈ ([] : List Addr) from hb) (by simp), kJ, .of_eq gens⟩
    refine codeAny_mono ((G _ kin' (keepNs n1)).go callerA [] t J ⟨[.ref a], []⟩ [.ref a] [.ref a] _ _ rfl room en (bd t (.ref a)) (.cons rfl .nil) (pr J oJ sJ)) fun r s' h => ?_
    match r, h with
    | .error z, h => exact (nx J z s' h).elim
    | .ok (.ret u), h =>
      obtain ⟨v, J', os, bare, un, kJ', rv, q⟩ := h
      obtain rfl : v = .bl true := q
      obtain rfl : u = Value.bool true := rv
      refine ⟨rfl, OldK.of_keep fun b o hb => ?_, os, bare⟩
      rcases oJ b with z | ⟨ob, xs, z⟩
      · exact un.keep b o hb z (by intro y; exact absurd (show b ∈ ([] : List Addr) from y) (by simp)) (by simp)
      · have y1 := (kJ b _ z).1
        have y2 := (kJ' b _ (un.frzs b ob _ z)).1
        rw [hb] at y1
        cases y1
        exact y2
  cases hk : K.lookup a with
  | some o =>
    have hb := kin a o hk
    rw [at0] at hb
    cases hb
    exact inner (fun _ => none) (fun _ => .inl rfl) (.inr ⟨_, vs.toArray, _, hk, rfl, rfl, rfl, by rw [List.size_toArray, vl]; exact few, by simpa using vi⟩) (fun b u z => by cases (show (none : Option HO) = some u from z)) (fun b z => absurd rfl z) fun z => absurd rfl z
  | none =>
    refine inner (fun b => if b = a then some (.frz { cls := .type "list", data := .seq vs.toArray } (.lst (ns.map V.int))) else none) (fun b => ?_) (.inl (.inr ⟨{ cls := .type "list", data := .seq vs.toArray }, if_pos rfl⟩)) (fun b u z => ?_) (fun b z => ?_) fun _ => hk
    all_goals by_cases eb : b = a
    · exact .inr ⟨_, _, if_pos eb⟩
    · exact .inl (if_neg eb)
    · cases (if_pos eb).symm.trans z
      subst eb
      exact ⟨at0, by rw [List.length_map]; exact few, vs, _, vi, at0⟩
    · cases (if_neg eb).symm.trans z
    · exact eb
    · exact absurd (if_neg eb) z
theorem walkG_of {l : PySem.W.OpenLaw} {n k : Nat} {q : Program} {loose : List Str} {XP : (Str → Option Value) → Heap → Prop} {YP : World → Heap → Prop} {d : DefRec} {K : Params → PySem.W.Frag} {sp : World → Sp} {x : Str}
    (most : l.most = some n) (line : n ≤ sizeLine) (nodf : d.params.defaults = []) (room : Room k callerA) (hY : ∀ (w : World) (h : Heap), YP w h → (K w.params).In h)
    (F : ∀ (w : World) (mg : Str → Option Value) (fa : Addr) (h : Heap), (K w.params).In h → h.Ns mainGlobals mg → mg d.name = some (.ref fa) →
      ∃ fd : FuncData, (∀ (s : Shared) (u : Value), BindsTo s fd ⟨[u], []⟩ [(x, u)]) ∧ ∀ bs : Heap, (K w.params).In bs → bs.Ns mainGlobals mg → FnG l.prog w (K w.params) mg bs k fa fd [x] (sp w))
    (hsp : ∀ (w : World) (J : Hp) (a : Addr) (ns : List Int), ns.length ≤ n → Only J → SqL (K w.params) J a (ns.map V.int) → sp w [.ref a] J (fun v _ => v = .bl true) fun _ _ _ => False)
    (hCX : ∀ (w : World) (J : Hp) (s : Shared) (e : Value) (s' : Shared), L2.CX l.prog w [] J s (fun _ _ _ => False) e s' → False) :
    PySem.W.WalkO q loose XP YP l.row.toRowW d [] (fun f vs => PySem.call f vs) := by
  refine Att.attach_call most nodf fun w s0 s1 mg mb fa o pm cd doc a vs ns G Y ho hd hcd hmg hobj hints hlen hg => ?_
  obtain ⟨fd, hb, hF⟩ := F w mg fa _ (hY w _ Y) G.T.g hmg
  exact lawG_call (hY w _ Y) G.T.g G.T.b G.T.builtins G.T.nolimit hg hobj hints (Nat.le_trans hlen line) room hF hb (fun J oJ sJ => hsp w J a ns hlen oJ sJ) fun J e s' => hCX w J s1 e s'
end GS
namespace GS
open PySem L2
theorem reprD_t {ds : List D} (h1 : okEq (.tuple ds) = true) (h2 : (PyData.tuple ds).showable = true) (h3 : (PyData.tuple ds).shown.length ≤ sizeLine) : reprD (.tuple ds) = some (.sh (.str (PyData.tuple ds).shown)) := by
  show (if _ then _ else _) = _
  rw [h1, h2, decide_eq_true h3]
  rfl
end GS
namespace GM
open PySem L2 GS
/-- _law_is_book(thing); slots 0:thing 1:keys 2:one -/
def m_law_is_book_b1 (F__law_amiss F__law_is_tree F__law_is_key F__law_is_name : FF) : SF := (sKill [2] (sSeq (sIf (eOr (eNot (eB (eIsi isTup (eVb 2)))) (eOr (eB (eBin (eqB true) (eCB (un1 lenD) (aCons (eVb 2) aNil)) (eC (.int 2)))) (eOr (eNot (eB (eIsi isStr (eBin ixA (eVb 2) (eC (.int 0)))))) (eNot (eB (eCall 1 none F__law_is_key (aCons (eBin ixA (eVb 2) (eC (.int 0))) aNil))))))) (sEnd (sRet (eC (.bool false)))) sNil) (sSeq (sIf (eOr (eB (eBin (inB false) (eBin ixA (eVb 2) (eC (.int 0))) (eVb 1))) (eOr (eNot (eB (eCall 1 none F__law_is_tree (aCons (eBin ixA (eVb 2) (eC (.int 1))) aNil)))) (eB (eBin (eqB true) (eCall 1 none F__law_amiss (aCons (eBin ixA (eVb 2) (eC (.int 1))) aNil)) (eC (.str (Str.ofString ""))))))) (sEnd (sRet (eC (.bool false)))) sNil) (sApp 1 (eBin ixA (eVb 2) (eC (.int 0)))))))
def m_law_is_book (F__law_amiss F__law_is_tree F__law_is_key F__law_is_name : FF) : SF := (sSeq (sIf (eOr (eNot (eB (eIsi isTup (eVb 0)))) (eOr (eB (eBin (eqB true) (eCB (un1 lenD) (aCons (eVb 0) aNil)) (eC (.int 2)))) (eOr (eNot (eB (eIsi isStr (eBin ixA (eVb 0) (eC (.int 0)))))) (eNot (eB (eCall 1 none F__law_is_name (aCons (eBin ixA (eVb 0) (eC (.int 0))) aNil))))))) (sEnd (sRet (eC (.bool false)))) sNil) (sSeq (sIf (eOr (eNot (eB (eIsi isTup (eBin ixA (eVb 0) (eC (.int 1)))))) (eOr (eB (eBin (eqB false) (eCB (un1 lenD) (aCons (eBin ixA (eVb 0) (eC (.int 1))) aNil)) (eC (.int 0)))) (eB (eBin (ltI fun i j => decide (j < i)) (eCB (un1 lenD) (aCons (eBin ixA (eVb 0) (eC (.int 1))) aNil)) (eC (.int 400)))))) (sEnd (sRet (eC (.bool false)))) sNil) (sSeq (sSet 1 (eLst aNil)) (sSeq (sFor (iSq (eBin ixA (eVb 0) (eC (.int 1)))) (gN 2) (m_law_is_book_b1 F__law_amiss F__law_is_tree F__law_is_key F__law_is_name)) (sEnd (sRet (eC (.bool true))))))))
theorem m_law_is_book_eq (F__law_amiss F__law_is_tree F__law_is_key F__law_is_name : FF) (ρ : Rho) : fnF 3 1 (m_law_is_book F__law_amiss F__law_is_tree F__law_is_key F__law_is_name) ρ = finR 1 (m_law_is_book F__law_amiss F__law_is_tree F__law_is_key F__law_is_name (ρ ++ [none, none])) := fnF_eq 3 1 _
end GM
namespace GM
open PySem L2 GS
mutual
def ndD : D → Nat
  | .tuple ds => 1 + ndL ds
  | .list ds => 1 + ndL ds
  | _ => 1
def ndL : List D → Nat
  | [] => 0
  | d :: ds => ndD d + ndL ds
end
theorem ndL_mem {ds : List D} {d : D} (m : d ∈ ds) : ndD d ≤ ndL ds := by
  induction ds with
  | nil => cases m
  | cons e ds ih =>
    rw [ndL]
    cases m with
    | head => omega
    | tail _ m => have := ih m; omega
structure GdD (n : Nat) (d : D) : Prop where
  cl : cleanB d = true
  sz : szB d = true
  dep : d.depth ≤ n
  nd : ndD d ≤ 100000
theorem GdD.mem {n : Nat} {ds : List D} (h : GdD (n + 1) (.tuple ds)) {d : D} (m : d ∈ ds) : GdD n d := by
  obtain ⟨h1, h2, h3, h4⟩ := h
  rw [cleanB] at h1
  rw [szB] at h2
  rw [PyData.depth] at h3
  rw [ndD] at h4
  have := dep_mem m
  have := ndL_mem m
  exact ⟨cleanL_mem h1 d m, szL_mem h2 d m, by omega, by omega⟩
theorem tree_dec : ∀ (n : Nat) (d : D), d.depth ≤ n → isTree d = true → ∃ t : Tr, d = t.enc ∧ t.ok = true
  | 0, d, h, ht => by
    cases d with
    | tuple ds => rw [PyData.depth] at h; omega
    | _ => simp [isTree] at ht
  | n + 1, d, h, ht => by
    have ih := tree_dec n
    unfold isTree at ht
    split at ht
    · rename_i w r
      split at ht
      · rename_i hw
        subst hw
        split at ht
        · rename_i nm tk ks
          simp only [Bool.and_eq_true, decide_eq_true_eq] at ht
          obtain ⟨h1, h2, h3, h4, h5⟩ := ht
          have hd : ∀ k ∈ ks, k.depth ≤ n := fun k mk => by
            have := dep_mem mk
            simp only [PyData.depth, PyData.depthAll] at h
            omega
          rw [isTreeL_all, List.all_eq_true] at h5
          obtain ⟨ts, hts, hok⟩ : ∃ ts : List Tr, ks = ts.map Tr.enc ∧ ∀ t ∈ ts, t.ok = true := by
            clear h h3 h4 h1 h2
            induction ks with
            | nil => exact ⟨[], rfl, by simp⟩
            | cons k ks ihk =>
              obtain ⟨t, e, o⟩ := ih k (hd k (by simp)) (h5 k (by simp))
              obtain ⟨ts, e2, o2⟩ := ihk (fun k m => h5 k (by simp [m])) (fun k m => hd k (by simp [m]))
              refine ⟨t :: ts, by rw [List.map_cons, e, e2], fun u mu => ?_⟩
              rcases List.mem_cons.mp mu with rfl | mu
              · exact o
              · exact o2 u mu
          obtain ⟨tk', etk, otk⟩ : ∃ tk' : Option (Str × Bool), tk = encTk tk' ∧ okTk tk' = true := by
            unfold takesB at h2
            split at h2
            · exact ⟨none, rfl, rfl⟩
            · rename_i m c; exact ⟨some (m, c), rfl, h2⟩
            · cases h2
          refine ⟨.knot nm tk' ts, by rw [enc_knot, etk, hts], ?_⟩
          rw [hts, List.length_map] at h3 h4
          simp only [Tr.ok, Bool.and_eq_true, decide_eq_true_eq]
          exact ⟨h1, otk, h3, h4, okL_of hok⟩
        · cases ht
      · split at ht
        · rename_i hw
          subst hw
          cases r with
          | nil => exact ⟨.void, rfl, rfl⟩
          | cons a r => cases ht
        · split at ht
          · rename_i s
            split at ht
            · rename_i hw; subst hw; exact ⟨.sign s, rfl, ht⟩
            · split at ht
              · rename_i hw; subst hw; exact ⟨.hole s, rfl, ht⟩
              · split at ht
                · rename_i hw; subst hw; exact ⟨.foot s, rfl, ht⟩
                · cases ht
          · cases ht
    · cases ht
mutual
theorem ht_dep : ∀ t : Tr, t.ht ≤ t.enc.depth
  | .knot n tk ks => by
    have := htL_dep ks
    simp only [Tr.ht, Tr.enc, PyData.depth, PyData.depthAll]
    omega
  | .sign s => by simp [Tr.ht]
  | .void => by simp [Tr.ht]
  | .hole s => by simp [Tr.ht]
  | .foot s => by simp [Tr.ht]
theorem htL_dep : ∀ ts : List Tr, Tr.htL ts ≤ PyData.depthAll (Tr.encL ts)
  | [] => by simp [Tr.htL]
  | t :: ts => by
    have h1 := ht_dep t
    have h2 := htL_dep ts
    simp only [Tr.htL, Tr.encL, PyData.depthAll]
    omega
end
mutual
theorem pc_nd : ∀ t : Tr, t.pieces.length ≤ ndD t.enc
  | .knot n tk ks => by
    have := pcL_nd ks
    simp only [Tr.pieces, Tr.enc, ndD, ndL, List.length_cons]
    omega
  | .sign s => by simp [Tr.pieces, Tr.enc, ndD, ndL]
  | .void => by simp [Tr.pieces, Tr.enc, ndD, ndL]
  | .hole s => by simp [Tr.pieces, Tr.enc, ndD, ndL]
  | .foot s => by simp [Tr.pieces, Tr.enc, ndD, ndL]
theorem pcL_nd : ∀ ts : List Tr, (Tr.piecesL ts).length ≤ ndL (Tr.encL ts)
  | [] => by simp [Tr.piecesL]
  | t :: ts => by
    have h1 := pc_nd t
    have h2 := pcL_nd ts
    simp only [Tr.piecesL, Tr.encL, ndL, List.length_append]
    omega
end
/-- a key and a start or graft -/
noncomputable def entD (d : D) : Bool := @decide (∃ p : Str × Tr, d = encKT p ∧ keyB p.1 = true ∧ p.2.ok = true ∧ am p.2 = none) (Classical.propDecidable _)
theorem entD_iff {d : D} : entD d = true ↔ ∃ p : Str × Tr, d = encKT p ∧ keyB p.1 = true ∧ p.2.ok = true ∧ am p.2 = none := by
  unfold entD
  exact @decide_eq_true_iff _ (Classical.propDecidable _)
theorem entD_f {d : D} (h : ¬ ∃ p : Str × Tr, d = encKT p ∧ keyB p.1 = true ∧ p.2.ok = true ∧ am p.2 = none) : entD d = false := by
  cases e : entD d with
  | false => rfl
  | true => exact absurd (entD_iff.mp e) h
theorem entD_no {d : D} (h : ∀ k x, d ≠ .tuple [.str k, x]) : entD d = false := entD_f fun ⟨p, e, _⟩ => h _ _ e
theorem entD_key {k : Str} {x : D} (h : keyB k = false) : entD (.tuple [.str k, x]) = false := by
  refine entD_f fun ⟨p, e, hk, _⟩ => ?_
  cases e
  rw [h] at hk
  cases hk
theorem entD_tree {k : Str} {x : D} (h : isTree x = false) : entD (.tuple [.str k, x]) = false := by
  refine entD_f fun ⟨p, e, hk, ho, _⟩ => ?_
  cases e
  rw [isTree_enc p.2 ho] at h
  cases h
mutual
theorem enc_inj : ∀ t u : Tr, t.enc = u.enc → t = u
  | .knot n tk ks, u, h => by
    cases u with
    | knot n' tk' ks' =>
      simp only [Tr.enc] at h
      injection h with h
      injection h with _ h
      injection h with h1 h
      injection h with h2 h
      injection h with h3 _
      injection h1 with h1
      injection h3 with h3
      have e2 : tk = tk' := by
        cases tk with
        | none => cases tk' with
          | none => rfl
          | some w => cases h2
        | some w => cases tk' with
          | none => cases h2
          | some w' => obtain ⟨a, b⟩ := w; obtain ⟨a', b'⟩ := w'; cases h2; rfl
      rw [h1, e2, encL_inj ks ks' h3]
    | _ => simp [Tr.enc] at h
  | .sign s, u, h => by cases u <;> simp [Tr.enc] at h <;> simp [h]
  | .void, u, h => by cases u <;> simp [Tr.enc] at h <;> rfl
  | .hole s, u, h => by cases u <;> simp [Tr.enc] at h <;> simp [h]
  | .foot s, u, h => by cases u <;> simp [Tr.enc] at h <;> simp [h]
theorem encL_inj : ∀ ts us : List Tr, Tr.encL ts = Tr.encL us → ts = us
  | [], us, h => by
    cases us with
    | nil => rfl
    | cons u us => simp [Tr.encL] at h
  | t :: ts, us, h => by
    cases us with
    | nil => simp [Tr.encL] at h
    | cons u us =>
      simp only [Tr.encL] at h
      injection h with h1 h2
      rw [enc_inj t u h1, encL_inj ts us h2]
end
theorem entD_enc {k : Str} {t : Tr} (hk : keyB k = true) (ho : t.ok = true) : entD (.tuple [.str k, t.enc]) = (am t).isNone := by
  rw [Bool.eq_iff_iff, entD_iff, Option.isNone_iff_eq_none]
  constructor
  · rintro ⟨p, e, _, _, h⟩
    unfold encKT at e
    injection e with e
    injection e with e1 e
    injection e with e2 _
    rw [enc_inj t p.2 e2]
    exact h
  · intro h
    exact ⟨(k, t), rfl, hk, ho, h⟩
def EntDSp (n : Nat) (F : FF) : Prop := ∀ d : D, GdD n d → F [some ⟨d, .sh⟩] = .ok (.sh (.bool (entD d))) [none]
theorem is_entry_okD {n : Nat} {Fa Ft Fk : FF} (ha : AmissSp n Fa) (ht : TreeSp n Ft) (hk : KeySp Fk) : EntDSp (n + 1) (fnF 1 1 (m_is_entry Fa Ft Fk)) := fun d g => by
  rw [m_is_entry_eq]
  cases d with
  | tuple ds =>
    match ds, g with
    | [], g => rw [entD_no (by intro k x e; cases e)]; simp [m_is_entry]
    | [a], g => rw [entD_no (by intro k x e; cases e)]; cases a <;> simp [m_is_entry]
    | a :: b :: c :: r, g =>
      rw [entD_no (by intro k x e; cases e)]
      have z : ¬ ((r.length : Int) + 1 + 1 + 1 = 2) := by omega
      simp [m_is_entry, z]
    | [a, x], g =>
      cases a with
      | str k =>
        have gk := g.mem (d := .str k) (by simp)
        have gx := g.mem (d := x) (by simp)
        have e3 := hk k (szB_s gk.sz)
        have e2 := ht x gx.sz gx.dep
        cases q1 : keyB k with
        | false => rw [q1] at e3; rw [entD_key q1]; simp [m_is_entry, e3]
        | true =>
          rw [q1] at e3
          cases q2 : isTree x with
          | false => rw [q2] at e2; rw [entD_tree q2]; simp [m_is_entry, e3, e2]
          | true =>
            rw [q2] at e2
            obtain ⟨t, rfl, ok⟩ := tree_dec n x gx.dep q2
            have h1 := ht_dep t
            have h2 := pc_nd t
            have gd := gx.dep
            have gn := gx.nd
            have e1 := ha t (by omega) (by omega)
            rw [entD_enc q1 ok]
            generalize t.enc = te at e1 e2
            simp [m_is_entry, e3, e2, e1]
      | _ => rw [entD_no (by intro k x e; cases e)]; simp [m_is_entry, isStr]
  | _ => rw [entD_no (by intro k x e; cases e)]; simp [m_is_entry, isTup]
end GM
namespace GM
open PySem L2 GS
def keyOf : D → Str
  | .tuple (.str k :: _) => k
  | _ => default
theorem ent_form {d : D} (h : entD d = true) : ∃ p : Str × Tr, d = encKT p ∧ keyB p.1 = true ∧ p.2.ok = true ∧ am p.2 = none ∧ keyOf d = p.1 := by
  obtain ⟨p, rfl, h1, h2, h3⟩ := entD_iff.mp h
  exact ⟨p, rfl, h1, h2, h3, rfl⟩
noncomputable def bookD : D → Bool
  | .tuple [.str top, .tuple es] => nameB top && (decide (1 ≤ es.length) && (decide (es.length ≤ 400) && (es.all entD && decide ((es.map keyOf).Nodup))))
  | _ => false
theorem bookD_no {d : D} (h : ∀ top es, d ≠ .tuple [.str top, .tuple es]) : bookD d = false := by
  unfold bookD
  split
  · exact absurd rfl (h _ _)
  · rfl
def BookDSp (n : Nat) (F : FF) : Prop := ∀ d : D, GdD n d → F [some ⟨d, .sh⟩] = .ok (.sh (.bool (bookD d))) [none]
theorem prog_loop {n : Nat} {Fe Fn : FF} (he : EntDSp n Fe) (d : D) : ∀ (es : List D) (acc : List Str), acc.length + es.length ≤ 200000 → (∀ e ∈ es, GdD n e) →
    forL (gN 2) (m_is_book_b1 Fe Fn) es [some ⟨d, .sh⟩, some ⟨.list (acc.map .str), .ow⟩, none] = if es.all entD then .nx [some ⟨d, .sh⟩, some ⟨.list ((acc ++ es.map keyOf).map .str), .ow⟩, none] else .rt (.sh (.bool false)) [none, none, none]
  | [], acc, _, _ => by simp
  | e :: es, acc, hl, g => by
    rw [List.length_cons] at hl
    have e1 := he e (g e (by simp))
    have z : acc.length < sizeLine := fitsl (by omega)
    rw [forL_cons2, List.all_cons]
    cases q : entD e with
    | true =>
      rw [q] at e1
      obtain ⟨p, rfl, _, _, _, hk⟩ := ent_form q
      have st : optR (gN 2 (encKT p) [some ⟨d, .sh⟩, some ⟨.list (acc.map .str), .ow⟩, none]) (m_is_book_b1 Fe Fn) = .nx [some ⟨d, .sh⟩, some ⟨.list ((acc ++ [p.1]).map .str), .ow⟩, none] := by
        unfold encKT at e1 ⊢
        simp [m_is_book_b1, e1, z]
      rw [st, turnR_nx, prog_loop he d es (acc ++ [p.1]) (by simp; omega) fun e m => g e (by simp [m])]
      rw [Bool.true_and, List.map_cons, hk, List.append_assoc]
      rfl
    | false =>
      rw [q] at e1
      have st : optR (gN 2 e [some ⟨d, .sh⟩, some ⟨.list (acc.map .str), .ow⟩, none]) (m_is_book_b1 Fe Fn) = .rt (.sh (.bool false)) [none, none, none] := by
        simp [m_is_book_b1, e1]
      rw [st]
      simp
theorem law_loop {n : Nat} {Fa Ft Fk Fn : FF} (ha : LAmiss n Fa) (ht : LTreeSp n Ft) (hk : KeySp Fk) (d : D) : ∀ (es : List D) (acc : List Str), acc.length + es.length ≤ 200000 → acc.Nodup → (∀ k ∈ acc, keyB k = true) → (∀ e ∈ es, GdD (n + 1) e) →
    forL (gN 2) (m_law_is_book_b1 Fa Ft Fk Fn) es [some ⟨d, .sh⟩, some ⟨.list (acc.map .str), .ow⟩, none] = if es.all entD && decide ((acc ++ es.map keyOf).Nodup) then .nx [some ⟨d, .sh⟩, some ⟨.list ((acc ++ es.map keyOf).map .str), .ow⟩, none] else .rt (.sh (.bool false)) [none, none, none]
  | [], acc, _, nd, _, _ => by simp [nd]
  | e :: es, acc, hl, nd, ka, g => by
    rw [List.length_cons] at hl
    have ge := g e (by simp)
    have z : acc.length < sizeLine := fitsl (by omega)
    rw [forL_cons2, List.all_cons]
    -- one turn
    have turn : optR (gN 2 e [some ⟨d, .sh⟩, some ⟨.list (acc.map .str), .ow⟩, none]) (m_law_is_book_b1 Fa Ft Fk Fn) = if entD e && decide (keyOf e ∉ acc) then .nx [some ⟨d, .sh⟩, some ⟨.list ((acc ++ [keyOf e]).map .str), .ow⟩, none] else .rt (.sh (.bool false)) [none, none, none] := by
      cases e with
      | tuple ds =>
        match ds, ge with
        | [], ge => rw [entD_no (by intro k x e; cases e)]; simp [m_law_is_book_b1]
        | [a], ge => rw [entD_no (by intro k x e; cases e)]; cases a <;> simp [m_law_is_book_b1]
        | a :: b :: c :: r, ge =>
          rw [entD_no (by intro k x e; cases e)]
          have z : ¬ ((r.length : Int) + 1 + 1 + 1 = 2) := by omega
          simp [m_law_is_book_b1, z]
        | [a, x], ge =>
          cases a with
          | str k =>
            have gk := ge.mem (d := .str k) (by simp)
            have gx := ge.mem (d := x) (by simp)
            have e3 := hk k (szB_s gk.sz)
            have e2 := ht x gx.cl gx.sz gx.dep
            have hko : keyOf (.tuple [.str k, x]) = k := rfl
            rw [hko]
            cases q1 : keyB k with
            | false => rw [q1] at e3; rw [entD_key q1]; simp [m_law_is_book_b1, e3]
            | true =>
              rw [q1] at e3
              have ein := in_strs false k acc (keyB_strOk q1) fun k' m => keyB_strOk (ka k' m)
              by_cases qi : k ∈ acc
              · rw [decide_eq_true qi] at ein
                rw [decide_eq_false (fun h => h qi), Bool.and_false]
                generalize acc.map PyData.str = ac at ein
                simp [m_law_is_book_b1, e3, ein]
              · rw [decide_eq_false qi] at ein
                rw [decide_eq_true qi, Bool.and_true]
                cases q2 : isTree x with
                | false =>
                  rw [q2] at e2
                  rw [entD_tree q2]
                  generalize acc.map PyData.str = ac at ein
                  simp [m_law_is_book_b1, e3, ein, e2]
                | true =>
                  rw [q2] at e2
                  obtain ⟨t, rfl, ok⟩ := tree_dec n x gx.dep q2
                  have h1 := ht_dep t
                  have h2 := pc_nd t
                  have gd := gx.dep
                  have gn := gx.nd
                  have e1 := ha t (by omega) (by omega)
                  rw [entD_enc q1 ok]
                  cases q3 : am t with
                  | none =>
                    rw [q3] at e1
                    dsimp only [Option.getD_none] at e1
                    rw [List.map_append]
                    have z' : (acc.map PyData.str).length < sizeLine := by rw [List.length_map]; exact z
                    generalize acc.map PyData.str = ac at ein z'
                    generalize t.enc = te at e1 e2
                    simp [m_law_is_book_b1, e3, ein, e2, e1, z']
                  | some w =>
                    rw [q3] at e1
                    dsimp only [Option.getD_some] at e1
                    have hw : ¬ w = Str.ofString "" := by
                      unfold am at q3
                      split at q3
                      · cases q3; decide +kernel
                      · split at q3
                        · cases q3; decide +kernel
                        · split at q3
                          · cases q3; decide +kernel
                          · split at q3
                            · cases q3; decide +kernel
                            · cases q3
                    generalize acc.map PyData.str = ac at ein
                    generalize t.enc = te at e1 e2
                    simp [m_law_is_book_b1, e3, ein, e2, e1, hw]
          | _ => rw [entD_no (by intro k x e; cases e)]; simp [m_law_is_book_b1, isStr]
      | _ => rw [entD_no (by intro k x e; cases e)]; simp [m_law_is_book_b1, isTup]
    rw [turn]
    cases q : entD e with
    | false => simp
    | true =>
      obtain ⟨p, rfl, kp, _, _, hk'⟩ := ent_form q
      rw [hk', Bool.true_and, Bool.true_and, List.map_cons, hk']
      by_cases qi : p.1 ∈ acc
      · have nn : ¬ (acc ++ p.1 :: es.map keyOf).Nodup := fun h => by
          rw [List.nodup_append] at h
          exact h.2.2 _ qi _ List.mem_cons_self rfl
        rw [decide_eq_false (fun h => h qi), decide_eq_false nn, Bool.and_false]
        simp
      · rw [decide_eq_true qi, if_pos rfl, turnR_nx]
        have nd' : (acc ++ [p.1]).Nodup := by
          rw [List.nodup_append]
          refine ⟨nd, by simp, fun a ha b hb => ?_⟩
          simp at hb
          subst hb
          intro e
          subst e
          exact qi ha
        rw [law_loop ha ht hk d es (acc ++ [p.1]) (by simp; omega) nd' (fun k m => (List.mem_append.mp m).elim (ka k) fun m => by simp at m; subst m; exact kp) fun e m => g e (by simp [m])]
        rw [List.append_assoc]
        rfl
theorem bookD_eq (top : Str) (es : List D) : bookD (.tuple [.str top, .tuple es]) = (nameB top && (decide (1 ≤ es.length) && (decide (es.length ≤ 400) && (es.all entD && decide ((es.map keyOf).Nodup))))) := rfl
theorem is_book_okD {n : Nat} {Fe Fn : FF} (he : EntDSp n Fe) (hn : NameSp Fn) : BookDSp (n + 2) (fnF 3 1 (m_is_book Fe Fn)) := fun d g => by
  rw [m_is_book_eq]
  cases d with
  | tuple ds =>
    match ds, g with
    | [], g => rw [bookD_no (by intro k x e; cases e)]; simp [m_is_book]
    | [a], g => rw [bookD_no (by intro k x e; cases e)]; cases a <;> simp [m_is_book]
    | a :: b :: c :: r, g =>
      rw [bookD_no (by intro k x e; cases e)]
      have z : ¬ ((r.length : Int) + 1 + 1 + 1 = 2) := by omega
      simp [m_is_book, z]
    | [a, x], g =>
      cases a with
      | str top =>
        have gt := g.mem (d := .str top) (by simp)
        have gx := g.mem (d := x) (by simp)
        have e1 := hn top (szB_s gt.sz)
        cases x with
        | tuple es =>
          have ge : ∀ e ∈ es, GdD n e := fun e m => gx.mem m
          have el : es.length ≤ 100000 := by
            have h4 := gx.nd
            rw [ndD] at h4
            have : ∀ l : List D, l.length ≤ ndL l := fun l => by
              induction l with
              | nil => simp
              | cons a l ih => rw [ndL, List.length_cons]; have : 1 ≤ ndD a := by cases a <;> simp [ndD]
                               omega
            have := this es
            omega
          have lp := prog_loop (Fn := Fn) he (.tuple [.str top, .tuple es]) es [] (by simp; omega) ge
          simp only [List.nil_append, List.map_nil] at lp
          rw [bookD_eq]
          cases q1 : nameB top with
          | false => rw [q1] at e1; simp [m_is_book, e1]
          | true =>
            rw [q1] at e1
            by_cases q2 : 1 ≤ es.length
            · have q2' : (1 : Int) ≤ es.length := by omega
              by_cases q3 : es.length ≤ 400
              · have q3' : (es.length : Int) ≤ 400 := by omega
                rw [decide_eq_true q2, decide_eq_true q3]
                cases q4 : es.all entD with
                | false =>
                  rw [q4] at lp
                  simp only [Bool.false_eq_true, if_false] at lp
                  simp [m_is_book, e1, q2, q2', q3, q3', lp]
                | true =>
                  rw [q4] at lp
                  simp only [if_true] at lp
                  have ls := lsD_strs (ρ := [some ⟨.tuple [.str top, .tuple es], .sh⟩, some ⟨.list ((es.map keyOf).map .str), .ow⟩, none]) (es.map keyOf) (by simp; omega)
                  have hu := uq_full ((es.map keyOf).map (Sum.inr : Str → Key))
                  rw [inr_nodup, List.length_map] at hu
                  have hkl : (es.map keyOf).length = es.length := by simp
                  rw [hkl] at hu
                  generalize es.map keyOf = ks at lp ls hu hkl
                  by_cases q5 : ks.Nodup
                  · have h5 := hu.mpr q5
                    have h5' : ((uq (ks.map (Sum.inr : Str → Key))).length : Int) = (es.length : Int) := by omega
                    simp [m_is_book, e1, q2, q2', q3, q3', lp, ls, h5', q5, h5, hkl]
                  · have h5 : ¬ _ := fun h => q5 (hu.mp h)
                    have h5' : ¬ ((uq (ks.map (Sum.inr : Str → Key))).length : Int) = (es.length : Int) := by omega
                    simp [m_is_book, e1, q2, q2', q3, q3', lp, ls, h5', q5, h5, hkl]
              · have q3' : ¬ (es.length : Int) ≤ 400 := by omega
                rw [decide_eq_true q2, decide_eq_false q3]
                simp [m_is_book, e1, q2, q2', q3, q3']
            · have q2' : ¬ (1 : Int) ≤ es.length := by omega
              rw [decide_eq_false q2]
              simp [m_is_book, e1, q2, q2']
        | _ =>
          rw [bookD_no (by intro k x e; cases e)]
          cases q1 : nameB top <;> rw [q1] at e1 <;> simp [m_is_book, e1, isTup]
      | _ => rw [bookD_no (by intro k x e; cases e)]; simp [m_is_book, isStr]
  | _ => rw [bookD_no (by intro k x e; cases e)]; simp [m_is_book, isTup]
theorem law_is_book_ok {n : Nat} {Fa Ft Fk Fn : FF} (ha : LAmiss n Fa) (ht : LTreeSp n Ft) (hk : KeySp Fk) (hn : NameSp Fn) : BookDSp (n + 3) (fnF 3 1 (m_law_is_book Fa Ft Fk Fn)) := fun d g => by
  rw [m_law_is_book_eq]
  cases d with
  | tuple ds =>
    match ds, g with
    | [], g => rw [bookD_no (by intro k x e; cases e)]; simp [m_law_is_book]
    | [a], g => rw [bookD_no (by intro k x e; cases e)]; cases a <;> simp [m_law_is_book]
    | a :: b :: c :: r, g =>
      rw [bookD_no (by intro k x e; cases e)]
      have z : ¬ ((r.length : Int) + 1 + 1 + 1 = 2) := by omega
      simp [m_law_is_book, z]
    | [a, x], g =>
      cases a with
      | str top =>
        have gt := g.mem (d := .str top) (by simp)
        have gx := g.mem (d := x) (by simp)
        have e1 := hn top (szB_s gt.sz)
        cases x with
        | tuple es =>
          have ge : ∀ e ∈ es, GdD (n + 1) e := fun e m => gx.mem m
          have el : es.length ≤ 100000 := by
            have h4 := gx.nd
            rw [ndD] at h4
            have : ∀ l : List D, l.length ≤ ndL l := fun l => by
              induction l with
              | nil => simp
              | cons a l ih => rw [ndL, List.length_cons]; have : 1 ≤ ndD a := by cases a <;> simp [ndD]
                               omega
            have := this es
            omega
          have lp := law_loop (Fn := Fn) ha ht hk (.tuple [.str top, .tuple es]) es [] (by simp; omega) (by simp) (by simp) ge
          simp only [List.nil_append, List.map_nil] at lp
          rw [bookD_eq]
          cases q1 : nameB top with
          | false => rw [q1] at e1; simp [m_law_is_book, e1]
          | true =>
            rw [q1] at e1
            by_cases q2 : 1 ≤ es.length
            · have q2' : ¬ (es.length : Int) = 0 := by omega
              have q2'' : ¬ es = [] := fun h => by rw [h] at q2; simp at q2
              by_cases q3 : es.length ≤ 400
              · have q3' : ¬ (400 : Int) < es.length := by omega
                rw [decide_eq_true q2, decide_eq_true q3]
                cases q4 : (es.all entD && decide ((es.map keyOf).Nodup)) with
                | false =>
                  rw [q4] at lp
                  simp only [Bool.false_eq_true, if_false] at lp
                  simp [m_law_is_book, e1, q2', q2'', q3', lp]
                | true =>
                  rw [q4] at lp
                  simp only [if_true] at lp
                  generalize es.map keyOf = ks at lp
                  simp [m_law_is_book, e1, q2', q2'', q3', lp]
              · have q3' : (400 : Int) < es.length := by omega
                rw [decide_eq_true q2, decide_eq_false q3]
                simp [m_law_is_book, e1, q2', q2'', q3']
            · have q2' : es = [] := List.eq_nil_of_length_eq_zero (by omega)
              subst q2'
              simp [m_law_is_book, e1]
        | _ =>
          rw [bookD_no (by intro k x e; cases e)]
          cases q1 : nameB top <;> rw [q1] at e1 <;> simp [m_law_is_book, e1, isTup]
      | _ => rw [bookD_no (by intro k x e; cases e)]; simp [m_law_is_book, isStr]
  | _ => rw [bookD_no (by intro k x e; cases e)]; simp [m_law_is_book, isTup]
end GM
namespace GM
open PySem L2 GS
/-- _law_bent(book, cell); slots 0:book 1:cell 2:foot 3:a 4:odd 5:some 6:more 7:spot 8:top 9:trees 10:key 11:tree 12:one -/
def m_law_bent_7_ce1 (F__law_deep F__law_wide : FF) : EF := (eTup (aCons (eMv 8) (aCons (eBin addD (eBin addD (eSl (eVb 9) none (some (eVb 7))) (eTup (aCons (eMv 12) aNil))) (eSl (eVb 9) (some (eVb 7)) none)) aNil)))
def m_law_bent_7_ce2 (F__law_deep F__law_wide : FF) : EF := (eTup (aCons (eC (.str (Str.ofString "zz"))) (aCons (eMv 12) aNil)))
def m_law_bent_7_ce3 (F__law_deep F__law_wide : FF) : EF := (eTup (aCons (eMv 12) (aCons (eMv 11) aNil)))
def m_law_bent_7 (F__law_deep F__law_wide : FF) : SF := (sSeq (sUnp (gT 2 (gsC (gN 8) (gsC (gN 9) gsN))) (eMv 0)) (sSeq (sUnp (gT 2 (gsC (gN 10) (gsC (gN 11) gsN))) (eBin ixA (eVb 9) (eBin modD (eVb 1) (eCB (un1 lenD) (aCons (eVb 9) aNil))))) (sSeq (sSet 2 (eTup (aCons (eC (.str (Str.ofString "foot"))) (aCons (eC (.str (Str.ofString "S"))) aNil)))) (sSeq (sSet 3 (eTup (aCons (eC (.str (Str.ofString "sign"))) (aCons (eC (.str (Str.ofString "a"))) aNil)))) (sSeq (sSet 4 (eLst (aCons (eTup (aCons (eC (.str (Str.ofString "knot"))) (aCons (eC (.str (Str.ofString "S"))) (aCons (eC .none) (aCons (eTup (aCons (eMv 2) (aCons (eMv 3) (aCons (eMv 2) aNil)))) aNil))))) (aCons (eTup (aCons (eC (.str (Str.ofString "knot"))) (aCons (eC (.str (Str.ofString "S"))) (aCons (eC .none) (aCons (eTup (aCons (eTup (aCons (eC (.str (Str.ofString "void"))) aNil)) (aCons (eMv 2) aNil))) aNil))))) (aCons (eMv 3) (aCons (eMv 2) (aCons (eC .none) (aCons (eCall 1 none F__law_wide (aCons (eC (.int 60)) aNil)) aNil)))))))) (sSeq (sSet 4 (eBin addD (eVb 4) (eLst (aCons (eCall 1 none F__law_wide (aCons (eC (.int 61)) aNil)) (aCons (eCall 1 none F__law_deep (aCons (eC (.int 11)) aNil)) (aCons (eCall 1 none F__law_deep (aCons (eC (.int 12)) aNil)) (aCons (eTup (aCons (eC (.str (Str.ofString "knot"))) (aCons (eC (.str (Str.ofString "S"))) (aCons (eC .none) (aCons (eTup (aCons (eC (.str (Str.ofString "a"))) aNil)) aNil))))) (aCons (eTup (aCons (eC (.str (Str.ofString "knot"))) (aCons (eC (.str (Str.ofString "S"))) (aCons (eC (.int 5)) (aCons (eTup (aCons (eMv 3) aNil)) aNil))))) aNil)))))))) (sSeq (sSet 4 (eBin addD (eVb 4) (eLst (aCons (eTup (aCons (eC (.str (Str.ofString "knot"))) (aCons (eC (.str (Str.ofString "s"))) (aCons (eC .none) (aCons (eTup (aCons (eMv 3) aNil)) aNil))))) (aCons (eTup (aCons (eC (.str (Str.ofString "knot"))) (aCons (eC (.str (Str.ofString "S"))) (aCons (eC .none) (aCons (eTup (aCons (eTup (aCons (eC (.str (Str.ofString "hole"))) (aCons (eC (.str (Str.ofString "x"))) aNil))) (aCons (eMv 3) aNil))) aNil))))) aNil))))) (sSeq (sSet 4 (eBin addD (eVb 4) (eLst (aCons (eTup (aCons (eC (.str (Str.ofString "knot"))) (aCons (eC (.str (Str.ofString "S"))) (aCons (eC .none) (aCons (eTup (aCons (eMv 2) (aCons (eMv 3) (aCons (eTup (aCons (eC (.str (Str.ofString "foot"))) (aCons (eC (.str (Str.ofString "X"))) aNil))) aNil)))) aNil))))) (aCons (eTup (aCons (eC (.str (Str.ofString "knot"))) (aCons (eC (.str (Str.ofString "S"))) (aCons (eC .none) (aCons (eTup (aCons (eTup (aCons (eC (.str (Str.ofString "foot"))) (aCons (eC (.str (Str.ofString "X"))) aNil))) (aCons (eMv 3) aNil))) aNil))))) aNil))))) (sSeq (sSet 5 (eLst (aCons (eLst (aCons (eMv 8) (aCons (eMv 9) aNil))) (aCons (eTup (aCons (eMv 8) (aCons (eCB (un1 listD) (aCons (eVb 9) aNil)) aNil))) (aCons (eTup (aCons (eMv 8) (aCons (eTup aNil) aNil))) (aCons (eTup (aCons (eMv 8) aNil)) (aCons (eTup (aCons (eMv 8) (aCons (eMv 9) (aCons (eMv 9) aNil)))) (aCons (eTup (aCons (eC (.str (Str.ofString "s"))) (aCons (eMv 9) aNil))) (aCons (eTup (aCons (eC .none) (aCons (eMv 9) aNil))) (aCons (eC .none) aNil)))))))))) (sSeq (sApp 4 (eTup (aCons (eC (.str (Str.ofString "knot"))) (aCons (eC (.str (Str.ofString "S"))) (aCons (eC .none) (aCons (eTup (aCons (eTup (aCons (eC (.str (Str.ofString "knot"))) (aCons (eC (.str (Str.ofString "S"))) (aCons (eC .none) (aCons (eTup (aCons (eMv 2) aNil)) aNil))))) (aCons (eTup (aCons (eC (.str (Str.ofString "knot"))) (aCons (eC (.str (Str.ofString "S"))) (aCons (eC .none) (aCons (eTup (aCons (eMv 2) (aCons (eMv 3) aNil))) aNil))))) aNil))) aNil)))))) (sSeq (sSet 5 (eBin addD (eVb 5) (eLst (aCons (eTup (aCons (eBin mulA (eC (.str (Str.ofString "A"))) (eC (.int 24))) (aCons (eMv 9) aNil))) (aCons (eTup (aCons (eBin mulA (eC (.str (Str.ofString "A"))) (eC (.int 25))) (aCons (eMv 9) aNil))) (aCons (eTup (aCons (eMv 8) (aCons (eTup (aCons (eTup aNil) aNil)) aNil))) aNil)))))) (sSeq (sSet 6 (eLst (aCons (eTup (aCons (eMv 10) (aCons (eMv 11) aNil))) (aCons (eLst (aCons (eC (.str (Str.ofString "zz"))) (aCons (eMv 11) aNil))) (aCons (eTup (aCons (eC (.str (Str.ofString "zz"))) (aCons (eMv 11) (aCons (eC (.int 1)) aNil)))) (aCons (eTup aNil) aNil)))))) (sSeq (sSet 6 (eBin addD (eVb 6) (eLc [12] (iSq (eLst (aCons (eC (.str (Str.ofString "A"))) (aCons (eC (.str (Str.ofString "0a"))) (aCons (eC (.str (Str.ofString ""))) (aCons (eC (.str (Str.ofString "a b"))) (aCons (eBin mulA (eC (.str (Str.ofString "z"))) (eC (.int 24))) (aCons (eBin mulA (eC (.str (Str.ofString "z"))) (eC (.int 25))) (aCons (eC (.int 5)) (aCons (eC .none) (aCons (eLst (aCons (eC (.str (Str.ofString "a"))) aNil)) aNil))))))))))) (gN 12) (eNox eYes) (eNox (m_law_bent_7_ce3 F__law_deep F__law_wide))))) (sSeq (sSet 6 (eBin addD (eVb 6) (eLc [12] (iSq (eMv 4)) (gN 12) (eNox eYes) (eNox (m_law_bent_7_ce2 F__law_deep F__law_wide))))) (sSeq (sSet 7 (eBin modD (eBin divD (eBin modD (eBin powD (eBin addD (eBin modD (eVb 1) (eC (.int 1000003))) (eC (.int 1))) (eC (.int 5))) (eC (.int 2147483647))) (eC (.int 8))) (eBin addD (eCB (un1 lenD) (aCons (eVb 9) aNil)) (eC (.int 1))))) (sSeq (sSet 5 (eBin addD (eVb 5) (eLc [12] (iSq (eMv 6)) (gN 12) (eNox eYes) (eNox (m_law_bent_7_ce1 F__law_deep F__law_wide))))) (sEnd (sRet (eBin ixA (eVb 5) (eBin modD (eBin divD (eVb 1) (eC (.int 13))) (eCB (un1 lenD) (aCons (eVb 5) aNil))))))))))))))))))))))
theorem m_law_bent_7_eq (F__law_deep F__law_wide : FF) (ρ : Rho) : fnF 13 2 (m_law_bent_7 F__law_deep F__law_wide) ρ = finR 2 (m_law_bent_7 F__law_deep F__law_wide (ρ ++ [none, none, none, none, none, none, none, none, none, none, none])) := fnF_eq 13 2 _
end GM
namespace GM
open PySem L2 GS
structure Gd2 (n m : Nat) (d : D) : Prop where
  cl : cleanB d = true
  sz : szB d = true
  dep : d.depth ≤ n
  nd : ndD d ≤ m
theorem Gd2.up {n m n' m' : Nat} {d : D} (h : Gd2 n m d) (h1 : n ≤ n') (h2 : m ≤ m') : Gd2 n' m' d := ⟨h.cl, h.sz, Nat.le_trans h.dep h1, Nat.le_trans h.nd h2⟩
theorem ndL_le {m : Nat} : ∀ {ds : List D}, (∀ d ∈ ds, ndD d ≤ m) → ndL ds ≤ ds.length * m
  | [], _ => by simp [ndL]
  | d :: ds, h => by
    have h1 := h d (by simp)
    have h2 := ndL_le (ds := ds) fun d m => h d (by simp [m])
    rw [ndL, List.length_cons, Nat.add_mul]
    omega
theorem Gd2.tup {n m k : Nat} {ds : List D} (h : ∀ d ∈ ds, Gd2 n m d) (hk : ds.length ≤ k) : Gd2 (n + 1) (1 + k * m) (.tuple ds) := by
  refine ⟨by rw [cleanB]; exact cleanL_of fun d m => (h d m).cl, by rw [szB]; exact szL_of fun d m => (h d m).sz, ?_, ?_⟩
  · rw [PyData.depth]
    have := depthAll_of fun d m => (h d m).dep
    omega
  · rw [ndD]
    have := ndL_le fun d m => (h d m).nd
    have := Nat.mul_le_mul_right m hk
    omega
theorem Gd2.lst {n m k : Nat} {ds : List D} (h : ∀ d ∈ ds, Gd2 n m d) (hk : ds.length ≤ k) : Gd2 (n + 1) (1 + k * m) (.list ds) := by
  refine ⟨by rw [cleanB]; exact cleanL_of fun d m => (h d m).cl, by rw [szB]; exact szL_of fun d m => (h d m).sz, ?_, ?_⟩
  · rw [PyData.depth]
    have := depthAll_of fun d m => (h d m).dep
    omega
  · rw [ndD]
    have := ndL_le fun d m => (h d m).nd
    have := Nat.mul_le_mul_right m hk
    omega
theorem Gd2.str {s : Str} (h1 : PyData.strOk s = true) (h2 : s.length ≤ 100000) : Gd2 0 1 (.str s) := ⟨h1, by rw [szB]; exact Nat.ble_eq_true_of_le h2, by simp [PyData.depth], by simp [ndD]⟩
theorem Gd2.gd {n m : Nat} {d : D} (h : Gd2 n m d) (h2 : m ≤ 100000) : GdD n d := ⟨h.cl, h.sz, h.dep, Nat.le_trans h.nd h2⟩
mutual
theorem nd_enc : ∀ t : Tr, ndD t.enc ≤ 9 * t.pieces.length
  | .knot n tk ks => by
    have h1 := ndL_enc ks
    have h2 : ndD (encTk tk) ≤ 3 := by cases tk <;> simp [encTk, ndD, ndL]
    simp only [Tr.enc, ndD, ndL, Tr.pieces, List.length_cons]
    omega
  | .sign s => by simp [Tr.enc, ndD, ndL, Tr.pieces]
  | .void => by simp [Tr.enc, ndD, ndL, Tr.pieces]
  | .hole s => by simp [Tr.enc, ndD, ndL, Tr.pieces]
  | .foot s => by simp [Tr.enc, ndD, ndL, Tr.pieces]
theorem ndL_enc : ∀ ts : List Tr, ndL (Tr.encL ts) ≤ 9 * (Tr.piecesL ts).length
  | [] => by simp [Tr.encL, ndL]
  | t :: ts => by
    have h1 := nd_enc t
    have h2 := ndL_enc ts
    simp only [Tr.encL, ndL, Tr.piecesL, List.length_append]
    omega
end
theorem TreeOk.gd {t : Tr} (T : TreeOk 3 t) : Gd2 7 450 t.enc := ⟨clean_enc t T.ok, sz_enc t T.ok, by have := depth_enc t; have := T.ht; omega, by have := nd_enc t; have := T.sz; omega⟩
def kn1 (n tk : D) (ks : List D) : D := .tuple [.str (Str.ofString "knot"), n, tk, .tuple ks]
def oddD : List D := [(kS [fS, aS, fS]).enc, (kS [.void, fS]).enc, aS.enc, fS.enc, .none, (wideT 3).enc, (wideT 4).enc, (deepT 11).enc, (deepT 12).enc, kn1 (.str (Str.ofString "S")) .none [.str (Str.ofString "a")], kn1 (.str (Str.ofString "S")) (.int 5) [aS.enc],
  kn1 (.str (Str.ofString "s")) .none [aS.enc], kn1 (.str (Str.ofString "S")) .none [.tuple [.str (Str.ofString "hole"), .str (Str.ofString "x")], aS.enc], kn1 (.str (Str.ofString "S")) .none [fS.enc, aS.enc, .tuple [.str (Str.ofString "foot"), .str (Str.ofString "X")]],
  kn1 (.str (Str.ofString "S")) .none [.tuple [.str (Str.ofString "foot"), .str (Str.ofString "X")], aS.enc], (kS [kS [fS], kS [fS, aS]]).enc]
theorem oddD_ok : (oddD.all fun d => cleanB d && szB d && decide (d.depth ≤ 26) && decide (ndD d ≤ 450)) = true := by decide +kernel
theorem oddD_gd {d : D} (m : d ∈ oddD) : Gd2 26 450 d := by
  have := List.all_eq_true.mp oddD_ok d m
  simp only [Bool.and_eq_true, decide_eq_true_eq] at this
  exact ⟨this.1.1.1, this.1.1.2, this.1.2, this.2⟩
theorem zA25 : ∃ z : Str, mulA (.str (Str.ofString "A")) (.int 25) = some (.sh (.str z)) ∧ z.length ≤ 100 ∧ PyData.strOk z = true := ⟨Txt.mul (Str.ofString "A") 25, by kernel_rfl, by decide +kernel, by decide +kernel⟩
theorem zA24 : ∃ z : Str, mulA (.str (Str.ofString "A")) (.int 24) = some (.sh (.str z)) ∧ z.length ≤ 100 ∧ PyData.strOk z = true := ⟨Txt.mul (Str.ofString "A") 24, by kernel_rfl, by decide +kernel, by decide +kernel⟩
def someD (top tr : D) (ts : List D) (A B : Str) : List D := [.list [top, tr], .tuple [top, .list ts], .tuple [top, .tuple []], .tuple [top], .tuple [top, tr, tr], .tuple [.str (Str.ofString "s"), tr], .tuple [.none, tr], .none, .tuple [.str A, tr], .tuple [.str B, tr], .tuple [top, .tuple [.tuple []]]]
def nineD (A B : Str) : List D := [.str (Str.ofString "A"), .str (Str.ofString "0a"), .str (Str.ofString ""), .str (Str.ofString "a b"), .str A, .str B, .int 5, .none, .list [.str (Str.ofString "a")]]
def moreD (key te : D) (A B : Str) : List D := [.tuple [key, te], .list [.str (Str.ofString "zz"), te], .tuple [.str (Str.ofString "zz"), te, .int 1], .tuple []] ++ (nineD A B).map (fun one => .tuple [one, te]) ++ oddD.map (fun one => .tuple [.str (Str.ofString "zz"), one])
theorem gd_lit {n m : Nat} {d : D} (h : (cleanB d && szB d && decide (d.depth ≤ n) && decide (ndD d ≤ m)) = true) : Gd2 n m d := by
  simp only [Bool.and_eq_true, decide_eq_true_eq] at h
  exact ⟨h.1.1.1, h.1.1.2, h.1.2, h.2⟩
theorem all2 {P : D → Prop} {a b : D} (ha : P a) (hb : P b) : ∀ d ∈ [a, b], P d := by
  intro d m
  simp only [List.mem_cons, List.not_mem_nil, or_false] at m
  rcases m with rfl | rfl <;> assumption
theorem all3 {P : D → Prop} {a b c : D} (ha : P a) (hb : P b) (hc : P c) : ∀ d ∈ [a, b, c], P d := by
  intro d m
  simp only [List.mem_cons, List.not_mem_nil, or_false] at m
  rcases m with rfl | rfl | rfl <;> assumption
theorem moreD_gd {key te : D} {A B : Str} (hk : Gd2 0 1 key) (ht : Gd2 7 450 te) (hA : Gd2 0 1 (.str A)) (hB : Gd2 0 1 (.str B)) : ∀ d ∈ moreD key te A B, Gd2 27 1400 d := fun d m => by
  have zz : Gd2 26 450 (.str (Str.ofString "zz")) := (gd_lit (n := 0) (m := 1) (by decide +kernel)).up (by omega) (by omega)
  have t' := ht.up (n' := 26) (m' := 450) (by omega) (by omega)
  unfold moreD at m
  rcases List.mem_append.mp m with m | m
  · rcases List.mem_append.mp m with m | m
    · simp only [List.mem_cons, List.not_mem_nil, or_false] at m
      rcases m with rfl | rfl | rfl | rfl
      · exact (Gd2.tup (k := 3) (all2 (hk.up (n' := 26) (m' := 450) (by omega) (by omega)) t') (by simp)).up (by omega) (by omega)
      · exact (Gd2.lst (k := 3) (all2 zz t') (by simp)).up (by omega) (by omega)
      · exact (Gd2.tup (k := 3) (all3 zz t' ((gd_lit (n := 0) (m := 1) (d := .int 1) (by decide +kernel)).up (by omega) (by omega))) (by simp)).up (by omega) (by omega)
      · exact (gd_lit (n := 1) (m := 1) (by decide +kernel)).up (by omega) (by omega)
    · obtain ⟨one, mo, rfl⟩ := List.mem_map.mp m
      have o : Gd2 26 450 one := by
        unfold nineD at mo
        simp only [List.mem_cons, List.not_mem_nil, or_false] at mo
        rcases mo with rfl | rfl | rfl | rfl | rfl | rfl | rfl | rfl | rfl
        · exact (gd_lit (n := 0) (m := 1) (by decide +kernel)).up (by omega) (by omega)
        · exact (gd_lit (n := 0) (m := 1) (by decide +kernel)).up (by omega) (by omega)
        · exact (gd_lit (n := 0) (m := 1) (by decide +kernel)).up (by omega) (by omega)
        · exact (gd_lit (n := 0) (m := 1) (by decide +kernel)).up (by omega) (by omega)
        · exact hA.up (by omega) (by omega)
        · exact hB.up (by omega) (by omega)
        · exact (gd_lit (n := 0) (m := 1) (by decide +kernel)).up (by omega) (by omega)
        · exact (gd_lit (n := 0) (m := 1) (by decide +kernel)).up (by omega) (by omega)
        · exact (gd_lit (n := 1) (m := 2) (by decide +kernel)).up (by omega) (by omega)
      exact (Gd2.tup (k := 3) (all2 o t') (by simp)).up (by omega) (by omega)
  · obtain ⟨one, mo, rfl⟩ := List.mem_map.mp m
    exact (Gd2.tup (k := 3) (all2 zz (oddD_gd mo)) (by simp)).up (by omega) (by omega)
theorem someD_gd {top : D} {ts : List D} {A B : Str} (hk : Gd2 0 1 top) (ht : ∀ d ∈ ts, Gd2 8 1400 d) (hl : ts.length ≤ 12) (hA : Gd2 0 1 (.str A)) (hB : Gd2 0 1 (.str B)) : ∀ d ∈ someD top (.tuple ts) ts A B, Gd2 30 60000 d := fun d m => by
  have tt : Gd2 9 16801 (.tuple ts) := Gd2.tup ht hl
  have tl : Gd2 9 16801 (.list ts) := Gd2.lst ht hl
  have k' := hk.up (n' := 9) (m' := 16801) (by omega) (by omega)
  have one : ∀ {x y : D}, Gd2 9 16801 x → Gd2 9 16801 y → Gd2 30 60000 (.tuple [x, y]) := fun hx hy => (Gd2.tup (k := 2) (all2 hx hy) (by simp)).up (by omega) (by omega)
  unfold someD at m
  simp only [List.mem_cons, List.not_mem_nil, or_false] at m
  rcases m with rfl | rfl | rfl | rfl | rfl | rfl | rfl | rfl | rfl | rfl | rfl
  · exact (Gd2.lst (k := 2) (all2 k' tt) (by simp)).up (by omega) (by omega)
  · exact one k' tl
  · exact one k' ((gd_lit (n := 1) (m := 1) (by decide +kernel)).up (by omega) (by omega))
  · exact (Gd2.tup (k := 2) (n := 9) (m := 16801) (by intro d m; simp at m; subst m; exact k') (by simp)).up (by omega) (by omega)
  · exact (Gd2.tup (k := 3) (all3 k' tt tt) (by simp)).up (by omega) (by omega)
  · exact one ((gd_lit (n := 0) (m := 1) (by decide +kernel)).up (by omega) (by omega)) tt
  · exact one ((gd_lit (n := 0) (m := 1) (by decide +kernel)).up (by omega) (by omega)) tt
  · exact (gd_lit (n := 0) (m := 1) (by decide +kernel)).up (by omega) (by omega)
  · exact one (hA.up (by omega) (by omega)) tt
  · exact one (hB.up (by omega) (by omega)) tt
  · exact one k' ((gd_lit (n := 2) (m := 2) (by decide +kernel)).up (by omega) (by omega))
end GM
namespace GM
open PySem L2 GS
theorem lcL_D {vs : List Nat} {g : D → Rho → Option Rho} {fe : EF} (ρ : Rho) (up : D → Rho) (el : D → D) (xs : List D) (acc : List D) (hl : acc.length + xs.length ≤ sizeLine)
    (k : ∀ a, a ∈ xs → g a ρ = some (up a) ∧ wipeR (up a) vs = ρ ∧ eCap fe (up a) = .ok (.sh (el a)) (up a)) :
    lcL vs g (eNox eYes) fe xs acc ρ = .ok (.fr (.list (acc ++ xs.map el))) ρ := by
  have := lcL_all (vs := vs) (g := g) (fe := fe) ρ (fun d : D => d) up el xs acc hl k
  simpa using this
def BentK (F : FF) : Prop := ∀ (b : Bk) (c : Int), BookOk 3 b → ∃ d, F [some ⟨b.enc, .sh⟩, some ⟨.int c, .sh⟩] = .ok (.sh d) [none, none] ∧ Gd2 40 60000 d
section
variable {Fd Fw : FF}
theorem law_bent_7_ok (hd11 : Fd [some ⟨.int 11, .sh⟩] = .ok (.sh (deepT 11).enc) [none]) (hd12 : Fd [some ⟨.int 12, .sh⟩] = .ok (.sh (deepT 12).enc) [none])
    (hw60 : Fw [some ⟨.int 60, .sh⟩] = .ok (.sh (wideT 3).enc) [none]) (hw61 : Fw [some ⟨.int 61, .sh⟩] = .ok (.sh (wideT 4).enc) [none]) : BentK (fnF 13 2 (m_law_bent_7 Fd Fw)) := fun b c B => by
  have hpos : 0 < b.trees.length := by have := B.pos; omega
  have lpos : (0 : Int) < (b.trees.length : Int) := by omega
  have blen := B.len
  obtain ⟨x1, ex1, mx1⟩ := at_in (xs := b.trees.map encKT) (c := c) (n := (b.trees.length : Int)) lpos (by simp)
  obtain ⟨p0, mp0, rfl⟩ := List.mem_map.mp mx1
  have T0 := B.trees p0 mp0
  have hkey : Gd2 0 1 (.str p0.1) := by
    have k1 := allK_ok p0.1 (B.keys p0 mp0)
    exact Gd2.str (keyB_strOk k1) (by have := (keyB_len k1); omega)
  have htop : Gd2 0 1 (.str b.top) := Gd2.str (nameB_strOk B.top) (by have := (nameB_len B.top); omega)
  obtain ⟨Z25, ez25, lz25, sz25⟩ := z25
  obtain ⟨Z24, ez24, lz24, sz24⟩ := z24
  obtain ⟨A25, ea25, la25, sa25⟩ := zA25
  obtain ⟨A24, ea24, la24, sa24⟩ := zA24
  obtain ⟨ts, hts⟩ : ∃ ts, b.trees.map encKT = ts := ⟨_, rfl⟩
  have tsl : ts.length = b.trees.length := by rw [← hts]; simp
  have tsg : ∀ d ∈ ts, Gd2 8 1400 d := fun d m => by
    rw [← hts] at m
    obtain ⟨p, mp, rfl⟩ := List.mem_map.mp m
    have k1 := allK_ok p.1 (B.keys p mp)
    have h1 : Gd2 0 1 (.str p.1) := Gd2.str (keyB_strOk k1) (by have := (keyB_len k1); omega)
    exact (Gd2.tup (k := 3) (all2 (h1.up (n' := 7) (m' := 450) (by omega) (by omega)) (B.trees p mp).gd) (by simp)).up (by omega) (by omega)
  have hbe : b.enc = .tuple [.str b.top, .tuple ts] := by rw [← hts]; rfl
  rw [hbe]
  rw [hts] at ex1
  rw [← tsl] at lpos ex1
  obtain ⟨key, t⟩ := p0
  dsimp only at hkey
  have tg := T0.gd
  dsimp only at tg
  have ex1' : L2.atI ts (c % (ts.length : Int)) = some (.tuple [.str key, t.enc]) := ex1
  generalize t.enc = te at ex1' tg
  obtain ⟨top, htp⟩ : ∃ top, b.top = top := ⟨_, rfl⟩
  rw [htp] at htop ⊢
  -- the spot
  have h1 := Int.emod_nonneg c (show (1000003 : Int) ≠ 0 by decide)
  have h2 := Int.emod_lt_of_pos c (show (0 : Int) < 1000003 by decide)
  have h3 : ∀ ρ : Rho, resO (powD (.int (c % 1000003 + 1)) (.int 5)) ρ = .ok (.sh (.int ((c % 1000003 + 1) ^ (5 : Nat)))) ρ := fun ρ => by
    rw [resO_pow (by decide) (by decide) (by omega)]
    rfl
  generalize (c % 1000003 + 1) ^ (5 : Nat) = y at h3
  have sp0 : (0 : Int) < (ts.length : Int) + 1 := by omega
  obtain ⟨sp, hsp, hsl⟩ : ∃ sp : Nat, y % 2147483647 / 8 % ((ts.length : Int) + 1) = (sp : Int) ∧ sp ≤ ts.length := by
    have g1 := Int.emod_nonneg (y % 2147483647 / 8) (show (ts.length : Int) + 1 ≠ 0 by omega)
    have g2 := Int.emod_lt_of_pos (y % 2147483647 / 8) sp0
    exact ⟨(y % 2147483647 / 8 % ((ts.length : Int) + 1)).toNat, by omega, by omega⟩
  have er : ∀ ρ : Rho, resO (modD (.int c) (.int (ts.length : Int))) ρ = .ok (.sh (.int (c % (ts.length : Int)))) ρ := fun ρ => by rw [resO_mod lpos]
  have er2 : ∀ ρ : Rho, resO (modD (.int (y % 2147483647 / 8)) (.int ((ts.length : Int) + 1))) ρ = .ok (.sh (.int (sp : Int))) ρ := fun ρ => by rw [resO_mod sp0, hsp]
  have z10 : ∀ n : Nat, n ≤ 100 → n ≤ sizeLine := fun n h => fits (by omega)
  have z10' : ∀ n : Nat, n ≤ 100 → n < sizeLine := fun n h => fitsl (by omega)
  rw [m_law_bent_7_eq]
  unfold m_law_bent_7
  let R := fun (x2 x3 x4 x5 x6 x7 : Option Cel) => ([some ⟨.tuple [.str top, .tuple ts], .sh⟩, some ⟨.int c, .sh⟩, x2, x3, x4, x5, x6, x7, some ⟨.str top, .sh⟩, some ⟨.tuple ts, .sh⟩, some ⟨.str key, .sh⟩, some ⟨te, .sh⟩, none] : Rho)
  refine fin_exS [some ⟨.tuple [.str top, .tuple ts], .sh⟩, some ⟨.int c, .sh⟩, none, none, none, none, none, none, some ⟨.str top, .sh⟩, some ⟨.tuple ts, .sh⟩, none, none, none] (by simp) ?_
  refine fin_exS [some ⟨.tuple [.str top, .tuple ts], .sh⟩, some ⟨.int c, .sh⟩, none, none, none, none, none, none, some ⟨.str top, .sh⟩, some ⟨.tuple ts, .sh⟩, some ⟨.str key, .sh⟩, some ⟨te, .sh⟩, none] (by simp [er, ex1']) ?_
  refine fin_exS [some ⟨.tuple [.str top, .tuple ts], .sh⟩, some ⟨.int c, .sh⟩, some ⟨fS.enc, .sh⟩, none, none, none, none, none, some ⟨.str top, .sh⟩, some ⟨.tuple ts, .sh⟩, some ⟨.str key, .sh⟩, some ⟨te, .sh⟩, none] (by simp [fS, Tr.enc]) ?_
  refine fin_exS [some ⟨.tuple [.str top, .tuple ts], .sh⟩, some ⟨.int c, .sh⟩, some ⟨fS.enc, .sh⟩, some ⟨aS.enc, .sh⟩, none, none, none, none, some ⟨.str top, .sh⟩, some ⟨.tuple ts, .sh⟩, some ⟨.str key, .sh⟩, some ⟨te, .sh⟩, none] (by simp [aS, Tr.enc]) ?_
  refine fin_exS [some ⟨.tuple [.str top, .tuple ts], .sh⟩, some ⟨.int c, .sh⟩, some ⟨fS.enc, .sh⟩, some ⟨aS.enc, .sh⟩, some ⟨.list (oddD.take 6), .ow⟩, none, none, none, some ⟨.str top, .sh⟩, some ⟨.tuple ts, .sh⟩, some ⟨.str key, .sh⟩, some ⟨te, .sh⟩, none] (by simp [oddD, hw60, kS, Tr.enc, Tr.encL, encTk]) ?_
  refine fin_exS [some ⟨.tuple [.str top, .tuple ts], .sh⟩, some ⟨.int c, .sh⟩, some ⟨fS.enc, .sh⟩, some ⟨aS.enc, .sh⟩, some ⟨.list (oddD.take 11), .ow⟩, none, none, none, some ⟨.str top, .sh⟩, some ⟨.tuple ts, .sh⟩, some ⟨.str key, .sh⟩, some ⟨te, .sh⟩, none] (by simp [oddD, kn1, hw61, hd11, hd12, z10]) ?_
  refine fin_exS [some ⟨.tuple [.str top, .tuple ts], .sh⟩, some ⟨.int c, .sh⟩, some ⟨fS.enc, .sh⟩, some ⟨aS.enc, .sh⟩, some ⟨.list (oddD.take 13), .ow⟩, none, none, none, some ⟨.str top, .sh⟩, some ⟨.tuple ts, .sh⟩, some ⟨.str key, .sh⟩, some ⟨te, .sh⟩, none] (by simp [oddD, kn1, z10]) ?_
  refine fin_exS [some ⟨.tuple [.str top, .tuple ts], .sh⟩, some ⟨.int c, .sh⟩, some ⟨fS.enc, .sh⟩, some ⟨aS.enc, .sh⟩, some ⟨.list (oddD.take 15), .ow⟩, none, none, none, some ⟨.str top, .sh⟩, some ⟨.tuple ts, .sh⟩, some ⟨.str key, .sh⟩, some ⟨te, .sh⟩, none] (by simp [oddD, kn1, z10]) ?_
  refine fin_exS [some ⟨.tuple [.str top, .tuple ts], .sh⟩, some ⟨.int c, .sh⟩, some ⟨fS.enc, .sh⟩, some ⟨aS.enc, .sh⟩, some ⟨.list (oddD.take 15), .ow⟩, some ⟨.list ((someD (.str top) (.tuple ts) ts A24 A25).take 8), .ow⟩, none, none, some ⟨.str top, .sh⟩, some ⟨.tuple ts, .sh⟩, some ⟨.str key, .sh⟩, some ⟨te, .sh⟩, none] (by
    generalize oddD.take 15 = od
    simp [someD]) ?_
  refine fin_exS [some ⟨.tuple [.str top, .tuple ts], .sh⟩, some ⟨.int c, .sh⟩, some ⟨fS.enc, .sh⟩, some ⟨aS.enc, .sh⟩, some ⟨.list oddD, .ow⟩, some ⟨.list ((someD (.str top) (.tuple ts) ts A24 A25).take 8), .ow⟩, none, none, some ⟨.str top, .sh⟩, some ⟨.tuple ts, .sh⟩, some ⟨.str key, .sh⟩, some ⟨te, .sh⟩, none] (by
    generalize (someD (.str top) (.tuple ts) ts A24 A25).take 8 = sd
    simp [oddD, kn1, kS, Tr.enc, Tr.encL, encTk, z10']) ?_
  refine fin_exS [some ⟨.tuple [.str top, .tuple ts], .sh⟩, some ⟨.int c, .sh⟩, some ⟨fS.enc, .sh⟩, some ⟨aS.enc, .sh⟩, some ⟨.list oddD, .ow⟩, some ⟨.list (someD (.str top) (.tuple ts) ts A24 A25), .ow⟩, none, none, some ⟨.str top, .sh⟩, some ⟨.tuple ts, .sh⟩, some ⟨.str key, .sh⟩, some ⟨te, .sh⟩, none] (by
    generalize oddD = od
    simp [someD, ea24, ea25, z10]) ?_
  have sl : (someD (.str top) (.tuple ts) ts A24 A25).length = 11 := rfl
  have sg := someD_gd (top := .str top) (ts := ts) (A := A24) (B := A25) htop tsg (by omega) (Gd2.str sa24 (by omega)) (Gd2.str sa25 (by omega))
  generalize someD (.str top) (.tuple ts) ts A24 A25 = SD at sl sg
  refine fin_exS [some ⟨.tuple [.str top, .tuple ts], .sh⟩, some ⟨.int c, .sh⟩, some ⟨fS.enc, .sh⟩, some ⟨aS.enc, .sh⟩, some ⟨.list oddD, .ow⟩, some ⟨.list SD, .ow⟩, some ⟨.list ((moreD (.str key) te Z24 Z25).take 4), .ow⟩, none, some ⟨.str top, .sh⟩, some ⟨.tuple ts, .sh⟩, some ⟨.str key, .sh⟩, some ⟨te, .sh⟩, none] (by
    rw [show (moreD (.str key) te Z24 Z25).take 4 = [.tuple [.str key, te], .list [.str (Str.ofString "zz"), te], .tuple [.str (Str.ofString "zz"), te, .int 1], .tuple []] from rfl]
    generalize oddD = od
    simp) ?_
  have lc3 : ∀ od : List D, lcL [12] (gN 12) (eNox eYes) (eNox (m_law_bent_7_ce3 Fd Fw)) (nineD Z24 Z25) [] [some ⟨.tuple [.str top, .tuple ts], .sh⟩, some ⟨.int c, .sh⟩, some ⟨fS.enc, .sh⟩, some ⟨aS.enc, .sh⟩, some ⟨.list od, .ow⟩, some ⟨.list SD, .ow⟩, some ⟨.list ((moreD (.str key) te Z24 Z25).take 4), .ow⟩, none, some ⟨.str top, .sh⟩, some ⟨.tuple ts, .sh⟩, some ⟨.str key, .sh⟩, some ⟨te, .sh⟩, none] = _ := fun od => lcL_D _ (fun one => [some ⟨.tuple [.str top, .tuple ts], .sh⟩, some ⟨.int c, .sh⟩, some ⟨fS.enc, .sh⟩, some ⟨aS.enc, .sh⟩, some ⟨.list od, .ow⟩, some ⟨.list SD, .ow⟩, some ⟨.list ((moreD (.str key) te Z24 Z25).take 4), .ow⟩, none, some ⟨.str top, .sh⟩, some ⟨.tuple ts, .sh⟩, some ⟨.str key, .sh⟩, some ⟨te, .sh⟩, some ⟨one, .sh⟩]) (fun one => .tuple [one, te]) (nineD Z24 Z25) [] (by show 0 + 9 ≤ sizeLine; decide) (fun one _ => by
      generalize (moreD (.str key) te Z24 Z25).take 4 = mo
      exact ⟨by simp, by simp, by simp [m_law_bent_7_ce3]⟩)
  have m4 : ((moreD (.str key) te Z24 Z25).take 4).length = 4 := rfl
  have m13 : (moreD (.str key) te Z24 Z25).take 13 = (moreD (.str key) te Z24 Z25).take 4 ++ (nineD Z24 Z25).map (fun one => .tuple [one, te]) := rfl
  have mAll : moreD (.str key) te Z24 Z25 = (moreD (.str key) te Z24 Z25).take 13 ++ oddD.map (fun one => .tuple [.str (Str.ofString "zz"), one]) := rfl
  have m13l : ((moreD (.str key) te Z24 Z25).take 13).length = 13 := rfl
  have mg := moreD_gd (key := .str key) (te := te) (A := Z24) (B := Z25) hkey tg (Gd2.str sz24 (by omega)) (Gd2.str sz25 (by omega))
  generalize moreD (.str key) te Z24 Z25 = MD at lc3 m4 m13 mAll m13l mg
  refine fin_exS [some ⟨.tuple [.str top, .tuple ts], .sh⟩, some ⟨.int c, .sh⟩, some ⟨fS.enc, .sh⟩, some ⟨aS.enc, .sh⟩, some ⟨.list oddD, .ow⟩, some ⟨.list SD, .ow⟩, some ⟨.list (MD.take 13), .ow⟩, none, some ⟨.str top, .sh⟩, some ⟨.tuple ts, .sh⟩, some ⟨.str key, .sh⟩, some ⟨te, .sh⟩, none] (by
    have l3 := lc3 oddD
    rw [List.nil_append] at l3
    rw [m13]
    generalize oddD = od at l3 ⊢
    generalize MD.take 4 = M4 at l3 m4 ⊢
    have n9 : ((nineD Z24 Z25).map (fun one => PyData.tuple [one, te])).length = 9 := rfl
    have z : M4.length + ((nineD Z24 Z25).map (fun one => PyData.tuple [one, te])).length ≤ sizeLine := by rw [m4, n9]; decide
    generalize (nineD Z24 Z25).map (fun one => PyData.tuple [one, te]) = N9 at l3 z ⊢
    unfold nineD at l3
    simp [ez24, ez25, l3, z]) ?_
  have ol : oddD.length = 16 := rfl
  have lc2 := lcL_D (vs := [12]) (g := gN 12) (fe := eNox (m_law_bent_7_ce2 Fd Fw)) [some ⟨.tuple [.str top, .tuple ts], .sh⟩, some ⟨.int c, .sh⟩, some ⟨fS.enc, .sh⟩, some ⟨aS.enc, .sh⟩, some ⟨.list oddD, .sh⟩, some ⟨.list SD, .ow⟩, some ⟨.list (MD.take 13), .ow⟩, none, some ⟨.str top, .sh⟩, some ⟨.tuple ts, .sh⟩, some ⟨.str key, .sh⟩, some ⟨te, .sh⟩, none]
    (fun one => [some ⟨.tuple [.str top, .tuple ts], .sh⟩, some ⟨.int c, .sh⟩, some ⟨fS.enc, .sh⟩, some ⟨aS.enc, .sh⟩, some ⟨.list oddD, .sh⟩, some ⟨.list SD, .ow⟩, some ⟨.list (MD.take 13), .ow⟩, none, some ⟨.str top, .sh⟩, some ⟨.tuple ts, .sh⟩, some ⟨.str key, .sh⟩, some ⟨te, .sh⟩, some ⟨one, .sh⟩]) (fun one => .tuple [.str (Str.ofString "zz"), one]) oddD [] (by rw [ol]; decide) (fun one _ => by
      generalize oddD = od
      generalize MD.take 13 = M13
      exact ⟨by simp, by simp, by simp [m_law_bent_7_ce2]⟩)
  rw [List.nil_append] at lc2
  have ml : MD.length = 29 := by rw [mAll, List.length_append, m13l, List.length_map, ol]
  refine fin_exS [some ⟨.tuple [.str top, .tuple ts], .sh⟩, some ⟨.int c, .sh⟩, some ⟨fS.enc, .sh⟩, some ⟨aS.enc, .sh⟩, some ⟨.list oddD, .sh⟩, some ⟨.list SD, .ow⟩, some ⟨.list MD, .ow⟩, none, some ⟨.str top, .sh⟩, some ⟨.tuple ts, .sh⟩, some ⟨.str key, .sh⟩, some ⟨te, .sh⟩, none] (by
    rw [mAll]
    rw [← mAll]
    have mAll' : PyData.list MD = .list (MD.take 13 ++ oddD.map (fun one => .tuple [.str (Str.ofString "zz"), one])) := by rw [← mAll]
    rw [mAll']
    have z : (MD.take 13).length + (oddD.map (fun one => PyData.tuple [.str (Str.ofString "zz"), one])).length ≤ sizeLine := by rw [m13l, List.length_map, ol]; decide
    generalize oddD.map (fun one => PyData.tuple [.str (Str.ofString "zz"), one]) = OM at lc2 z ⊢
    generalize oddD = od at lc2 ⊢
    generalize MD.take 13 = M13 at lc2 z ⊢
    simp [lc2, z]) ?_
  generalize oddD = od
  refine fin_exS [some ⟨.tuple [.str top, .tuple ts], .sh⟩, some ⟨.int c, .sh⟩, some ⟨fS.enc, .sh⟩, some ⟨aS.enc, .sh⟩, some ⟨.list od, .sh⟩, some ⟨.list SD, .ow⟩, some ⟨.list MD, .ow⟩, some ⟨.int (sp : Int), .sh⟩, some ⟨.str top, .sh⟩, some ⟨.tuple ts, .sh⟩, some ⟨.str key, .sh⟩, some ⟨te, .sh⟩, none] (by simp [h3, er2]) ?_
  have c1 := cutD_to ts sp
  have c2 := cutD_from ts sp
  have zt : (ts.take sp).length + 1 ≤ sizeLine := fits (by rw [List.length_take]; omega)
  have zt2 : (ts.take sp).length + 1 + (ts.drop sp).length ≤ sizeLine := fits (by rw [List.length_take, List.length_drop]; omega)
  have fin : ∀ one ∈ MD, Gd2 40 60000 (.tuple [.str top, .tuple (ts.take sp ++ [one] ++ ts.drop sp)]) := fun one mo => by
    have inner : Gd2 28 18201 (.tuple (ts.take sp ++ [one] ++ ts.drop sp)) := (Gd2.tup (n := 27) (m := 1400) (k := 13) (fun d m => by
      simp only [List.mem_append, List.mem_cons, List.not_mem_nil, or_false] at m
      rcases m with (m | m) | m
      · exact (tsg d (List.mem_of_mem_take m)).up (by omega) (by omega)
      · subst m; exact mg d mo
      · exact (tsg d (List.mem_of_mem_drop m)).up (by omega) (by omega)) (by rw [List.length_append, List.length_append, List.length_take, List.length_drop, List.length_singleton]; omega)).up (by omega) (by omega)
    exact (Gd2.tup (k := 2) (all2 (htop.up (n' := 28) (m' := 18201) (by omega) (by omega)) inner) (by simp)).up (by omega) (by omega)
  generalize ts.take sp = ta at c1 zt zt2 fin
  generalize ts.drop sp = tb at c2 zt2 fin
  have lc1 := lcL_D (vs := [12]) (g := gN 12) (fe := eNox (m_law_bent_7_ce1 Fd Fw)) [some ⟨.tuple [.str top, .tuple ts], .sh⟩, some ⟨.int c, .sh⟩, some ⟨fS.enc, .sh⟩, some ⟨aS.enc, .sh⟩, some ⟨.list od, .sh⟩, some ⟨.list SD, .ow⟩, some ⟨.list MD, .sh⟩, some ⟨.int (sp : Int), .sh⟩, some ⟨.str top, .sh⟩, some ⟨.tuple ts, .sh⟩, some ⟨.str key, .sh⟩, some ⟨te, .sh⟩, none]
    (fun one => [some ⟨.tuple [.str top, .tuple ts], .sh⟩, some ⟨.int c, .sh⟩, some ⟨fS.enc, .sh⟩, some ⟨aS.enc, .sh⟩, some ⟨.list od, .sh⟩, some ⟨.list SD, .ow⟩, some ⟨.list MD, .sh⟩, some ⟨.int (sp : Int), .sh⟩, some ⟨.str top, .sh⟩, some ⟨.tuple ts, .sh⟩, some ⟨.str key, .sh⟩, some ⟨te, .sh⟩, some ⟨one, .sh⟩]) (fun one => .tuple [.str top, .tuple (ta ++ [one] ++ tb)]) MD [] (fits (by simp; omega)) (fun one _ => by
      exact ⟨by simp, by simp, by simp [m_law_bent_7_ce1, c1, c2, zt, zt2]⟩)
  rw [List.nil_append] at lc1
  obtain ⟨LL, hLL⟩ : ∃ LL, LL = MD.map (fun one => PyData.tuple [.str top, .tuple (ta ++ [one] ++ tb)]) := ⟨_, rfl⟩
  have lll : LL.length = 29 := by rw [hLL, List.length_map, ml]
  have llg : ∀ d ∈ SD ++ LL, Gd2 40 60000 d := fun d m => by
    rcases List.mem_append.mp m with m | m
    · exact (sg d m).up (by omega) (by omega)
    · rw [hLL] at m
      obtain ⟨one, mo, rfl⟩ := List.mem_map.mp m
      exact fin one mo
  rw [← hLL] at lc1
  have zz : SD.length + LL.length ≤ sizeLine := by rw [sl, lll]; decide
  refine fin_exS [some ⟨.tuple [.str top, .tuple ts], .sh⟩, some ⟨.int c, .sh⟩, some ⟨fS.enc, .sh⟩, some ⟨aS.enc, .sh⟩, some ⟨.list od, .sh⟩, some ⟨.list (SD ++ LL), .ow⟩, some ⟨.list MD, .sh⟩, some ⟨.int (sp : Int), .sh⟩, some ⟨.str top, .sh⟩, some ⟨.tuple ts, .sh⟩, some ⟨.str key, .sh⟩, some ⟨te, .sh⟩, none] (by
    simp [lc1, zz]) ?_
  have fl : (SD ++ LL).length = 40 := by rw [List.length_append, sl, lll]
  generalize SD ++ LL = FL at fl llg
  obtain ⟨d, ed, md⟩ := at_in (xs := FL) (c := c / 13) (n := 40) (by decide) (by rw [fl]; decide)
  refine ⟨d, ?_, llg d md⟩
  simp [fl, ed]
end
end GM
namespace GM
open PySem L2 GS
end GM
namespace GM
open PySem L2 GS
abbrev OP : Str := Str.ofString "("
abbrev CL : Str := Str.ofString ")"
abbrev Rd := Except Nat (Str × List D × Nat)
section
variable {n : Nat} {Fw Ft Fx Fp Fk : FF}
end
section
variable {n : Nat} {Fd Fp Fk : FF}
end
end GM
namespace GM
open PySem L2 GS
end GM
namespace GS
open PySem L2
@[simp] theorem atI_last2 {α : Type} (xs : List α) (x : α) : atI (xs ++ [x]) (-1) = some x := by
  unfold L2.atI ixN
  have h1 : ¬ (0 : Int) ≤ -1 := by omega
  have h2 : -((xs ++ [x]).length : Int) ≤ -1 := by rw [List.length_append, List.length_singleton]; omega
  rw [if_neg h1, if_pos h2]
  have h3 : ((-1 : Int) + ((xs ++ [x]).length : Int)).toNat = xs.length := by rw [List.length_append, List.length_singleton]; omega
  rw [h3]
  simp
theorem sub_sum {l m : List Nat} (h : l.Sublist m) : l.sum ≤ m.sum := by
  induction h with
  | slnil => simp
  | cons a _ ih => rw [List.sum_cons]; omega
  | cons_cons a _ ih => rw [List.sum_cons, List.sum_cons]; omega
end GS
namespace GM
open PySem L2 GS
structure Wd (b : Nat) (w : Str) : Prop where
  len : w.length ≤ b
  chr : ∀ c ∈ w.cps.toList, c < 128
  one : w.cps.toList.count 40 ≤ 1
structure Ws (b k m : Nat) (ws : List Str) : Prop where
  all : ∀ w ∈ ws, Wd b w
  cnt : (ws.map fun w => w.cps.toList.count 40).sum ≤ k
  num : ws.length ≤ m
theorem Wd.up {b b' : Nat} {w : Str} (h : Wd b w) (l : b ≤ b') : Wd b' w := ⟨by have := h.len; omega, h.chr, h.one⟩
theorem Ws.up {b b' k k' m m' : Nat} {ws : List Str} (h : Ws b k m ws) (l : b ≤ b') (l2 : k ≤ k') (l3 : m ≤ m') : Ws b' k' m' ws := ⟨fun w q => (h.all w q).up l, Nat.le_trans h.cnt l2, Nat.le_trans h.num l3⟩
theorem Ws.one {b : Nat} {w : Str} (h : Wd b w) : Ws b 1 1 [w] := ⟨fun v q => by simp at q; subst q; exact h, by simpa using h.one, by simp⟩
theorem Ws.zero {b : Nat} {w : Str} (h : Wd b w) (z : w.cps.toList.count 40 = 0) : Ws b 0 1 [w] := ⟨fun v q => by simp at q; subst q; exact h, by rw [List.map_singleton, z]; simp, by simp⟩
theorem Ws.sub {b k m : Nat} {ws vs : List Str} (h : Ws b k m ws) (s : vs.Sublist ws) : Ws b k m vs :=
  ⟨fun w q => h.all w (s.subset q), Nat.le_trans (sub_sum (s.map _)) h.cnt, Nat.le_trans s.length_le h.num⟩
theorem str8 (x : Int) : ∃ f, strD (.int (x % 8)) = some (.sh (.str f)) ∧ f ∈ figs := by
  have h : x % 8 = 0 ∨ x % 8 = 1 ∨ x % 8 = 2 ∨ x % 8 = 3 ∨ x % 8 = 4 ∨ x % 8 = 5 ∨ x % 8 = 6 ∨ x % 8 = 7 := by omega
  rcases h with h | h | h | h | h | h | h | h <;> rw [h]
  · exact ⟨_, rfl, by decide +kernel⟩
  · exact ⟨_, rfl, by decide +kernel⟩
  · exact ⟨_, rfl, by decide +kernel⟩
  · exact ⟨_, rfl, by decide +kernel⟩
  · exact ⟨_, rfl, by decide +kernel⟩
  · exact ⟨_, rfl, by decide +kernel⟩
  · exact ⟨_, rfl, by decide +kernel⟩
  · exact ⟨_, rfl, by decide +kernel⟩
noncomputable def s8 (x : Int) : Str := (str8 x).choose
end GM
namespace GM
open PySem L2 GS
end GM
namespace GM
open PySem L2 GS
end GM
namespace GS
open PySem L2
@[simp] theorem atI_last {α : Type} (xs : List α) (x : α) : atI (xs ++ [x]) (-1) = some x := by
  unfold L2.atI ixN
  have h1 : ¬ (0 : Int) ≤ -1 := by omega
  have h2 : -((xs ++ [x]).length : Int) ≤ -1 := by rw [List.length_append, List.length_singleton]; omega
  rw [if_neg h1, if_pos h2]
  have h3 : ((-1 : Int) + ((xs ++ [x]).length : Int)).toNat = xs.length := by rw [List.length_append, List.length_singleton]; omega
  rw [h3]
  simp
end GS
namespace GM
open PySem L2 GS
/-- all trees that can be asked -/
theorem BookOk.bk {h : Nat} {b : Bk} (B : BookOk h b) : BkOk h b :=
  ⟨by have := B.len; omega, fun p m => (B.trees p m).ht, fun p m => by have := (B.trees p m).sz; omega, fun p m e => by have := (B.trees p m).kn; rw [e] at this; cases this⟩
theorem TreeOk.graft {h : Nat} {t : Tr} (o : TreeOk h t) : t.isGraft = decide (0 < t.feet.length) ∧ L2.atI (t.feet.map PyData.str ++ [.str t.word]) 0 = some (.str t.name) := by
  have := o.feet
  unfold Tr.isGraft Tr.name
  cases hq : t.feet with
  | nil => simp
  | cons a r =>
    rw [hq] at this
    cases r with
    | nil => simp
    | cons b r => simp at this
end GM
namespace GM
open PySem L2 GS
end GM
namespace GM
open PySem L2 GS
end GM
namespace GM
open PySem L2 GS
end GM
namespace GM
open PySem L2 GS
/-- dict(book[1]) -/
def ktD (p : Str × Tr) : D × D := (.str p.1, p.2.enc)
def Bk.dict (b : Bk) : D := .dict (dMerge (b.trees.map ktD))
inductive Pl where
  | mk (key : Str) (puts : List (List Nat × Pl))
  deriving Inhabited
def Pl.key : Pl → Str
  | .mk k _ => k
def Pl.puts : Pl → List (List Nat × Pl)
  | .mk _ ps => ps
mutual
def Pl.enc : Pl → D
  | .mk k ps => .tuple [.str k, .tuple (Pl.encL ps)]
def Pl.encL : List (List Nat × Pl) → List D
  | [] => []
  | x :: r => Pl.encX x :: Pl.encL r
def Pl.encX : List Nat × Pl → D
  | (p, q) => .tuple [encP p, q.enc]
end
theorem pencL_map : ∀ ps : List (List Nat × Pl), Pl.encL ps = ps.map Pl.encX
  | [] => rfl
  | x :: r => by rw [Pl.encL, pencL_map r, List.map_cons]
theorem penc_eq (q : Pl) : q.enc = .tuple [.str q.key, .tuple (q.puts.map Pl.encX)] := by
  cases q with
  | mk k ps => rw [Pl.enc, pencL_map]; rfl
theorem pencX_eq (x : List Nat × Pl) : Pl.encX x = .tuple [encP x.1, x.2.enc] := by
  obtain ⟨p, q⟩ := x
  rw [Pl.encX]
mutual
/-- how many keys -/
def Pl.size : Pl → Nat
  | .mk _ ps => 1 + Pl.sizeL ps
def Pl.sizeL : List (List Nat × Pl) → Nat
  | [] => 0
  | x :: r => Pl.sizeX x + Pl.sizeL r
def Pl.sizeX : List Nat × Pl → Nat
  | (_, q) => q.size
end
mutual
/-- how many within one another -/
def Pl.dep : Pl → Nat
  | .mk _ ps => Pl.depL ps + 1
def Pl.depL : List (List Nat × Pl) → Nat
  | [] => 0
  | x :: r => max (Pl.depX x) (Pl.depL r)
def Pl.depX : List Nat × Pl → Nat
  | (_, q) => q.dep
end
def Tr.must (t : Tr) : Bool := match t.want with
  | some (_, _, b) => b
  | none => false
mutual
/-- a plan of a book -/
inductive PlOk (b : Bk) : Pl → Prop
  | mk {k : Str} {t : Tr} {ps : List (List Nat × Pl)} : b.treeOf k = some t → PutsOk b (t.pps []) ps → PlOk b (.mk k ps)
/-- what is put at pieces, in their order -/
inductive PutsOk (b : Bk) : List (List Nat × Tr) → List (List Nat × Pl) → Prop
  | nil : PutsOk b [] []
  | skip {p : List Nat} {u : Tr} {us : List (List Nat × Tr)} {ps : List (List Nat × Pl)} : u.must = false → PutsOk b us ps → PutsOk b ((p, u) :: us) ps
  | put {p : List Nat} {u : Tr} {q : Pl} {us : List (List Nat × Tr)} {ps : List (List Nat × Pl)} : q.key ∈ b.takers u → PlOk b q → PutsOk b us ps → PutsOk b ((p, u) :: us) ((p, q) :: ps)
end
end GM
namespace GM
open PySem L2 GS
theorem want_no {u : Tr} (h : noW u = true) : u.want = none := by
  cases u with
  | knot n tk ks => cases tk with
    | none => rfl
    | some w => cases h
  | hole n => cases h
  | _ => rfl
/-- sixQ keys in a tuple -/
def sixQ : List Str := [Str.ofString "s", Str.ofString "x0", Str.ofString "keytree", Str.ofString "g", Str.ofString "h1", Str.ofString "graftofaone"]
theorem six_base (k : Str) : decide (k ∈ sixQ) = decide (k ∈ baseK) := by
  have : k ∈ sixQ ↔ k ∈ baseK := by
    unfold sixQ baseK
    simp only [List.mem_cons, List.not_mem_nil, or_false]
    constructor <;> (rintro (h | h | h | h | h | h) <;> simp [h])
  simp only [this]
/-- how many keys a plan may have, by the number of its first -/
def limP (c s : Nat) : Nat := if 6 ≤ c then 51 else 2551 * min s (6 - c)
mutual
/-- how many keys are none of the sixQ -/
def Pl.nb : Pl → Nat
  | .mk k ps => (if k ∈ baseK then 0 else 1) + Pl.nbL ps
def Pl.nbL : List (List Nat × Pl) → Nat
  | [] => 0
  | x :: r => Pl.nbX x + Pl.nbL r
def Pl.nbX : List Nat × Pl → Nat
  | (_, q) => q.nb
end
structure GoodP (b : Bk) (n c : Nat) (key : Str) (q : Pl) : Prop where
  ok : PlOk b q
  key : q.key = key
  dep : q.dep ≤ n + 1
  size : q.size ≤ limP c q.size
  nb : q.nb ≤ if q.key ∈ baseK then 0 else max 1 (7 - c)
section
variable {Fp Fl Ft Fc : FF}
end
section
variable {Fp Fl Ft Fc : FF}
end
end GM
namespace GM
open PySem L2 GS
section
variable {Fp Fl Ft Fc : FF}
end
end GM
namespace GM
open PySem L2 GS
end GM
namespace GM
open PySem L2 GS
def figW (d : Nat) : Str := ((toString (d : Int) : String) : Str)
def placeW (p : List Nat) : Str := if p = [] then DT else Txt.join DT (p.map figW)
mutual
def Pl.words : Pl → List Str
  | .mk k ps => OP :: k :: (Pl.wordsL ps ++ [CL])
def Pl.wordsL : List (List Nat × Pl) → List Str
  | [] => []
  | x :: r => Pl.wordsX x ++ Pl.wordsL r
def Pl.wordsX : List Nat × Pl → List Str
  | (p, q) => placeW p :: q.words
end
def plcOk (p : List Nat) : Bool := p.all (fun d => decide (d < 8)) && decide (p.length ≤ 20)
mutual
def Pl.tok : Pl → Bool
  | .mk k ps => keyB k && Pl.tokL ps
def Pl.tokL : List (List Nat × Pl) → Bool
  | [] => true
  | x :: r => Pl.tokX x && Pl.tokL r
def Pl.tokX : List Nat × Pl → Bool
  | (p, q) => plcOk p && q.tok
end
theorem fig_all : ∀ d, d < 8 → figW d ∈ figs ∧ fgN (figW d) = (d : Int) ∧ 46 ∉ (figW d).cps.toList ∧ 1 ≤ (figW d).length ∧ (figW d).length ≤ 1 ∧ ((d : Int).natAbs.log2 < 1920) := by
  intro d h
  have : ∀ d ∈ List.range 8, figW d ∈ figs ∧ fgN (figW d) = (d : Int) ∧ 46 ∉ (figW d).cps.toList ∧ 1 ≤ (figW d).length ∧ (figW d).length ≤ 1 ∧ ((d : Int).natAbs.log2 < 1920) := by decide +kernel
  exact this d (List.mem_range.mpr h)
theorem plc_mem {p : List Nat} (h : plcOk p = true) : (∀ d ∈ p, d < 8) ∧ p.length ≤ 20 := by
  unfold plcOk at h
  rw [Bool.and_eq_true, List.all_eq_true] at h
  exact ⟨fun d m => by simpa using h.1 d m, by simpa using h.2⟩
theorem dt1 : DT.length = 1 := by decide +kernel
theorem placeW_len {p : List Nat} (h : plcOk p = true) : (placeW p).length ≤ 40 := by
  unfold placeW
  split
  · rw [dt1]; omega
  · have h1 := join_len DT (p.map figW)
    have h2 := (plc_mem h).2
    have h3 : ((p.map figW).map (·.length)).sum ≤ 1 * (p.map figW).length := sum_le fun w m => by
      obtain ⟨d, md, rfl⟩ := List.mem_map.mp m
      exact (fig_all d ((plc_mem h).1 d md)).2.2.2.2.1
    rw [dt1, List.length_map] at *
    omega
theorem placeW_chr {p : List Nat} (h : plcOk p = true) : ∀ c ∈ (placeW p).cps.toList, c = 46 ∨ (48 ≤ c ∧ c ≤ 57) := fun c m => by
  have hd : DT.cps.toList = [46] := cpDT
  unfold placeW at m
  split at m
  · rw [hd] at m; simp at m; exact .inl m
  · rcases join_mem m with q | ⟨w, mw, q⟩
    · rw [hd] at q; simp at q; exact .inl q
    · obtain ⟨d, md, rfl⟩ := List.mem_map.mp mw
      have : ∀ d ∈ List.range 8, ∀ c ∈ (figW d).cps.toList, 48 ≤ c ∧ c ≤ 57 := by decide +kernel
      exact .inr (this d (List.mem_range.mpr ((plc_mem h).1 d md)) c q)
end GM
namespace GM
open PySem L2 GS
end GM
namespace GM
open PySem L2 GS
section
variable {n : Nat} {Fw Ft Fx Fp Fk : FF}
end
end GM
namespace GM
open PySem L2 GS
theorem kid_lt : ∀ (t : Tr) (p : List Nat), t.ok = true → p ∈ t.places → ∀ d ∈ p, d < 8 := fun t p => by
  induction p generalizing t with
  | nil => intro _ _ d m; cases m
  | cons k p ih =>
    intro ok mp d md
    rw [places_kids] at mp
    rcases List.mem_cons.mp mp with e | mp
    · cases e
    · have gen : ∀ (ts : List Tr) (j : Nat), (k :: p) ∈ Tr.placesL j ts → k < j + ts.length ∧ ∃ s ∈ ts, p ∈ s.places := fun ts => by
        induction ts with
        | nil => intro j m; simp [Tr.placesL] at m
        | cons s ts ih2 =>
          intro j m
          rw [Tr.placesL] at m
          rcases List.mem_append.mp m with m | m
          · obtain ⟨r, mr, e⟩ := List.mem_map.mp m
            cases e
            exact ⟨by simp, s, by simp, mr⟩
          · obtain ⟨h1, s', ms, h2⟩ := ih2 (j + 1) m
            exact ⟨by simp; omega, s', by simp [ms], h2⟩
      obtain ⟨h1, s, ms, h2⟩ := gen t.kids 0 mp
      cases t with
      | knot n tk ks =>
        rw [Tr.ok] at ok
        simp only [Bool.and_eq_true, decide_eq_true_eq] at ok
        have : ks.length ≤ 8 := ok.2.2.2.1
        rcases List.mem_cons.mp md with rfl | md
        · simp [Tr.kids] at h1; omega
        · exact ih s (okL_mem ok.2.2.2.2 s ms) h2 d md
      | _ => simp [Tr.kids] at ms
theorem pps_place {t : Tr} {x : List Nat × Tr} (m : x ∈ t.pps []) : x.1 ∈ t.places := by
  have : x.1 ∈ (t.pps []).map (·.1) := List.mem_map_of_mem m
  rw [pps_fst] at this
  simpa using this
theorem treeOf_in {b : Bk} {k : Str} {t : Tr} (h : b.treeOf k = some t) : (k, t) ∈ b.trees := by
  have gen : ∀ (ts : List (Str × Tr)) (o : Option Tr), ts.foldl (fun acc p => if p.1 = k then some p.2 else acc) o = some t → (k, t) ∈ ts ∨ o = some t := fun ts => by
    induction ts with
    | nil => intro o h; exact .inr h
    | cons p ts ih =>
      intro o h
      rcases ih _ h with m | e
      · exact .inl (by simp [m])
      · dsimp only at e
        split at e
        · rename_i q
          cases e
          exact .inl (by rw [← q]; simp)
        · exact .inr e
  rcases gen b.trees none h with m | e
  · exact m
  · cases e
section
variable {h : Nat} {b : Bk}
theorem BookOk.keyB (B : BookOk h b) {k : Str} {t : Tr} (m : (k, t) ∈ b.trees) : keyB k = true := allK_ok k (B.keys _ m)
mutual
theorem PlOk.tok (B : BookOk h b) (hh : h ≤ 20) : ∀ {q : Pl}, PlOk b q → q.tok = true
  | _, .mk (t := t) e r => by
    have mt := treeOf_in e
    have T := B.trees _ mt
    rw [Pl.tok, B.keyB mt, Bool.true_and]
    exact PutsOk.tok B hh r fun x mx => by
      have mp := pps_place mx
      unfold plcOk
      rw [Bool.and_eq_true, List.all_eq_true]
      refine ⟨fun d md => by simpa using kid_lt t x.1 T.ok mp d md, ?_⟩
      have := place_len t x.1 mp
      have := T.ht
      dsimp only at this
      simp
      omega
theorem PutsOk.tok (B : BookOk h b) (hh : h ≤ 20) : ∀ {us : List (List Nat × Tr)} {ps : List (List Nat × Pl)}, PutsOk b us ps → (∀ x ∈ us, plcOk x.1 = true) → Pl.tokL ps = true
  | _, _, .nil, _ => rfl
  | _, _, .skip _ r, hu => PutsOk.tok B hh r fun x m => hu x (by simp [m])
  | _, _, .put _ o r, hu => by
    rw [Pl.tokL, Pl.tokX, hu _ List.mem_cons_self, PlOk.tok B hh o, PutsOk.tok B hh r fun x m => hu x (by simp [m])]
    rfl
end
end
mutual
theorem pwords_len : ∀ q : Pl, q.words.length + 1 ≤ 4 * q.size
  | .mk k ps => by
    have := pwordsL_len ps
    rw [Pl.words, Pl.size]
    simp
    omega
theorem pwordsL_len : ∀ ps : List (List Nat × Pl), (Pl.wordsL ps).length ≤ 4 * Pl.sizeL ps
  | [] => by simp [Pl.wordsL]
  | x :: r => by
    have h1 := pwordsX_len x
    have h2 := pwordsL_len r
    rw [Pl.wordsL, Pl.sizeL, List.length_append]
    omega
theorem pwordsX_len : ∀ x : List Nat × Pl, (Pl.wordsX x).length ≤ 4 * Pl.sizeX x
  | (p, q) => by
    have := pwords_len q
    rw [Pl.wordsX, Pl.sizeX, List.length_cons]
    omega
end
structure WdQ (w : Str) : Prop where
  len : w.length ≤ 40
  chr : ∀ c ∈ w.cps.toList, 33 ≤ c ∧ c ≤ 122
theorem wq_key {k : Str} (h : keyB k = true) : WdQ k := by
  refine ⟨by have := keyB_len h; omega, fun c m => ?_⟩
  have hs : ∀ c ∈ SML.cps.toList, 33 ≤ c ∧ c ≤ 122 := by decide +kernel
  have hf : ∀ c ∈ FIG.cps.toList, 33 ≤ c ∧ c ≤ 122 := by decide +kernel
  exact (nameL_mem h c m).elim (hs c) (hf c)
theorem wq_place {p : List Nat} (h : plcOk p = true) : WdQ (placeW p) := ⟨placeW_len h, fun c m => by have := placeW_chr h c m; omega⟩
theorem wq_op : WdQ OP := ⟨by decide +kernel, by decide +kernel⟩
theorem wq_cl : WdQ CL := ⟨by decide +kernel, by decide +kernel⟩
mutual
theorem words_wq : ∀ q : Pl, q.tok = true → ∀ w ∈ q.words, WdQ w
  | .mk k ps, h, w, m => by
    rw [Pl.tok, Bool.and_eq_true] at h
    rw [Pl.words] at m
    rcases List.mem_cons.mp m with rfl | m
    · exact wq_op
    · rcases List.mem_cons.mp m with rfl | m
      · exact wq_key h.1
      · rcases List.mem_append.mp m with m | m
        · exact wordsL_wq ps h.2 w m
        · simp at m; subst m; exact wq_cl
theorem wordsL_wq : ∀ ps : List (List Nat × Pl), Pl.tokL ps = true → ∀ w ∈ Pl.wordsL ps, WdQ w
  | [], _, w, m => by simp [Pl.wordsL] at m
  | x :: r, h, w, m => by
    rw [Pl.tokL, Bool.and_eq_true] at h
    rw [Pl.wordsL] at m
    rcases List.mem_append.mp m with m | m
    · exact wordsX_wq x h.1 w m
    · exact wordsL_wq r h.2 w m
theorem wordsX_wq : ∀ x : List Nat × Pl, Pl.tokX x = true → ∀ w ∈ Pl.wordsX x, WdQ w
  | (p, q), h, w, m => by
    rw [Pl.tokX, Bool.and_eq_true] at h
    rw [Pl.wordsX] at m
    rcases List.mem_cons.mp m with rfl | m
    · exact wq_place h.1
    · exact words_wq q h.2 w m
end
section
variable {Fa Fc : FF}
end
end GM
namespace GM
open PySem L2 GS
end GM
namespace GM
open PySem L2 GS
/-- a put: its place, key, what is put within -/
abbrev Pt := List Int × Str × D
def putP : D → Option Pt
  | .tuple [.tuple ns, .tuple [.str k, r]] => (intsT ns).map fun p => (p, k, r)
  | _ => none
def encI (p : List Int) : D := .tuple (p.map .int)
def encPt (x : Pt) : D := .tuple [encI x.1, .tuple [.str x.2.1, x.2.2]]
theorem intsT_map (p : List Int) : intsT (p.map .int) = some p := by
  induction p with
  | nil => rfl
  | cons i p ih => simp [intsT, ih]
theorem putP_enc (x : Pt) : putP (encPt x) = some x := by
  obtain ⟨p, k, r⟩ := x
  show (intsT (p.map .int)).map _ = _
  rw [intsT_map]
  rfl
def ltO : Option (List Int) → List Int → Bool
  | none, _ => true
  | some a, p => HT.lexLt a p
def goP : Option (List Int) → List D → Option (List Pt)
  | _, [] => some []
  | a, d :: ds => match putP d with
    | none => none
    | some x => if ltO a x.1 then (goP (some x.1) ds).map fun l => x :: l else none
def putsP : D → Option (List Pt)
  | .tuple ds => goP none ds
  | _ => none
end GM
namespace GM
open PySem L2 GS
def toI (p : List Nat) : List Int := p.map fun n : Nat => (n : Int)
theorem encP_I (p : List Nat) : encP p = encI (toI p) := by
  unfold encP encI toI
  rw [List.map_map]
  rfl
theorem toI_inj {p q : List Nat} (h : toI p = toI q) : p = q := by
  induction p generalizing q with
  | nil => cases q with
    | nil => rfl
    | cons _ _ => cases h
  | cons a p ih => cases q with
    | nil => cases h
    | cons b q =>
      unfold toI at h
      rw [List.map_cons, List.map_cons] at h
      injection h with h1 h2
      rw [ih h2, show a = b by omega]
theorem nkL_ints (p : List Int) : nkL (p.map .int) = some (p.map NestedKey.num) := by
  induction p with
  | nil => rfl
  | cons i p ih => rw [List.map_cons, nkL, ih]; rfl
theorem depth_nums (p : List Int) : NestedKey.depthAll (p.map NestedKey.num) = 0 := by
  induction p with
  | nil => rfl
  | cons i p ih => rw [List.map_cons, NestedKey.depthAll, ih]; rfl
theorem tkD_ints (p : List Int) : tkD (p.map .int) = some (.tup (p.map NestedKey.num)) := by
  unfold tkD
  rw [nkL_ints, Option.bind_some, if_pos (by rw [NestedKey.depth, depth_nums]; omega)]
theorem nums_inj {p q : List Int} (h : p.map NestedKey.num = q.map NestedKey.num) : p = q := by
  induction p generalizing q with
  | nil => cases q with
    | nil => rfl
    | cons _ _ => cases h
  | cons a p ih => cases q with
    | nil => cases h
    | cons b q =>
      rw [List.map_cons, List.map_cons] at h
      injection h with h1 h2
      injection h1 with h1
      rw [ih h2, h1]
@[simp] theorem kEq_I (p q : List Int) : kEq (encI p) (encI q) = decide (p = q) := by
  rw [kEq_key (show keyD (encI p) = _ from tkD_ints p) (show keyD (encI q) = _ from tkD_ints q)]
  by_cases h : p = q
  · simp [h]
  · have : ¬ NestedKey.tup (p.map NestedKey.num) = NestedKey.tup (q.map NestedKey.num) := fun e => h (nums_inj (by injection e))
    simp [h, this]
@[simp] theorem isK_I (p : List Int) : isK (encI p) = true := by
  show (tkD (p.map .int)).isSome = true
  rw [tkD_ints]
  rfl
def getI {α : Type} (L : List (List Int × α)) (p : List Int) : Option α := (L.find? fun x => decide (x.1 = p)).map (·.2)
theorem lexLt_irr (p : List Int) : HT.lexLt p p = false := by
  induction p with
  | nil => rfl
  | cons i p ih => rw [HT.lexLt_cons, if_pos rfl]; exact ih
theorem rising_nodup {ps : List (List Int)} (h : ps.Pairwise (fun p q => HT.lexLt p q = true)) : ps.Nodup :=
  h.imp fun {p q} l e => by rw [e, lexLt_irr] at l; cases l
end GM
namespace GM
open PySem L2 GS
def krD (x : Str × D) : D := .tuple [.str x.1, x.2]
def okAt (b : Bk) (L : List Pt) (x : List Nat × Tr) : Bool := match getI L (toI x.1) with
  | none => !x.2.must
  | some kr => decide (kr.1 ∈ b.takers x.2)
def wellB (b : Bk) (t : Tr) (L : List Pt) : Bool := (t.pps []).all (okAt b L) && L.all fun x => decide (x.1 ∈ t.places.map toI)
structure BkS (n : Nat) (b : Bk) : Prop where
  ok : BkOk n b
  so : ∀ p ∈ b.trees, PyData.strOk p.1 = true
section
variable {Fp Ft Fw Fa : FF}
end
end GM
namespace GM
open PySem L2 GS
def isPlanN (b : Bk) : Nat → D → Bool
  | 0, _ => false
  | n + 1, d => match d with
    | .tuple [.str k, ps] => match putsP ps, b.treeOf k with
      | some L, some t => wellB b t L && L.all fun x => isPlanN b n (krD x.2)
      | _, _ => false
    | _ => false
/-- what is_plan may be asked of -/
def preP : Nat → D → Prop
  | 0, d => ∀ k ps, d ≠ .tuple [.str k, ps]
  | n + 1, d => ∀ k ps L, d = .tuple [.str k, ps] → putsP ps = some L → L.length ≤ 100000 ∧ ∀ x ∈ L, PyData.strOk x.2.1 = true ∧ preP n (krD x.2)
structure BkZ (n : Nat) (b : Bk) : Prop where
  s : BkS n b
  z : ∀ p ∈ b.trees, p.2.pieces.length ≤ 1000
section
variable {Fi Fw Ft Fa : FF}
end
theorem lexLt_places : ∀ t : Tr, (t.places.map toI).Pairwise fun p q => HT.lexLt p q = true := fun t => by
  have gen : ∀ n : Nat, (∀ t : Tr, t.ht ≤ n → (t.places.map toI).Pairwise fun p q => HT.lexLt p q = true) := fun n => by
    induction n with
    | zero =>
      intro t h
      cases t with
      | knot a b c => rw [Tr.ht] at h; omega
      | _ => simp [Tr.places]
    | succ n ih =>
      intro t h
      have hk : ∀ u ∈ t.kids, u.ht ≤ n := fun u mu => by
        cases t with
        | knot a b c =>
          rw [Tr.ht] at h
          have := ht_mem (ts := c) mu
          omega
        | _ => simp [Tr.kids] at mu
      have kd : ∀ (ts : List Tr) (j : Nat), (∀ u ∈ ts, u.ht ≤ n) → ((Tr.placesL j ts).map toI).Pairwise (fun p q => HT.lexLt p q = true) ∧ ∀ p ∈ Tr.placesL j ts, ∃ k r, p = k :: r ∧ j ≤ k := fun ts => by
        induction ts with
        | nil => intro j _; exact ⟨by simp [Tr.placesL], fun p m => by simp [Tr.placesL] at m⟩
        | cons u ts ih2 =>
          intro j hu
          obtain ⟨g1, g2⟩ := ih2 (j + 1) fun u m => hu u (by simp [m])
          rw [Tr.placesL]
          constructor
          · rw [List.map_append, List.pairwise_append]
            refine ⟨?_, g1, ?_⟩
            · have := ih u (hu u (by simp))
              rw [List.map_map]
              rw [List.pairwise_map] at this ⊢
              refine this.imp fun {p q} l => ?_
              show HT.lexLt ((j : Int) :: toI p) ((j : Int) :: toI q) = true
              rw [HT.lexLt_cons, if_pos rfl]
              exact l
            · intro p mp q mq
              obtain ⟨p', mp', rfl⟩ := List.mem_map.mp mp
              obtain ⟨p'', _, rfl⟩ := List.mem_map.mp mp'
              obtain ⟨q', mq', rfl⟩ := List.mem_map.mp mq
              obtain ⟨k, r, rfl, hk⟩ := g2 q' mq'
              show HT.lexLt ((j : Int) :: toI p'') ((k : Int) :: toI r) = true
              rw [HT.lexLt_cons, if_neg (by omega), decide_eq_true_eq]
              omega
          · intro p mp
            rcases List.mem_append.mp mp with mp | mp
            · obtain ⟨p', _, rfl⟩ := List.mem_map.mp mp
              exact ⟨j, p', rfl, Nat.le_refl _⟩
            · obtain ⟨k, r, e, hk⟩ := g2 p mp
              exact ⟨k, r, e, by omega⟩
      obtain ⟨g1, g2⟩ := kd t.kids 0 hk
      rw [places_kids, List.map_cons]
      refine .cons (fun q mq => ?_) g1
      obtain ⟨q', mq', rfl⟩ := List.mem_map.mp mq
      obtain ⟨k, r, rfl, _⟩ := g2 q' mq'
      rfl
  exact gen t.ht t (Nat.le_refl _)
/-- a put as a datum -/
def ptOf (x : List Nat × Pl) : Pt := (toI x.1, x.2.key, .tuple (x.2.puts.map Pl.encX))
theorem ptOf_enc (x : List Nat × Pl) : Pl.encX x = encPt (ptOf x) := by
  rw [pencX_eq, encP_I, penc_eq]
  rfl
theorem krD_pt (x : List Nat × Pl) : krD (ptOf x).2 = x.2.enc := by rw [penc_eq]; rfl
theorem goP_of : ∀ (ps : List (List Nat × Pl)) (a : Option (List Int)), (∀ x ∈ ps, ltO a (toI x.1) = true) → (ps.map fun x => toI x.1).Pairwise (fun p q => HT.lexLt p q = true) → goP a (ps.map Pl.encX) = some (ps.map ptOf)
  | [], _, _, _ => rfl
  | x :: ps, a, h1, h2 => by
    rw [List.map_cons] at h2
    cases h2 with
    | cons q1 q2 =>
      have r := goP_of ps (some (toI x.1)) (fun y my => q1 _ (List.mem_map_of_mem (f := fun x : List Nat × Pl => toI x.1) my)) q2
      rw [List.map_cons, goP, ptOf_enc, putP_enc]
      dsimp only
      rw [show (ptOf x).1 = toI x.1 from rfl, h1 x (by simp), if_pos rfl, r]
      rfl
theorem PutsOk.sub {b : Bk} : ∀ {us : List (List Nat × Tr)} {ps : List (List Nat × Pl)}, PutsOk b us ps → (ps.map (·.1)).Sublist (us.map (·.1))
  | _, _, .nil => .slnil
  | _, _, .skip _ r => (PutsOk.sub r).cons _
  | _, _, .put _ _ r => (PutsOk.sub r).cons₂ _
theorem getI_no {ps : List (List Nat × Pl)} {p : List Nat} (h : p ∉ ps.map (·.1)) : getI (ps.map ptOf) (toI p) = none := by
  unfold getI
  rw [Option.map_eq_none_iff, List.find?_eq_none]
  intro x mx
  obtain ⟨y, my, rfl⟩ := List.mem_map.mp mx
  simp only [decide_eq_true_eq]
  intro e
  exact h (by rw [← toI_inj e]; exact List.mem_map_of_mem my)
theorem PutsOk.at {b : Bk} : ∀ {us : List (List Nat × Tr)} {ps : List (List Nat × Pl)}, PutsOk b us ps → (us.map (·.1)).Nodup → ∀ x ∈ us, okAt b (ps.map ptOf) x = true
  | _, _, .nil, _, x, m => by cases m
  | _, _, .skip (p := p) (u := u) (us := us) (ps := ps) hm r, nd, x, m => by
    rw [List.map_cons, List.nodup_cons] at nd
    rcases List.mem_cons.mp m with rfl | m
    · unfold okAt
      rw [getI_no fun m => nd.1 ((PutsOk.sub r).subset m), hm]
      rfl
    · exact PutsOk.at r nd.2 x m
  | _, _, .put (p := p) (u := u) (q := q) (us := us) (ps := ps) hk _ r, nd, x, m => by
    rw [List.map_cons, List.nodup_cons] at nd
    rcases List.mem_cons.mp m with rfl | m
    · unfold okAt getI
      rw [List.map_cons, List.find?_cons, show decide ((ptOf (p, q)).1 = toI p) = true from decide_eq_true rfl]
      exact decide_eq_true hk
    · have r := PutsOk.at r nd.2 x m
      have ne : ¬ (ptOf (p, q)).1 = toI x.1 := fun e => nd.1 (by
        have : p = x.1 := toI_inj e
        rw [this]
        exact List.mem_map.mpr ⟨x, m, rfl⟩)
      unfold okAt getI at r ⊢
      rw [List.map_cons, List.find?_cons, decide_eq_false ne]
      exact r
theorem pps_places (t : Tr) : (t.pps []).map (·.1) = t.places := by rw [pps_fst]; simp
theorem well_of {b : Bk} {t : Tr} {ps : List (List Nat × Pl)} (h : PutsOk b (t.pps []) ps) : wellB b t (ps.map ptOf) = true := by
  have hr := lexLt_places t
  have nd : ((t.pps []).map (·.1)).Nodup := by
    rw [pps_places]
    exact List.Pairwise.of_map toI (fun a b h e => h (by rw [e])) (rising_nodup hr)
  unfold wellB
  rw [Bool.and_eq_true, List.all_eq_true, List.all_eq_true]
  refine ⟨fun x m => h.at nd x m, fun x m => ?_⟩
  obtain ⟨y, my, rfl⟩ := List.mem_map.mp m
  refine decide_eq_true ?_
  refine List.mem_map_of_mem (f := toI) ?_
  rw [← pps_places]
  exact h.sub.subset (List.mem_map_of_mem my)
theorem puts_of {b : Bk} {t : Tr} {ps : List (List Nat × Pl)} (h : PutsOk b (t.pps []) ps) : putsP (.tuple (ps.map Pl.encX)) = some (ps.map ptOf) := by
  refine goP_of ps none (fun _ _ => rfl) ?_
  have hr := lexLt_places t
  rw [← pps_places] at hr
  have := hr.sublist (h.sub.map toI)
  rw [List.map_map] at this
  exact this
theorem depX_le {ps : List (List Nat × Pl)} {n : Nat} (h : Pl.depL ps ≤ n) : ∀ x ∈ ps, x.2.dep ≤ n := by
  induction ps with
  | nil => intro x m; cases m
  | cons y ps ih =>
    intro x m
    obtain ⟨p, q⟩ := y
    rw [Pl.depL, Pl.depX] at h
    rcases List.mem_cons.mp m with rfl | m
    · show q.dep ≤ n
      omega
    · exact ih (by omega) x m
theorem PutsOk.each {b : Bk} : ∀ {us : List (List Nat × Tr)} {ps : List (List Nat × Pl)}, PutsOk b us ps → ∀ x ∈ ps, PlOk b x.2
  | _, _, .nil, x, m => by cases m
  | _, _, .skip _ r, x, m => PutsOk.each r x m
  | _, _, .put _ o r, x, m => by
    rcases List.mem_cons.mp m with rfl | m
    · exact o
    · exact PutsOk.each r x m
theorem PlOk.is {b : Bk} : ∀ {n : Nat} {q : Pl}, PlOk b q → q.dep ≤ n → isPlanN b n q.enc = true
  | 0, .mk k ps, _, h => by rw [Pl.dep] at h; omega
  | n + 1, .mk k ps, .mk e r, h => by
    rw [Pl.dep] at h
    rw [penc_eq]
    unfold isPlanN
    dsimp only [Pl.key, Pl.puts]
    rw [puts_of r, e]
    dsimp only
    rw [well_of r, Bool.true_and, List.all_eq_true]
    intro x m
    obtain ⟨y, my, rfl⟩ := List.mem_map.mp m
    rw [krD_pt]
    exact PlOk.is (r.each y my) (depX_le (by omega) y my)
theorem PlOk.keyIn {b : Bk} {q : Pl} (h : PlOk b q) : ∃ t, b.treeOf q.key = some t := by
  cases h with
  | mk e _ => exact ⟨_, e⟩
theorem PlOk.pre {h : Nat} {b : Bk} (B : BkZ h b) : ∀ {n : Nat} {q : Pl}, PlOk b q → q.dep ≤ n → preP n q.enc
  | 0, .mk k ps, _, h => by rw [Pl.dep] at h; omega
  | n + 1, .mk k ps, .mk (t := t) e r, h => by
    rw [Pl.dep] at h
    rw [penc_eq]
    intro k' ps' L eq hL
    dsimp only [Pl.key, Pl.puts] at eq
    injection eq with eq
    injection eq with e1 eq
    injection eq with e2 _
    rw [← e2, puts_of r] at hL
    cases hL
    constructor
    · have h1 := r.sub.length_le
      have h2 := B.z _ (treeOf_in e)
      rw [List.length_map, List.length_map, pps_len] at h1
      dsimp only at h2
      rw [List.length_map]
      omega
    · intro x m
      obtain ⟨y, my, rfl⟩ := List.mem_map.mp m
      have o := r.each y my
      obtain ⟨t', et⟩ := o.keyIn
      refine ⟨B.s.so _ (treeOf_in et), ?_⟩
      rw [krD_pt]
      exact PlOk.pre B o (depX_le (by omega) y my)
end GM
namespace GM
open PySem L2 GS
end GM
namespace GM
open PySem L2 GS
structure PQ (q : Pl) : Prop where
  tok : q.tok = true
  dep : q.dep ≤ 6
  size : q.size ≤ 12755
theorem bl1 : BL.length = 1 := by decide +kernel
/-- the words may be joined and read -/
theorem PQ.line {q : Pl} (Q : PQ q) : joinOk BL q.words = true ∧ (lineT q.words).length ≤ 10000000 ∧ q.words.length ≤ 51019 ∧ (∀ w ∈ q.words, w.length ≤ 40) ∧ (∀ w ∈ q.words, 32 ∉ w.cps.toList) ∧ ∀ w ∈ q.words, PyData.strOk w = true := by
  have h1 := pwords_len q
  have h2 := Q.size
  have h3 := words_wq q Q.tok
  have h4 : ∀ w ∈ q.words, w.length ≤ 40 := fun w m => (h3 w m).len
  refine ⟨joinOk_of (b := 40) (n := 60000) h4 (by omega) (by rw [bl1]; decide), ?_, by omega, h4, fun w m e => by have := (h3 w m).chr 32 e; omega, fun w m => strOk_of fun c mc => by have := (h3 w m).chr c mc; omega⟩
  have h5 := join_len BL q.words
  have h6 := sum_le h4
  rw [bl1] at h5
  unfold lineT
  omega
section
variable {Ft Fx Fr Fw Fp Fa Fb Fc : FF}
end
end GM
namespace GM
open PySem L2 GS
end GM
namespace GM
open PySem L2 GS
def Tr.whole (t : Tr) (top : Str) : Bool := !decide (t.feet.length = 1) && decide (t.name = top)
mutual
def Pl.within : Pl → List Pl
  | .mk k ps => .mk k ps :: Pl.withinL ps
def Pl.withinL : List (List Nat × Pl) → List Pl
  | [] => []
  | x :: r => Pl.withinX x ++ Pl.withinL r
def Pl.withinX : List Nat × Pl → List Pl
  | (_, q) => q.within
end
mutual
theorem PlOk.inner {b : Bk} : ∀ {q : Pl}, PlOk b q → ∀ r ∈ q.within, PlOk b r ∧ r.dep ≤ q.dep ∧ r.size ≤ q.size
  | .mk k ps, .mk e o, r, m => by
    rw [Pl.within] at m
    rcases List.mem_cons.mp m with rfl | m
    · exact ⟨.mk e o, Nat.le_refl _, Nat.le_refl _⟩
    · obtain ⟨h1, h2, h3⟩ := PutsOk.inner o r m
      rw [Pl.dep, Pl.size]
      exact ⟨h1, by omega, by omega⟩
theorem PutsOk.inner {b : Bk} : ∀ {us : List (List Nat × Tr)} {ps : List (List Nat × Pl)}, PutsOk b us ps → ∀ r ∈ Pl.withinL ps, PlOk b r ∧ r.dep ≤ Pl.depL ps ∧ r.size ≤ Pl.sizeL ps
  | _, _, .nil, r, m => by cases m
  | _, _, .skip _ o, r, m => PutsOk.inner o r m
  | _, _, .put _ q o, r, m => by
    rw [Pl.withinL, Pl.withinX] at m
    rw [Pl.depL, Pl.depX, Pl.sizeL, Pl.sizeX]
    rcases List.mem_append.mp m with m | m
    · obtain ⟨h1, h2, h3⟩ := PlOk.inner q r m
      exact ⟨h1, by omega, by omega⟩
    · obtain ⟨h1, h2, h3⟩ := PutsOk.inner o r m
      exact ⟨h1, by omega, by omega⟩
end
end GM
namespace GM
open PySem L2 GS
theorem PutsOk.split {b : Bk} : ∀ {us vs : List (List Nat × Tr)} {ps : List (List Nat × Pl)}, PutsOk b (us ++ vs) ps → ∃ ps1 ps2, ps = ps1 ++ ps2 ∧ PutsOk b us ps1 ∧ PutsOk b vs ps2
  | [], vs, ps, h => ⟨[], ps, rfl, .nil, h⟩
  | (p, u) :: us, vs, ps, h => by
    cases h with
    | skip m r =>
      obtain ⟨a, c, e, h1, h2⟩ := PutsOk.split r
      exact ⟨a, c, e, .skip m h1, h2⟩
    | put m o r =>
      obtain ⟨a, c, e, h1, h2⟩ := PutsOk.split r
      exact ⟨_ :: a, c, by rw [e]; rfl, .put m o h1, h2⟩
/-- .. and nothing of a hole's own -/
def f0 {α : Type} (f : Tr → List α) : Tr → List α
  | .hole _ => []
  | t => f t
section
variable {α : Type} {f : Tr → List α} {h : Nat} {b : Bk} {g : List Nat → Option Tr} {G : Pl → Tr}
end
end GM
namespace GM
open PySem L2 GS
mutual
def Pl.keys : Pl → List Str
  | .mk k ps => k :: Pl.keysL ps
def Pl.keysL : List (List Nat × Pl) → List Str
  | [] => []
  | x :: r => Pl.keysX x ++ Pl.keysL r
def Pl.keysX : List Nat × Pl → List Str
  | (_, q) => q.keys
end
theorem base_nil {h : Nat} {b : Bk} (B : BookOk h b) {k : Str} {ps : List (List Nat × Pl)} (o : PlOk b (.mk k ps)) (hk : k ∈ baseK) : ps = [] := by
  cases o with
  | mk e r =>
    rename_i t
    have nw := (B.bs _ (treeOf_in e) hk).w
    have none : ∀ {vs : List (List Nat × Tr)} {rs : List (List Nat × Pl)}, (∀ x ∈ vs, noW x.2 = true) → PutsOk b vs rs → rs = [] := fun {vs rs} hv r => by
      induction vs generalizing rs with
      | nil => cases r; rfl
      | cons v vs ih =>
        cases r with
        | skip _ r => exact ih (fun x mx => hv x (by simp [mx])) r
        | put m _ _ =>
          have := want_no (hv _ List.mem_cons_self)
          unfold Bk.takers at m
          dsimp only at this
          rw [this] at m
          cases m
    exact none (fun x mx => nw x.2 (by rw [← pps_snd t []]; exact List.mem_map_of_mem mx)) r
mutual
/-- how many keys, by how many are none of the six -/
theorem PlOk.few {h : Nat} {b : Bk} (B : BookOk h b) : ∀ {q : Pl}, PlOk b q → q.size ≤ 1 + 50 * q.nb
  | .mk k ps, .mk (t := t) e r => by
    have h1 := PutsOk.few B r
    have h2 := (B.trees _ (treeOf_in e)).sz
    have h3 := r.sub.length_le
    rw [List.length_map, List.length_map, pps_len] at h3
    dsimp only at h2
    rw [Pl.size, Pl.nb]
    by_cases kb : k ∈ baseK
    · have := base_nil B (.mk e r) kb
      subst this
      simp [Pl.sizeL]
    · rw [if_neg kb]
      omega
theorem PutsOk.few {h : Nat} {b : Bk} (B : BookOk h b) : ∀ {us : List (List Nat × Tr)} {ps : List (List Nat × Pl)}, PutsOk b us ps → Pl.sizeL ps ≤ ps.length + 50 * Pl.nbL ps
  | _, _, .nil => by simp [Pl.sizeL]
  | _, _, .skip _ r => PutsOk.few B r
  | _, _, .put _ o r => by
    have h1 := PlOk.few B o
    have h2 := PutsOk.few B r
    rw [Pl.sizeL, Pl.sizeX, Pl.nbL, Pl.nbX, List.length_cons]
    omega
end
section
variable {b : Bk} {g : List Nat → Option Tr} {G : Pl → Tr} {H : Nat} {w : Pl → Nat}
end
end GM
namespace GM
open PySem L2 GS
end GM
namespace GM
open PySem L2 GS
section
variable {Fb Fw Fa Ft : FF}
end
end GM
namespace GM
open PySem L2 GS
end GM
namespace GM
open PySem L2 GS
mutual
theorem show_enc : ∀ t : Tr, t.ok = true → t.enc.showable = true ∧ t.enc.intsShort 13 = true ∧ t.enc.weight ≤ 90 * t.pieces.length + (t.pieces.length - 1)
  | .sign s, h => by
    have := (signB_len h).2
    have e : (PyData.str (Str.ofString "sign")).weight = 4 := by decide +kernel
    have e2 : (PyData.str s).weight = s.length := rfl
    refine ⟨rfl, rfl, ?_⟩
    simp only [Tr.enc, PyData.weight, PyData.weightAll, Tr.pieces, List.length_singleton] at e e2 ⊢
    omega
  | .void, _ => ⟨rfl, rfl, by decide +kernel⟩
  | .hole s, h => by
    have := (nameB_len h).2
    have e : (PyData.str (Str.ofString "hole")).weight = 4 := by decide +kernel
    have e2 : (PyData.str s).weight = s.length := rfl
    refine ⟨rfl, rfl, ?_⟩
    simp only [Tr.enc, PyData.weight, PyData.weightAll, Tr.pieces, List.length_singleton] at e e2 ⊢
    omega
  | .foot s, h => by
    have := (nameB_len h).2
    have e : (PyData.str (Str.ofString "foot")).weight = 4 := by decide +kernel
    have e2 : (PyData.str s).weight = s.length := rfl
    refine ⟨rfl, rfl, ?_⟩
    simp only [Tr.enc, PyData.weight, PyData.weightAll, Tr.pieces, List.length_singleton] at e e2 ⊢
    omega
  | .knot n tk ks, h => by
    obtain ⟨o1, o2, o3, o4, o5⟩ := knot_parts h
    have h1 := (nameB_len o1).2
    obtain ⟨k1, k2, k3⟩ := showL_enc ks (okL_of o5)
    have e : (PyData.str (Str.ofString "knot")).weight = 4 := by decide +kernel
    have e2 : (PyData.str n).weight = n.length := rfl
    have tkw : (encTk tk).showable = true ∧ (encTk tk).intsShort 13 = true ∧ (encTk tk).weight ≤ 30 := by
      cases tk with
      | none => exact ⟨rfl, rfl, by decide⟩
      | some p =>
        obtain ⟨m, c⟩ := p
        have h2 := (nameB_len (show nameB m = true from o2)).2
        have e3 : (PyData.str m).weight = m.length := rfl
        refine ⟨rfl, rfl, ?_⟩
        simp only [encTk, PyData.weight, PyData.weightAll] at e3 ⊢
        omega
    refine ⟨?_, ?_, ?_⟩
    · simp only [Tr.enc, PyData.showable, PyData.showableAll, tkw.1, k1]; rfl
    · simp only [Tr.enc, PyData.intsShort, PyData.intsShortAll, tkw.2.1, k2]; rfl
    · have tw := tkw.2.2
      simp only [Tr.enc, PyData.weight, PyData.weightAll, Tr.pieces, List.length_cons] at e e2 tw ⊢
      omega
theorem showL_enc : ∀ ts : List Tr, Tr.okL ts = true → PyData.showableAll (Tr.encL ts) = true ∧ PyData.intsShortAll 13 (Tr.encL ts) = true ∧ PyData.weightAll (Tr.encL ts) ≤ 91 * (Tr.piecesL ts).length
  | [], _ => ⟨rfl, rfl, by simp [Tr.encL, PyData.weightAll]⟩
  | t :: ts, h => by
    rw [Tr.okL, Bool.and_eq_true] at h
    obtain ⟨a1, a2, a3⟩ := show_enc t h.1
    obtain ⟨b1, b2, b3⟩ := showL_enc ts h.2
    have p1 : 1 ≤ t.pieces.length := by rw [pieces_kids]; simp
    refine ⟨by rw [Tr.encL, PyData.showableAll, a1, b1]; rfl, by rw [Tr.encL, PyData.intsShortAll, a2, b2]; rfl, ?_⟩
    rw [Tr.encL, PyData.weightAll, Tr.piecesL, List.length_append]
    omega
end
theorem repr_enc {t : Tr} (ok : t.ok = true) (hh : t.ht ≤ 31) (hz : t.pieces.length ≤ 10000) : reprD t.enc = some (.sh (.str t.enc.shown)) := by
  obtain ⟨h1, h2, h3⟩ := show_enc t ok
  have hc := clean_enc t ok
  have oe := okEq_of hc (by have := depth_enc t; omega)
  have hs := PyData.shown_fits (B := 13) (by omega) (by omega) (PyData.leavesShort_of_canLay0 13 _ (clean_ok _ hc).2 h2) (by
    have : (2 : Nat) ^ 20 = 1048576 := by decide
    omega)
  obtain ⟨w, r, he⟩ := enc_word t
  rw [he] at h1 oe hs ⊢
  exact reprD_t oe h1 hs
def dpN (i : Nat) : Str := [Str.ofString "S1", Str.ofString "S2", Str.ofString "Z"].getD i default
def deepK : Nat → List Tr → List Tr
  | 0, ks => ks
  | n + 1, ks => [.knot (dpN n) none (deepK n ks)]
def Tr.deepen (n : Nat) : Tr → Tr
  | .knot nm tk ks => .knot nm tk (deepK n ks)
  | t => t
theorem deepK_pc (ks : List Tr) : ∀ n, ((deepK n ks).flatMap Tr.pieces).length = (ks.flatMap Tr.pieces).length + n
  | 0 => rfl
  | n + 1 => by
    rw [deepK, List.flatMap_cons, List.flatMap_nil, List.append_nil, pieces_knot, deepK_pc ks n]
    omega
theorem deepK_ft (ks : List Tr) : ∀ n, (deepK n ks).flatMap Tr.feet = ks.flatMap Tr.feet
  | 0 => rfl
  | n + 1 => by rw [deepK, List.flatMap_cons, List.flatMap_nil, List.append_nil, feet_knot, deepK_ft ks n]
theorem deepK_sg (ks : List Tr) : ∀ n, (deepK n ks).flatMap Tr.signs = ks.flatMap Tr.signs
  | 0 => rfl
  | n + 1 => by rw [deepK, List.flatMap_cons, List.flatMap_nil, List.append_nil, signs_knot, deepK_sg ks n]
theorem deepK_ht (ks : List Tr) : ∀ n, Tr.htL (deepK n ks) = Tr.htL ks + n
  | 0 => rfl
  | n + 1 => by
    rw [deepK, Tr.htL, Tr.htL, Tr.ht, deepK_ht ks n]
    omega
theorem dpN_ok : ∀ n, n ≤ 2 → nameB (dpN n) = true
  | 0, _ => by decide +kernel
  | 1, _ => by decide +kernel
  | 2, _ => by decide +kernel
  | n + 3, h => by omega
theorem dpN_3 : ∀ n, n ≤ 1 → dpN n ∈ nm3
  | 0, _ => by decide +kernel
  | 1, _ => by decide +kernel
  | n + 2, h => by omega
theorem deepK_ok {ks : List Tr} (h : Tr.okL ks = true) (h1 : 1 ≤ ks.length) (h8 : ks.length ≤ 8) : ∀ n, n ≤ 3 → Tr.okL (deepK n ks) = true ∧ 1 ≤ (deepK n ks).length ∧ (deepK n ks).length ≤ 8
  | 0, _ => ⟨h, h1, h8⟩
  | n + 1, hn => by
    obtain ⟨i1, i2, i3⟩ := deepK_ok h h1 h8 n (by omega)
    refine ⟨?_, by rw [deepK]; simp, by rw [deepK]; simp⟩
    rw [deepK, Tr.okL, Tr.okL, Tr.ok, dpN_ok n (by omega), i1, decide_eq_true i2, decide_eq_true i3]
    rfl
theorem deepK_wn {ks : List Tr} (h : ∀ k ∈ ks, Wn k) : ∀ n, n ≤ 2 → ∀ k ∈ deepK n ks, Wn k
  | 0, _ => h
  | n + 1, hn => fun k m => by
    rw [deepK] at m
    simp only [List.mem_cons, List.not_mem_nil, or_false] at m
    subst m
    exact Wn.knot (by rw [decide_eq_true (dpN_3 n (by omega))]; rfl) (deepK_wn h n (by omega))
theorem deepK_nw {ks : List Tr} (h : ∀ k ∈ ks, NoW k) : ∀ n, ∀ k ∈ deepK n ks, NoW k
  | 0 => h
  | n + 1 => fun k m => by
    rw [deepK] at m
    simp only [List.mem_cons, List.not_mem_nil, or_false] at m
    subst m
    intro u mu
    rw [Tr.pieces] at mu
    rcases List.mem_cons.mp mu with rfl | mu
    · rfl
    · rw [piecesL_flat] at mu
      obtain ⟨k, mk, mu⟩ := List.mem_flatMap.mp mu
      exact deepK_nw h n k mk u mu
theorem knot_all {P : Tr → Prop} {n : Str} {tk : Option (Str × Bool)} {ks : List Tr} (h : ∀ u ∈ (Tr.knot n tk ks).pieces, P u) : ∀ k ∈ ks, ∀ u ∈ k.pieces, P u := fun k mk u mu => h u (by
  rw [Tr.pieces, piecesL_flat]
  exact List.mem_cons_of_mem _ (List.mem_flatMap.mpr ⟨k, mk, mu⟩))
theorem knot_is {t : Tr} (h : t.isKnot = true) : ∃ n tk ks, t = .knot n tk ks := by
  cases t <;> first | exact ⟨_, _, _, rfl⟩ | cases h
theorem TreeOk.deep {h : Nat} {t : Tr} (T : TreeOk h t) (h3 : h ≤ 3) {n : Nat} (hn : n ≤ 2) : TreeOk (h + 2) (t.deepen n) ∧ (t.deepen n).feet = t.feet ∧ (t.deepen n).word = t.word ∧ (NoW t → NoW (t.deepen n)) ∧ (t.deepen n).ht = t.ht + n := by
  obtain ⟨nm, tk, ks, rfl⟩ := knot_is T.kn
  obtain ⟨o1, o2, o3, o4, o5⟩ := knot_parts T.ok
  obtain ⟨d1, d2, d3⟩ := deepK_ok (okL_of o5) o3 o4 n (by omega)
  have pc := deepK_pc ks n
  have ft : (Tr.knot nm tk (deepK n ks)).feet = (Tr.knot nm tk ks).feet := by rw [feet_knot, feet_knot, deepK_ft]
  have s4 := T.s4
  have hh := T.ht
  rw [pieces_knot] at s4
  rw [Tr.ht] at hh
  have hw := T.wn
  have nh : (Tr.knot nm tk (deepK n ks)).ht = (Tr.knot nm tk ks).ht + n := by rw [Tr.ht, Tr.ht, deepK_ht]; omega
  show TreeOk (h + 2) (.knot nm tk (deepK n ks)) ∧ _
  refine ⟨⟨?_, rfl, by rw [ft]; exact T.feet, ?_, ?_, ?_, ?_, ?_⟩, ft, rfl, fun hnw => ?_, nh⟩
  · simp only [Tr.ok, Bool.and_eq_true, decide_eq_true_eq]
    exact ⟨o1, o2, d2, d3, d1⟩
  · rw [Tr.ht, deepK_ht]; omega
  · rw [pieces_knot, pc]; omega
  · rw [pieces_knot, pc]; omega
  · rw [signs_knot, deepK_sg, ← signs_knot nm tk ks]; exact T.sg
  · exact Wn.knot hw.self (deepK_wn (knot_all hw) n hn)
  · intro u mu
    rw [Tr.deepen, Tr.pieces] at mu
    rcases List.mem_cons.mp mu with rfl | mu
    · have := hnw (.knot nm tk ks) (by rw [Tr.pieces]; simp)
      cases tk with
      | none => rfl
      | some w => exact this
    · rw [piecesL_flat] at mu
      obtain ⟨k, mk, mu⟩ := List.mem_flatMap.mp mu
      exact deepK_nw (knot_all hnw) n k mk u mu
theorem TreeOk.up {h h' : Nat} {t : Tr} (T : TreeOk h t) (hh : h ≤ h') : TreeOk h' t := ⟨T.ok, T.kn, T.feet, Nat.le_trans T.ht hh, T.sz, by have := T.s4; omega, T.sg, T.wn⟩
end GM
namespace GM
open PySem L2 GS
/-- law(script); slots 0:script 1:state 2:cell 3:book 4:some 5:foot 6:count 7:tree 8:great 9:told 10:thing 11:k 12:one -/
def m_law_k06_ce1 (F_is_book F__law_is_book F__law_bent F__law_book F__law_cell : FF) : EF := (eTup (aCons (eBin addD (eC (.str (Str.ofString "k"))) (eCB (un1 strD) (aCons (eVb 11) aNil))) (aCons (eMv 7) aNil)))
def m_law_k06_ct2 (F_is_book F__law_is_book F__law_bent F__law_book F__law_cell : FF) : EF := (eB (eBin (eqB false) (eBin (inT false) (eC (.str (Str.ofString "'foot'"))) (eCB (un1 reprD) (aCons (eBin ixA (eVb 12) (eC (.int 1))) aNil))) (eVb 5)))
def m_law_k06_ce3 (F_is_book F__law_is_book F__law_bent F__law_book F__law_cell : FF) : EF := (eMv 12)
def m_law_k06_b4 (F_is_book F__law_is_book F__law_bent F__law_book F__law_cell : FF) : SF := (sKill [4, 5] (sSeq (sSet 4 (eCB (un1 tupleD) (aCons (eLc [12] (iSq (eBin ixA (eVb 3) (eC (.int 1)))) (gN 12) (eNox (m_law_k06_ct2 F_is_book F__law_is_book F__law_bent F__law_book F__law_cell)) (eNox (m_law_k06_ce3 F_is_book F__law_is_book F__law_bent F__law_book F__law_cell))) aNil))) (sIf (eB (eBin (eqB true) (eCall 1 none F_is_book (aCons (eTup (aCons (eBin ixA (eVb 3) (eC (.int 0))) (aCons (eMv 4) aNil))) aNil)) (eBin (ltI fun i j => decide (j < i)) (eCB (un1 lenD) (aCons (eVb 4) aNil)) (eC (.int 0))))) (sEnd (sRet (eC (.bool false)))) sNil)))
def m_law_k06_ce5 (F_is_book F__law_is_book F__law_bent F__law_book F__law_cell : FF) : EF := (eSl (eBin ixA (eVb 3) (eC (.int 1))) (some (eVb 11)) (some (eBin addD (eVb 11) (eC (.int 1)))))
def m_law_k06_b6 (F_is_book F__law_is_book F__law_bent F__law_book F__law_cell : FF) : SF := (sKill [4] (sIf (eB (eBin (isD true) (eCall 1 none F_is_book (aCons (eTup (aCons (eBin ixA (eVb 3) (eC (.int 0))) (aCons (eMv 4) aNil))) aNil)) (eC (.bool true)))) (sEnd (sRet (eC (.bool false)))) sNil))
def m_law_k06_b7 (F_is_book F__law_is_book F__law_bent F__law_book F__law_cell : FF) : SF := (sKill [2, 9, 10] (sSeq (sSet 10 (eCall 2 none F__law_bent (aCons (eMv 3) (aCons (eMv 2) aNil)))) (sSeq (sSet 9 (eCall 1 none F_is_book (aCons (eMv 10) aNil))) (sIf (eOr (eNot (eB (eIsi isBool (eVb 9)))) (eB (eBin (eqB true) (eVb 9) (eCall 1 none F__law_is_book (aCons (eMv 10) aNil))))) (sEnd (sRet (eC (.bool false)))) sNil))))
def m_law_k06 (F_is_book F__law_is_book F__law_bent F__law_book F__law_cell : FF) : SF := (sSeq (sSet 1 (eDct (dCons (eC (.str (Str.ofString "script"))) (eMv 0) (dCons (eC (.str (Str.ofString "at"))) (eC (.int 0)) dNil)))) (sSeq (sSet 2 (eCall 1 (some 0) F__law_cell (aCons (eVb 1) aNil))) (sSeq (sSet 3 (eCall 3 (some 0) F__law_book (aCons (eVb 1) (aCons (eBin modD (eVb 2) (eC (.int 6))) (aCons (eC (.int 2)) aNil))))) (sSeq (sIf (eOr (eB (eBin (isD true) (eCall 1 none F_is_book (aCons (eMv 3) aNil)) (eC (.bool true)))) (eNot (eB (eCall 1 none F__law_is_book (aCons (eMv 3) aNil))))) (sEnd (sRet (eC (.bool false)))) sNil) (sSeq (sFor (iSq (eIf (eB (eBin (ltI fun i j => decide (j < i)) (eCB (un1 lenD) (aCons (eVb 0) aNil)) (eC (.int 0)))) (eSl (eVb 0) none (some (eC (.int 12)))) (eLst (aCons (eC (.int 0)) aNil)))) (gN 2) (m_law_k06_b7 F_is_book F__law_is_book F__law_bent F__law_book F__law_cell)) (sSeq (sFor (iSq (eLc [11] (iR1 (eCB (un1 lenD) (aCons (eBin ixA (eVb 3) (eC (.int 1))) aNil))) (gN 11) (eNox eYes) (eNox (m_law_k06_ce5 F_is_book F__law_is_book F__law_bent F__law_book F__law_cell)))) (gN 4) (m_law_k06_b6 F_is_book F__law_is_book F__law_bent F__law_book F__law_cell)) (sSeq (sFor (iSq (eLst (aCons (eC (.bool true)) (aCons (eC (.bool false)) aNil)))) (gN 5) (m_law_k06_b4 F_is_book F__law_is_book F__law_bent F__law_book F__law_cell)) (sSeq (sSet 6 (eBin addD (eC (.int 400)) (eIf (eB (eBin (ltI fun i j => decide (j < i)) (eCB (un1 lenD) (aCons (eVb 0) aNil)) (eC (.int 0)))) (eBin modD (eBin ixA (eVb 0) (eC (.int 0))) (eC (.int 2))) (eC (.int 0))))) (sSeq (sSet 7 (eTup (aCons (eC (.str (Str.ofString "knot"))) (aCons (eC (.str (Str.ofString "S"))) (aCons (eC .none) (aCons (eTup (aCons (eTup (aCons (eC (.str (Str.ofString "sign"))) (aCons (eC (.str (Str.ofString "a"))) aNil))) aNil)) aNil)))))) (sSeq (sSet 8 (eTup (aCons (eC (.str (Str.ofString "S"))) (aCons (eCB (un1 tupleD) (aCons (eLc [11] (iR1 (eVb 6)) (gN 11) (eNox eYes) (eNox (m_law_k06_ce1 F_is_book F__law_is_book F__law_bent F__law_book F__law_cell))) aNil)) aNil)))) (sSeq (sSet 9 (eCall 1 none F_is_book (aCons (eMv 8) aNil))) (sEnd (sRet (eAnd (eB (eIsi isBool (eVb 9))) (eBin (eqB false) (eVb 9) (eBin (eqB false) (eVb 6) (eC (.int 400))))))))))))))))))
theorem m_law_k06_eq (F_is_book F__law_is_book F__law_bent F__law_book F__law_cell : FF) (ρ : Rho) : fnF 13 1 (m_law_k06 F_is_book F__law_is_book F__law_bent F__law_book F__law_cell) ρ = finR 1 (m_law_k06 F_is_book F__law_is_book F__law_bent F__law_book F__law_cell (ρ ++ [none, none, none, none, none, none, none, none, none, none, none, none])) := fnF_eq 13 1 _
end GM
namespace GM
open PySem L2 GS
def keyNo (z : Str) : Nat := z.cps.toList.tail.foldl (fun a c => a * 10 + (c - 48)) 0
theorem keyK_fine : ((List.range 401).all fun k => keyB (keyK k) && decide (keyNo (keyK k) = k)) = true := by decide +kernel
theorem keyK_ok {k : Nat} (h : k < 401) : keyB (keyK k) = true ∧ keyNo (keyK k) = k := by
  have := List.all_eq_true.mp keyK_fine k (List.mem_range.mpr h)
  simpa using this
/-- some of the trees of a book are a book -/
theorem sub_book {top : Str} {L : List (Str × Tr)} (ht : nameB top = true) (hk : ∀ p ∈ L, keyB p.1 = true ∧ p.2.ok = true ∧ am p.2 = none) (hl : L.length ≤ 400) (nd : (L.map (·.1)).Nodup) : bookD (.tuple [.str top, .tuple (L.map encKT)]) = decide (1 ≤ L.length) := by
  rw [bookD_eq, ht, List.length_map, decide_eq_true hl]
  have h1 : (L.map encKT).all entD = true := by
    rw [List.all_eq_true]
    intro d m
    obtain ⟨p, mp, rfl⟩ := List.mem_map.mp m
    exact entD_iff.mpr ⟨p, rfl, hk p mp⟩
  have h2 : ((L.map encKT).map keyOf).Nodup := by
    rw [List.map_map]
    exact nd
  rw [h1, decide_eq_true h2]
  simp
theorem book_ent {b : Bk} (B : BookOk 3 b) : ∀ p ∈ b.trees, keyB p.1 = true ∧ p.2.ok = true ∧ am p.2 = none := fun p mp => ⟨allK_ok p.1 (B.keys p mp), (B.trees p mp).ok, am_none (B.trees p mp) (by omega)⟩
theorem book_gd {top : Str} {L : List (Str × Tr)} (ht : nameB top = true) (hk : ∀ p ∈ L, keyB p.1 = true ∧ Gd2 7 450 p.2.enc) (hl : L.length ≤ 20) : GdD 43 (.tuple [.str top, .tuple (L.map encKT)]) := by
  have h1 : Gd2 0 1 (.str top) := Gd2.str (nameB_strOk ht) (by have := (nameB_len ht); omega)
  have h2 : Gd2 9 28001 (.tuple (L.map encKT)) := (Gd2.tup (n := 8) (m := 1400) (k := 20) (fun d m => by
    obtain ⟨p, mp, rfl⟩ := List.mem_map.mp m
    obtain ⟨k1, g⟩ := hk p mp
    have h3 : Gd2 0 1 (.str p.1) := Gd2.str (keyB_strOk k1) (by have := (keyB_len k1); omega)
    exact (Gd2.tup (k := 3) (all2 (h3.up (n' := 7) (m' := 450) (by omega) (by omega)) g) (by simp)).up (by omega) (by omega)) (by simpa using hl)).up (by omega) (by omega)
  exact (Gd2.tup (k := 2) (all2 (h1.up (n' := 9) (m' := 28001) (by omega) (by omega)) h2) (by simp)).up (n' := 43) (m' := 100000) (by omega) (by omega) |>.gd (by omega)
section
variable {Fi Fl Fb Fk Fc : FF}
def rK06 (sc st bk : D) (x2 : Option Cel) (x9 : Option Cel) : Rho := [some ⟨sc, .sh⟩, some ⟨st, .ow⟩, x2, some ⟨bk, .sh⟩, none, none, none, none, none, x9, none, none, none]
theorem k06_bends (hi : BookDSp 43 Fi) (hl : BookDSp 43 Fl) (hb : BentK Fb) {b : Bk} (B : BookOk 3 b) (sc st : D) : ∀ (cs : List Int) (x2 : Option Cel), ioC x2 = none → ∃ x2', ioC x2' = none ∧ forL (gN 2) (m_law_k06_b7 Fi Fl Fb Fk Fc) (cs.map .int) (rK06 sc st b.enc x2 none) = .nx (rK06 sc st b.enc x2' none) := fun cs x2 h2 => by
  obtain ⟨x2', f, h⟩ := forL_by (S := Option Cel) (g := gN 2) (b := m_law_k06_b7 Fi Fl Fb Fk Fc) (fun x2 => rK06 sc st b.enc x2 none) (fun _ x2 => ioC x2 = none) (cs.map .int) x2 h2 (fun pre d post x2 hd h2 => by
    obtain ⟨c, _, rfl⟩ : ∃ c ∈ cs, PyData.int c = d := List.mem_map.mp (by rw [hd]; simp)
    obtain ⟨d, e1, g⟩ := hb b c B
    have g' := (g.up (n' := 43) (m' := 100000) (by omega) (by omega)).gd (by omega)
    have e2 := hi d g'
    have e3 := hl d g'
    refine ⟨none, ?_, rfl⟩
    unfold rK06
    generalize b.enc = be at e1
    generalize bookD d = bd at e2 e3
    cases x2 with
    | none => cases bd <;> simp [m_law_k06_b7, e1, e2, e3]
    | some cl =>
      obtain ⟨d2, fl⟩ := cl
      cases fl with
      | io => cases h2
      | sh => cases bd <;> simp [m_law_k06_b7, e1, e2, e3]
      | ow => cases bd <;> simp [m_law_k06_b7, e1, e2, e3])
  exact ⟨x2', h, f⟩
theorem book_true {b : Bk} (B : BookOk 3 b) : bookD b.enc = true ∧ GdD 43 b.enc := by
  have hl := B.len
  have hp := B.pos
  refine ⟨?_, book_gd B.top (fun p mp => ⟨(book_ent B p mp).1, (B.trees p mp).gd⟩) (by omega)⟩
  have := sub_book B.top (book_ent B) (by omega) B.nd
  rw [decide_eq_true (by omega)] at this
  exact this
/-- each tree alone -/
theorem k06_ones (hi : BookDSp 43 Fi) {b : Bk} (B : BookOk 3 b) (sc st : D) (x2 : Option Cel) : forL (gN 4) (m_law_k06_b6 Fi Fl Fb Fk Fc) (b.trees.map fun p => PyData.tuple [encKT p]) (rK06 sc st b.enc x2 none) = .nx (rK06 sc st b.enc x2 none) := by
  have := forL_look (g := gN 4) (b := m_law_k06_b6 Fi Fl Fb Fk Fc) (rK06 sc st b.enc x2 none) [] (fun p => PyData.tuple [encKT p]) (fun _ => true) (.sh .none) b.trees fun p mp => by
    have e0 := sub_book (top := b.top) (L := [p]) B.top (fun q m => by simp at m; subst m; exact book_ent B q mp) (by simp) (by simp)
    have g := book_gd (top := b.top) (L := [p]) B.top (fun q m => by simp at m; subst m; exact ⟨(book_ent B q mp).1, (B.trees q mp).gd⟩) (by simp)
    rw [List.map_cons, List.map_nil] at e0 g
    have e1 := hi _ g
    rw [e0] at e1
    have ix0 := ix_top b
    unfold rK06
    generalize b.enc = be at ix0
    generalize encKT p = pe at e1
    simp at e1
    simp [m_law_k06_b6, ix0, e1]
  rw [List.all_eq_true.mpr fun _ _ => rfl, if_pos rfl] at this
  exact this
/-- those with a foot, and the others -/
theorem k06_foot (hi : BookDSp 43 Fi) {b : Bk} (B : BookOk 3 b) (sc st : D) (x2 : Option Cel) (f : Bool) : optR (gN 5 (.bool f) (rK06 sc st b.enc x2 none)) (m_law_k06_b4 Fi Fl Fb Fk Fc) = .nx (rK06 sc st b.enc x2 none) := by
  have hl := B.len
  have ix0 := ix_top b
  have ix1 := ix_trees b
  have lc := lcL_up (vs := [12]) (g := gN 12) (ft := eNox (m_law_k06_ct2 Fi Fl Fb Fk Fc)) (fe := eNox (m_law_k06_ce3 Fi Fl Fb Fk Fc)) [some ⟨sc, .sh⟩, some ⟨st, .ow⟩, x2, some ⟨b.enc, .sh⟩, none, some ⟨.bool f, .sh⟩, none, none, none, none, none, none, none] encKT
    (fun p => [some ⟨sc, .sh⟩, some ⟨st, .ow⟩, x2, some ⟨b.enc, .sh⟩, none, some ⟨.bool f, .sh⟩, none, none, none, none, none, none, some ⟨encKT p, .sh⟩]) (fun p => decide (occB (Str.ofString "'foot'") p.2.enc.shown = f)) encKT b.trees [] (fits (by simp; omega)) (fun p mp => by
      have T := B.trees p mp
      have rp := repr_enc T.ok (by have := T.ht; omega) (by have := T.sz; omega)
      generalize b.enc = be
      unfold encKT
      generalize p.2.enc = te at rp
      exact ⟨by simp, by simp [m_law_k06_ct2, rp], by simp, fun _ => by simp [m_law_k06_ce3]⟩)
  rw [List.nil_append] at lc
  have mem : ∀ p ∈ b.trees.filter (fun p => decide (occB (Str.ofString "'foot'") p.2.enc.shown = f)), p ∈ b.trees := fun p m => (List.mem_filter.mp m).1
  have fl : (b.trees.filter (fun p => decide (occB (Str.ofString "'foot'") p.2.enc.shown = f))).length ≤ b.trees.length := List.length_filter_le _ _
  have e0 := sub_book (top := b.top) (L := b.trees.filter (fun p => decide (occB (Str.ofString "'foot'") p.2.enc.shown = f))) B.top (fun q m => book_ent B q (mem q m)) (by omega) (B.nd.sublist ((List.filter_sublist).map _))
  have g := book_gd (top := b.top) (L := b.trees.filter (fun p => decide (occB (Str.ofString "'foot'") p.2.enc.shown = f))) B.top (fun q m => ⟨(book_ent B q (mem q m)).1, (B.trees q (mem q m)).gd⟩) (by omega)
  have e1 := hi _ g
  rw [e0] at e1
  generalize b.trees.filter (fun p => decide (occB (Str.ofString "'foot'") p.2.enc.shown = f)) = L at lc e1
  have ll : (L.map encKT).length = L.length := List.length_map ..
  generalize L.map encKT = Le at lc e1 ll
  generalize b.trees.map encKT = bt at lc ix1
  unfold rK06
  generalize b.enc = be at lc ix0 ix1
  by_cases q : 1 ≤ L.length
  · have q' : (0 : Int) < (L.length : Int) := by omega
    have q'' : 0 < L.length := by omega
    rw [decide_eq_true q] at e1
    simp [m_law_k06_b4, ix0, ix1, lc, e1, ll, q', q'']
  · have q' : ¬ (0 : Int) < (L.length : Int) := by omega
    have q'' : ¬ 0 < L.length := by omega
    rw [decide_eq_false q] at e1
    simp [m_law_k06_b4, ix0, ix1, lc, e1, ll, q', q'']
def tA : Tr := kS [aS]
theorem tA_ok : tA.ok = true ∧ am tA = none ∧ Gd2 4 12 tA.enc := ⟨by decide +kernel, by decide +kernel, gd_lit (by decide +kernel)⟩
/-- four hundred trees, or one more -/
theorem k06_great (n : Nat) (hn : n ≤ 401) (hn4 : 400 ≤ n) : bookD (.tuple [.str (Str.ofString "S"), .tuple (((List.range n).map fun k => (keyK k, tA)).map encKT)]) = decide (n = 400) ∧ GdD 43 (.tuple [.str (Str.ofString "S"), .tuple (((List.range n).map fun k => (keyK k, tA)).map encKT)]) := by
  have hk : ∀ p ∈ (List.range n).map fun k => (keyK k, tA), keyB p.1 = true ∧ p.2 = tA := fun p m => by
    obtain ⟨k, mk, rfl⟩ := List.mem_map.mp m
    have := List.mem_range.mp mk
    exact ⟨(keyK_ok (by omega)).1, rfl⟩
  have ll : ((List.range n).map fun k => (keyK k, tA)).length = n := by simp
  constructor
  · by_cases q : n = 400
    · rw [sub_book (by decide +kernel) (fun p m => ⟨(hk p m).1, by rw [(hk p m).2]; exact tA_ok.1, by rw [(hk p m).2]; exact tA_ok.2.1⟩) (by rw [ll]; omega) ?_, ll, decide_eq_true q, decide_eq_true (by omega)]
      rw [List.map_map]
      show ((List.range n).map fun k => keyK k).Nodup
      unfold List.Nodup
      rw [List.pairwise_map]
      refine List.Pairwise.imp_of_mem (R := (· ≠ ·)) (fun {a b} ma mb h e => h ?_) List.nodup_range
      have h1 := (keyK_ok (k := a) (by have := List.mem_range.mp ma; omega)).2
      have h2 := (keyK_ok (k := b) (by have := List.mem_range.mp mb; omega)).2
      rw [← h1, ← h2, e]
    · rw [bookD_eq, List.length_map, ll, decide_eq_false (show ¬ n ≤ 400 by omega), decide_eq_false q]
      simp
  · have h1 : Gd2 0 1 (.str (Str.ofString "S")) := gd_lit (by decide +kernel)
    have h2 : Gd2 6 12834 (.tuple (((List.range n).map fun k => (keyK k, tA)).map encKT)) := (Gd2.tup (n := 5) (m := 32) (k := 401) (fun d m => by
      obtain ⟨p, mp, rfl⟩ := List.mem_map.mp m
      obtain ⟨k1, g⟩ := hk p mp
      have h3 : Gd2 0 1 (.str p.1) := Gd2.str (keyB_strOk k1) (by have := (keyB_len k1); omega)
      refine (Gd2.tup (k := 2) (all2 (h3.up (n' := 4) (m' := 12) (by omega) (by omega)) ?_) (by simp)).up (by omega) (by omega)
      rw [g]
      exact tA_ok.2.2) (by rw [List.length_map, ll]; exact hn)).up (by omega) (by omega)
    exact (Gd2.tup (k := 2) (all2 (h1.up (n' := 6) (m' := 12834) (by omega) (by omega)) h2) (by simp)).up (n' := 43) (m' := 100000) (by omega) (by omega) |>.gd (by omega)
end
end GM
namespace GM
open PySem L2 GS
theorem ltree0 {Ft Fn Fs : FF} : LTreeSp 0 (fnF 3 1 (m_law_is_tree Ft Fn Fs)) := fun d _ _ h => by
  rw [m_law_is_tree_eq]
  cases d with
  | tuple ds => rw [PyData.depth] at h; omega
  | _ => simp [m_law_is_tree, isTree, isTup]
section
variable {Fi Fl Fb Fk Fc : FF}
theorem law_k06_ok (hi : BookDSp 43 Fi) (hl : BookDSp 43 Fl) (hb : BentK Fb) (hk : BookGen 2 Fk) (hc : CellSp Fc) (ns : List Int) :
    fnF 13 1 (m_law_k06 Fi Fl Fb Fk Fc) [some ⟨.list (ns.map .int), .sh⟩] = .ok (.sh (.bool true)) [none] := by
  obtain ⟨cell, a1, e1⟩ := hc ns 0 none
  obtain ⟨m, hm, hm5⟩ : ∃ m : Nat, cell % 6 = (m : Int) ∧ m ≤ 5 := ⟨(cell % 6).toNat, by omega, by omega⟩
  obtain ⟨b, a2, e2, B, bl⟩ := hk ns a1 none m hm5
  obtain ⟨bt, bg⟩ := book_true B
  have blen := B.len
  have e3 := hi _ bg
  have e4 := hl _ bg
  rw [bt] at e3 e4
  obtain ⟨ls, h2, _⟩ := cut_ints ns none (some 12)
  have e1' : Fc [some ⟨stD ns 0 none, .io⟩] = .ok (.sh (.int cell)) [some ⟨stD ns a1 none, .io⟩] := e1
  rw [m_law_k06_eq]
  unfold m_law_k06
  refine fin_seq [some ⟨.list (ns.map .int), .sh⟩, some ⟨stD ns 0 none, .ow⟩, none, none, none, none, none, none, none, none, none, none, none] (by simp [dMerge, dPut, stD]) ?_
  refine fin_seq [some ⟨.list (ns.map .int), .sh⟩, some ⟨stD ns a1 none, .ow⟩, some ⟨.int cell, .sh⟩, none, none, none, none, none, none, none, none, none, none] (by
    generalize stD ns 0 none = s0 at e1' ⊢
    simp [e1']) ?_
  refine fin_seq (rK06 (.list (ns.map .int)) (stD ns a2 none) b.enc (some ⟨.int cell, .sh⟩) none) (by
    rw [show ((2 : Nat) : Int) = 2 from rfl] at e2
    generalize stD ns (a1 : Int) none = s0 at e2 ⊢
    unfold rK06
    generalize stD ns (a2 : Int) none = s1 at e2 ⊢
    simp [hm, e2]) ?_
  generalize stD ns (a2 : Int) none = st
  refine fin_seq (rK06 (.list (ns.map .int)) st b.enc (some ⟨.int cell, .sh⟩) none) (by
    unfold rK06
    generalize b.enc = be at e3 e4
    simp [e3, e4]) ?_
  -- the bends
  refine fin_ex (fun ρ => ∃ x2, ioC x2 = none ∧ ρ = rK06 (.list (ns.map .int)) st b.enc x2 none) ?_ ?_
  · by_cases h0 : 0 < ns.length
    · obtain ⟨x2', hx, hf⟩ := k06_bends (Fk := Fk) (Fc := Fc) hi hl hb B (.list (ns.map .int)) st ls (some ⟨.int cell, .sh⟩) rfl
      have h0' : (0 : Int) < ns.length := by omega
      refine ⟨_, ?_, x2', hx, rfl⟩
      rw [← hf]
      unfold rK06
      simp [h0, h0', h2]
    · obtain ⟨x2', hx, hf⟩ := k06_bends (Fk := Fk) (Fc := Fc) hi hl hb B (.list (ns.map .int)) st [0] (some ⟨.int cell, .sh⟩) rfl
      have h0' : ¬ (0 : Int) < ns.length := by omega
      refine ⟨_, ?_, x2', hx, rfl⟩
      rw [← hf]
      unfold rK06
      simp [h0, h0']
  rintro _ ⟨x2, hx2, rfl⟩
  have ix0 := ix_top b
  have ix1 := ix_trees b
  have tl : (b.trees.map encKT).length = b.trees.length := List.length_map ..
  have okl : okR (b.trees.length : Int) = true := okR_nat (by omega)
  -- each alone
  refine fin_seq (rK06 (.list (ns.map .int)) st b.enc x2 none) (by
    have k1 := k06_ones (Fl := Fl) (Fb := Fb) (Fk := Fk) (Fc := Fc) hi B (.list (ns.map .int)) st x2
    have lc := lcL_all (vs := [11]) (g := gN 11) (fe := eNox (m_law_k06_ce5 Fi Fl Fb Fk Fc)) (rK06 (.list (ns.map .int)) st b.enc x2 none) (fun k : Nat => .int (k : Int)) (fun k => [some ⟨.list (ns.map .int), .sh⟩, some ⟨st, .ow⟩, x2, some ⟨b.enc, .sh⟩, none, none, none, none, none, none, none, some ⟨.int (k : Int), .sh⟩, none]) (fun k => .tuple (((b.trees.map encKT).drop k).take 1)) (List.range b.trees.length) [] (fits (by simp; omega)) (fun k mk => by
      have hkk := List.mem_range.mp mk
      have cc : cutD (b.trees.map encKT) (some (k : Int)) (some ((k : Int) + 1)) = ((b.trees.map encKT).drop k).take 1 := by
        unfold cutD
        rw [tl]
        have q1 : HT.sIx b.trees.length 0 (some (k : Int)) = k := by
          simp only [HT.sIx]
          rw [if_neg (by omega)]
          omega
        have q2 : HT.sIx b.trees.length b.trees.length (some ((k : Int) + 1)) = k + 1 := by
          simp only [HT.sIx]
          rw [if_neg (by omega)]
          omega
        rw [q1, q2, show k + 1 - k = 1 by omega]
      unfold rK06
      generalize ((b.trees.map encKT).drop k).take 1 = cd at cc
      generalize b.trees.map encKT = bt' at cc ix1
      generalize b.enc = be at ix1
      exact ⟨by simp, by simp, by simp [m_law_k06_ce5, ix1, cc]⟩)
    have el : (List.range b.trees.length).map (fun k => PyData.tuple (((b.trees.map encKT).drop k).take 1)) = b.trees.map fun p => PyData.tuple [encKT p] := by
      apply List.ext_getElem?
      intro i
      rw [List.getElem?_map, List.getElem?_map]
      by_cases hi' : i < b.trees.length
      · rw [List.getElem?_range hi', List.getElem?_eq_getElem hi']
        simp only [Option.map_some]
        congr 2
        rw [List.drop_eq_getElem_cons (by rw [tl]; exact hi')]
        simp
      · rw [List.getElem?_eq_none (by simp; omega), List.getElem?_eq_none (by omega)]
        rfl
    rw [List.nil_append, el, show (List.range b.trees.length).map (fun k : Nat => PyData.int (k : Int)) = rgD 0 b.trees.length by unfold rgD; simp] at lc
    unfold rK06 at lc k1 ⊢
    generalize b.trees.map (fun p => PyData.tuple [encKT p]) = ones at lc k1
    generalize b.trees.map encKT = bt' at ix1 tl
    generalize b.trees.length = bl' at lc tl okl
    generalize b.enc = be at ix1 lc k1
    simp [ix1, tl, okl, lc, k1]) ?_
  -- by feet
  refine fin_seq (rK06 (.list (ns.map .int)) st b.enc x2 none) (by
    have f1 := k06_foot (Fl := Fl) (Fb := Fb) (Fk := Fk) (Fc := Fc) hi B (.list (ns.map .int)) st x2 true
    have f2 := k06_foot (Fl := Fl) (Fb := Fb) (Fk := Fk) (Fc := Fc) hi B (.list (ns.map .int)) st x2 false
    have fl : forL (gN 5) (m_law_k06_b4 Fi Fl Fb Fk Fc) [.bool true, .bool false] (rK06 (.list (ns.map .int)) st b.enc x2 none) = .nx (rK06 (.list (ns.map .int)) st b.enc x2 none) := by
      rw [forL_cons2, f1, turnR_nx, forL_cons2, f2, turnR_nx]
      rfl
    rw [← fl]
    unfold rK06
    simp) ?_
  -- four hundred
  obtain ⟨n, hn1, hn2, hn3⟩ : ∃ n : Nat, n ≤ 401 ∧ 400 ≤ n ∧ sSet 6 (eBin addD (eC (.int 400)) (eIf (eB (eBin (ltI fun i j => decide (j < i)) (eCB (un1 lenD) (aCons (eVb 0) aNil)) (eC (.int 0)))) (eBin modD (eBin ixA (eVb 0) (eC (.int 0))) (eC (.int 2))) (eC (.int 0)))) (rK06 (.list (ns.map .int)) st b.enc x2 none) = .nx [some ⟨.list (ns.map .int), .sh⟩, some ⟨st, .ow⟩, x2, some ⟨b.enc, .sh⟩, none, none, some ⟨.int (n : Int), .sh⟩, none, none, none, none, none, none] := by
    cases ns with
    | nil => exact ⟨400, by omega, by omega, by simp [rK06]⟩
    | cons i ns =>
      refine ⟨(400 + i % 2).toNat, by omega, by omega, ?_⟩
      have h0' : (0 : Int) < (ns.length : Int) + 1 := by omega
      have hh : ((400 + i % 2).toNat : Int) = 400 + i % 2 := by omega
      rw [hh]
      simp [rK06, h0']
  refine fin_seq _ hn3 ?_
  have okn : okR (n : Int) = true := okR_nat (by omega)
  obtain ⟨g1, g2⟩ := k06_great n hn1 hn2
  have e5 := hi _ g2
  rw [g1] at e5
  refine fin_seq [some ⟨.list (ns.map .int), .sh⟩, some ⟨st, .ow⟩, x2, some ⟨b.enc, .sh⟩, none, none, some ⟨.int (n : Int), .sh⟩, some ⟨tA.enc, .sh⟩, none, none, none, none, none] (by
    generalize b.enc = be
    simp [tA, kS, aS, Tr.enc, Tr.encL, encTk]) ?_
  have lg := lcL_all (vs := [11]) (g := gN 11) (fe := eNox (m_law_k06_ce1 Fi Fl Fb Fk Fc)) [some ⟨.list (ns.map .int), .sh⟩, some ⟨st, .ow⟩, x2, some ⟨b.enc, .sh⟩, none, none, some ⟨.int (n : Int), .sh⟩, some ⟨tA.enc, .sh⟩, none, none, none, none, none] (fun k : Nat => .int (k : Int)) (fun k => [some ⟨.list (ns.map .int), .sh⟩, some ⟨st, .ow⟩, x2, some ⟨b.enc, .sh⟩, none, none, some ⟨.int (n : Int), .sh⟩, some ⟨tA.enc, .sh⟩, none, none, none, some ⟨.int (k : Int), .sh⟩, none]) (fun k => encKT (keyK k, tA)) (List.range n) [] (fits (by simp; omega)) (fun k mk => by
    have hkk : k < 401 := by have := List.mem_range.mp mk; omega
    have := List.all_eq_true.mp keyK_all k (List.mem_range.mpr hkk)
    simp only [Bool.and_eq_true, decide_eq_true_eq] at this
    obtain ⟨⟨q2, q3⟩, _⟩ := this
    have s1 : strD (.int (k : Int)) = some (.sh (.str (toString (k : Int)))) := if_pos q3
    have z1 : (Str.ofString "k").length + ((toString (k : Int) : String) : Str).length ≤ sizeLine := fits (by unfold keyK at q2; rw [app_len] at q2; omega)
    unfold encKT keyK
    dsimp only
    generalize ((toString (k : Int) : String) : Str) = s at s1 z1
    generalize tA.enc = te
    generalize b.enc = be
    exact ⟨by simp, by simp, by simp [m_law_k06_ce1, s1, z1]⟩)
  rw [List.nil_append, show (List.range n).map (fun k => encKT (keyK k, tA)) = ((List.range n).map fun k => (keyK k, tA)).map encKT by rw [List.map_map]; rfl, show (List.range n).map (fun k : Nat => PyData.int (k : Int)) = rgD 0 n by unfold rgD; simp] at lg
  generalize ((List.range n).map fun k => (keyK k, tA)).map encKT = GR at e5 lg
  generalize tA.enc = te at lg ⊢
  generalize b.enc = be at lg ⊢
  refine fin_seq [some ⟨.list (ns.map .int), .sh⟩, some ⟨st, .ow⟩, x2, some ⟨be, .sh⟩, none, none, some ⟨.int (n : Int), .sh⟩, some ⟨te, .sh⟩, some ⟨.tuple [.str (Str.ofString "S"), .tuple GR], .sh⟩, none, none, none, none] (by simp [okn, lg]) ?_
  refine fin_seq [some ⟨.list (ns.map .int), .sh⟩, some ⟨st, .ow⟩, x2, some ⟨be, .sh⟩, none, none, some ⟨.int (n : Int), .sh⟩, some ⟨te, .sh⟩, some ⟨.tuple [.str (Str.ofString "S"), .tuple GR], .sh⟩, some ⟨.bool (decide (n = 400)), .sh⟩, none, none, none] (by simp [e5]) ?_
  by_cases q : n = 400
  · subst q
    simp
  · have q' : ¬ (n : Int) = 400 := by omega
    simp [q, q']
end
end GM
namespace GM
open PySem L2 GS
end GM
namespace Wk06
open PySem L2 GS GM
def fs : Nat → Nat → FF
  | 0, _ => stuckF
  | k + 1, 0 => fnF 2 1 (m_is_name)
  | k + 1, 1 => fnF 2 1 (m_is_sign)
  | k + 1, 2 => fnF 1 1 (m_are_takes (fs k 0))
  | k + 1, 3 => fnF 2 1 (m_is_knot (fs k 4) (fs k 2) (fs k 0))
  | k + 1, 4 => fnF 1 1 (m_is_tree (fs k 0) (fs k 1) (fs k 3))
  | k + 1, 5 => fnF 1 1 (m_kids_of)
  | k + 1, 6 => fnF 5 1 (m_places (fs k 5) (fs k 6))
  | k + 1, 7 => fnF 5 2 (m_piece_at_2 (fs k 30) (fs k 5))
  | k + 1, 8 => fnF 3 1 (m_signs_of (fs k 5) (fs k 8))
  | k + 1, 9 => fnF 2 1 (m_is_key)
  | k + 1, 10 => fnF 4 1 (m_feet_of (fs k 6) (fs k 7))
  | k + 1, 11 => fnF 3 1 (m_amiss_in (fs k 8) (fs k 10) (fs k 6))
  | k + 1, 12 => fnF 1 1 (m_is_entry (fs k 11) (fs k 4) (fs k 9))
  | k + 1, 13 => fnF 3 1 (m_is_book (fs k 12) (fs k 0))
  | k + 1, 14 => fnF 1 1 (m_law_cell)
  | k + 1, 15 => fnF 8 2 (m_law_kid (fs k 15) (fs k 14))
  | k + 1, 16 => fnF 7 3 (m_law_footed (fs k 16))
  | k + 1, 17 => fnF 7 2 (m_law_drawn (fs k 16) (fs k 15) (fs k 14))
  | k + 1, 18 => fnF 10 3 (m_law_book (fs k 17) (fs k 14))
  | k + 1, 19 => fnF 2 1 (m_law_is_name)
  | k + 1, 20 => fnF 2 1 (m_law_is_sign)
  | k + 1, 21 => fnF 3 1 (m_law_is_tree (fs k 21) (fs k 19) (fs k 20))
  | k + 1, 22 => fnF 4 2 (m_law_all_2 (fs k 22))
  | k + 1, 23 => fnF 5 1 (m_law_amiss (fs k 22))
  | k + 1, 24 => fnF 2 1 (m_law_is_key)
  | k + 1, 25 => fnF 4 1 (m_law_wide_2)
  | k + 1, 26 => fnF 3 1 (m_law_deep)
  | k + 1, 27 => fnF 13 2 (m_law_bent_7 (fs k 26) (fs k 25))
  | k + 1, 28 => fnF 3 1 (m_law_is_book (fs k 23) (fs k 21) (fs k 24) (fs k 19))
  | k + 1, 29 => fnF 13 1 (m_law_k06 (fs k 13) (fs k 28) (fs k 27) (fs k 18) (fs k 14))
  | k + 1, 30 => iniF (k + 1)
  | _ + 1, _ => stuckF
end Wk06
namespace Wk06
open PySem L2 GS GM
theorem hx_NoPlace : ∀ m, 2 ≤ m → Raises (fs m 30)
  | m + 1, h => raises_ini h
theorem h_m_is_name : ∀ m, 1 ≤ m → NameSp (fs m 0)
  | _ + 1, _ => fun s hs => is_name_ok s hs
theorem h_m_is_sign : ∀ m, 1 ≤ m → SignSp (fs m 1)
  | _ + 1, _ => fun s hs => is_sign_ok s hs
theorem h_m_are_takes : ∀ m, 2 ≤ m → TakesSp (fs m 2)
  | m + 1, h => are_takes_ok (h_m_is_name m (by omega))
mutual
theorem h_m_is_knot : ∀ n m, n + 3 ≤ m → KnotSp n (fs m 3)
  | n, m + 1, h => is_knot_okD (fun k e => h_m_is_tree k m (by omega)) (h_m_are_takes m (by omega)) (h_m_is_name m (by omega))
theorem h_m_is_tree : ∀ n m, n + 4 ≤ m → TreeSp n (fs m 4)
  | n, m + 1, h => is_tree_ok (h_m_is_name m (by omega)) (h_m_is_sign m (by omega)) (h_m_is_knot n m (by omega))
end
theorem h_m_kids_of : ∀ m, 1 ≤ m → KidsSp (fs m 5)
  | _ + 1, _ => kids_of_ok
theorem h_m_places : ∀ n m, n ≤ 1000 → n + 2 ≤ m → PlacesSp n (fs m 6)
  | _, m + 1, hn, h => places_ok (h_m_kids_of m (by omega)) hn fun k e => h_m_places k m (by omega) (by omega)
theorem h_m_piece_at_2 : ∀ m, 2 ≤ m → PieceSp (fs m 7)
  | m + 1, h => piece_at_2_ok (h_m_kids_of m (by omega))
theorem h_m_signs_of : ∀ n m, n + 2 ≤ m → SignsSp n (fs m 8)
  | _, m + 1, h => signs_of_ok (h_m_kids_of m (by omega)) fun k e => h_m_signs_of k m (by omega)
theorem h_m_is_key : ∀ m, 1 ≤ m → KeySp (fs m 9)
  | _ + 1, _ => is_key_ok
theorem h_m_feet_of : ∀ n m, n ≤ 1000 → n + 3 ≤ m → FeetSp n (fs m 10)
  | n, m + 1, hn, h => feet_of_ok (h_m_places n m hn (by omega)) (h_m_piece_at_2 m (by omega))
theorem h_m_amiss_in : ∀ n m, n ≤ 1000 → n + 4 ≤ m → AmissSp n (fs m 11)
  | n, m + 1, hn, h => amiss_in_ok (h_m_signs_of n m (by omega)) (h_m_feet_of n m hn (by omega)) (h_m_places n m hn (by omega))
theorem h_m_is_entry : ∀ m, 50 ≤ m → EntDSp 41 (fs m 12)
  | m + 1, h => is_entry_okD (n := 40) (h_m_amiss_in 40 m (by omega) (by omega)) (h_m_is_tree 40 m (by omega)) (h_m_is_key m (by omega))
theorem h_m_is_book : ∀ m, 51 ≤ m → BookDSp 43 (fs m 13)
  | m + 1, h => is_book_okD (n := 41) (h_m_is_entry m (by omega)) (h_m_is_name m (by omega))
theorem h_m_law_cell : ∀ m, 1 ≤ m → CellSp (fs m 14)
  | _ + 1, _ => law_cell_ok
theorem h_m_law_kid : ∀ n m, n + 2 ≤ m → KidGen n (fs m 15)
  | _, m + 1, h => law_kid_ok (h_m_law_cell m (by omega)) fun k e => h_m_law_kid k m (by omega)
theorem h_m_law_footed : ∀ n m, n + 1 ≤ m → FootedSp n (fs m 16)
  | _, m + 1, h => law_footed_ok fun k e => h_m_law_footed k m (by omega)
theorem h_m_law_drawn : ∀ n m, capN n ≤ 15 → n + 3 ≤ m → DrawnGen n (fs m 17)
  | n, m + 1, hn, h => law_drawn_ok hn (h_m_law_cell m (by omega)) (h_m_law_kid n m (by omega)) (h_m_law_footed (n + 1) m (by omega))
theorem h_m_law_book : ∀ n m, capN n ≤ 15 → n + 4 ≤ m → BookGen n (fs m 18)
  | n, m + 1, hn, h => law_book_ok (h_m_law_cell m (by omega)) (h_m_law_drawn n m hn (by omega))
theorem h_m_law_is_name : ∀ m, 1 ≤ m → NameSp (fs m 19)
  | _ + 1, _ => law_is_name_ok
theorem h_m_law_is_sign : ∀ m, 1 ≤ m → SignSp (fs m 20)
  | _ + 1, _ => law_is_sign_ok
theorem h_m_law_is_tree : ∀ n m, n ≤ 60 → n + 2 ≤ m → LTreeSp n (fs m 21)
  | 0, m + 1, _, _ => ltree0
  | n + 1, m + 1, hn, h => law_is_tree_ok (by omega) (h_m_law_is_tree n m (by omega) (by omega)) (h_m_law_is_name m (by omega)) (h_m_law_is_sign m (by omega))
theorem h_m_law_all_2 : ∀ n m, n + 1 ≤ m → AllP n (fs m 22)
  | _, m + 1, h => law_all_2_ok fun k e => h_m_law_all_2 k m (by omega)
theorem h_m_law_amiss : ∀ n m, n ≤ 1000 → n + 2 ≤ m → LAmiss n (fs m 23)
  | n, m + 1, hn, h => law_amiss_ok hn (h_m_law_all_2 n m (by omega))
theorem h_m_law_is_key : ∀ m, 1 ≤ m → KeySp (fs m 24)
  | _ + 1, _ => law_is_key_ok
theorem h_m_law_wide_2 : ∀ m, 1 ≤ m → (fs m 25 [some ⟨.int 60, .sh⟩] = .ok (.sh (wideT 3).enc) [none]) ∧ (fs m 25 [some ⟨.int 61, .sh⟩] = .ok (.sh (wideT 4).enc) [none])
  | _ + 1, _ => ⟨wide60, wide61⟩
theorem h_m_law_deep : ∀ m, 1 ≤ m → (fs m 26 [some ⟨.int 11, .sh⟩] = .ok (.sh (deepT 11).enc) [none]) ∧ (fs m 26 [some ⟨.int 12, .sh⟩] = .ok (.sh (deepT 12).enc) [none])
  | _ + 1, _ => ⟨deep11, deep12⟩
theorem h_m_law_bent_7 : ∀ m, 2 ≤ m → BentK (fs m 27)
  | m + 1, h => law_bent_7_ok (h_m_law_deep m (by omega)).1 (h_m_law_deep m (by omega)).2 (h_m_law_wide_2 m (by omega)).1 (h_m_law_wide_2 m (by omega)).2
theorem h_m_law_is_book : ∀ m, 50 ≤ m → BookDSp 43 (fs m 28)
  | m + 1, h => law_is_book_ok (n := 40) (h_m_law_amiss 40 m (by omega) (by omega)) (h_m_law_is_tree 40 m (by omega) (by omega)) (h_m_law_is_key m (by omega)) (h_m_law_is_name m (by omega))
theorem law_true (ns : List Int) (hl : ns.length ≤ 63) : ∃ outs, fs 200 29 [some ⟨.list (ns.map .int), .sh⟩] = .ok (.sh (.bool true)) outs :=
  ⟨_, (law_k06_ok (h_m_is_book 199 (by omega)) (h_m_law_is_book 199 (by omega)) (h_m_law_bent_7 199 (by omega)) (h_m_law_book 2 199 (by decide) (by omega)) (h_m_law_cell 199 (by omega)) ns)⟩
end Wk06
namespace Wk06
open PySem L2 GS GM
def topS (i : Nat) : Stmt := PySem.Challenge.pw_graftsay_k06_books_known.main.body.getD i (.Pass ⟨0, 0, 0, 0⟩)
def clsS (s : Stmt) (j : Nat) : Stmt := match s with | .ClassDef (body := body) .. => body.getD j (.Pass ⟨0, 0, 0, 0⟩) | _ => s
/-- is_name -/
abbrev s0 : Stmt := topS 10
theorem sc0 : FnScope ["text", "letter"] ["text"] (defScope s0) := ⟨rfl, rfl, rfl, by decide +kernel, rfl, by decide +kernel, by decide +kernel⟩
/-- is_sign -/
abbrev s1 : Stmt := topS 11
theorem sc1 : FnScope ["text", "letter"] ["text"] (defScope s1) := ⟨rfl, rfl, rfl, by decide +kernel, rfl, by decide +kernel, by decide +kernel⟩
/-- are_takes -/
abbrev s2 : Stmt := topS 12
theorem sc2 : FnScope ["thing"] ["thing"] (defScope s2) := ⟨rfl, rfl, rfl, by decide +kernel, rfl, by decide +kernel, by decide +kernel⟩
/-- is_knot -/
abbrev s3 : Stmt := topS 13
theorem sc3 : FnScope ["thing", "kid"] ["thing"] (defScope s3) := ⟨rfl, rfl, rfl, by decide +kernel, rfl, by decide +kernel, by decide +kernel⟩
/-- is_tree -/
abbrev s4 : Stmt := topS 14
theorem sc4 : FnScope ["thing"] ["thing"] (defScope s4) := ⟨rfl, rfl, rfl, by decide +kernel, rfl, by decide +kernel, by decide +kernel⟩
/-- kids_of -/
abbrev s5 : Stmt := topS 15
theorem sc5 : FnScope ["tree"] ["tree"] (defScope s5) := ⟨rfl, rfl, rfl, by decide +kernel, rfl, by decide +kernel, by decide +kernel⟩
/-- places -/
abbrev s6 : Stmt := topS 16
theorem sc6 : FnScope ["tree", "found", "k", "kid", "place"] ["tree"] (defScope s6) := ⟨rfl, rfl, rfl, by decide +kernel, rfl, by decide +kernel, by decide +kernel⟩
/-- piece_at -/
abbrev s7 : Stmt := topS 17
theorem sc7 : FnScope ["tree", "place", "found", "number", "kids"] ["tree", "place"] (defScope s7) := ⟨rfl, rfl, rfl, by decide +kernel, rfl, by decide +kernel, by decide +kernel⟩
/-- signs_of -/
abbrev s8 : Stmt := topS 18
theorem sc8 : FnScope ["tree", "found", "kid"] ["tree"] (defScope s8) := ⟨rfl, rfl, rfl, by decide +kernel, rfl, by decide +kernel, by decide +kernel⟩
/-- is_key -/
abbrev s9 : Stmt := topS 26
theorem sc9 : FnScope ["text", "letter"] ["text"] (defScope s9) := ⟨rfl, rfl, rfl, by decide +kernel, rfl, by decide +kernel, by decide +kernel⟩
/-- feet_of -/
abbrev s10 : Stmt := topS 27
theorem sc10 : FnScope ["tree", "pieces", "place", "piece"] ["tree"] (defScope s10) := ⟨rfl, rfl, rfl, by decide +kernel, rfl, by decide +kernel, by decide +kernel⟩
/-- amiss_in -/
abbrev s11 : Stmt := topS 28
theorem sc11 : FnScope ["tree", "found", "place"] ["tree"] (defScope s11) := ⟨rfl, rfl, rfl, by decide +kernel, rfl, by decide +kernel, by decide +kernel⟩
/-- is_entry -/
abbrev s12 : Stmt := topS 29
theorem sc12 : FnScope ["thing"] ["thing"] (defScope s12) := ⟨rfl, rfl, rfl, by decide +kernel, rfl, by decide +kernel, by decide +kernel⟩
/-- is_book -/
abbrev s13 : Stmt := topS 30
theorem sc13 : FnScope ["thing", "keys", "one"] ["thing"] (defScope s13) := ⟨rfl, rfl, rfl, by decide +kernel, rfl, by decide +kernel, by decide +kernel⟩
/-- _law_cell -/
abbrev s14 : Stmt := topS 32
theorem sc14 : FnScope ["state"] ["state"] (defScope s14) := ⟨rfl, rfl, rfl, by decide +kernel, rfl, by decide +kernel, by decide +kernel⟩
/-- _law_kid -/
abbrev s15 : Stmt := topS 33
theorem sc15 : FnScope ["state", "left", "cell", "sign", "name", "takes", "kids", "k"] ["state", "left"] (defScope s15) := ⟨rfl, rfl, rfl, by decide +kernel, rfl, by decide +kernel, by decide +kernel⟩
/-- _law_footed -/
abbrev s16 : Stmt := topS 34
theorem sc16 : FnScope ["tree", "foot", "cell", "knots", "at", "inner", "k"] ["tree", "foot", "cell"] (defScope s16) := ⟨rfl, rfl, rfl, by decide +kernel, rfl, by decide +kernel, by decide +kernel⟩
/-- _law_drawn -/
abbrev s17 : Stmt := topS 35
theorem sc17 : FnScope ["state", "left", "cell", "takes", "kids", "k", "tree"] ["state", "left"] (defScope s17) := ⟨rfl, rfl, rfl, by decide +kernel, rfl, by decide +kernel, by decide +kernel⟩
/-- _law_book -/
abbrev s18 : Stmt := topS 36
theorem sc18 : FnScope ["state", "many", "left", "cell", "trees", "k", "name", "foot", "kids", "key"] ["state", "many", "left"] (defScope s18) := ⟨rfl, rfl, rfl, by decide +kernel, rfl, by decide +kernel, by decide +kernel⟩
/-- _law_is_name -/
abbrev s19 : Stmt := topS 37
theorem sc19 : FnScope ["text", "one"] ["text"] (defScope s19) := ⟨rfl, rfl, rfl, by decide +kernel, rfl, by decide +kernel, by decide +kernel⟩
/-- _law_is_sign -/
abbrev s20 : Stmt := topS 38
theorem sc20 : FnScope ["text", "one"] ["text"] (defScope s20) := ⟨rfl, rfl, rfl, by decide +kernel, rfl, by decide +kernel, by decide +kernel⟩
/-- _law_is_tree -/
abbrev s21 : Stmt := topS 39
theorem sc21 : FnScope ["thing", "takes", "kid"] ["thing"] (defScope s21) := ⟨rfl, rfl, rfl, by decide +kernel, rfl, by decide +kernel, by decide +kernel⟩
/-- _law_all -/
abbrev s22 : Stmt := topS 40
theorem sc22 : FnScope ["tree", "place", "found", "k"] ["tree", "place"] (defScope s22) := ⟨rfl, rfl, rfl, by decide +kernel, rfl, by decide +kernel, by decide +kernel⟩
/-- _law_amiss -/
abbrev s23 : Stmt := topS 41
theorem sc23 : FnScope ["tree", "pieces", "sorts", "place", "piece"] ["tree"] (defScope s23) := ⟨rfl, rfl, rfl, by decide +kernel, rfl, by decide +kernel, by decide +kernel⟩
/-- _law_is_key -/
abbrev s24 : Stmt := topS 42
theorem sc24 : FnScope ["text", "one"] ["text"] (defScope s24) := ⟨rfl, rfl, rfl, by decide +kernel, rfl, by decide +kernel, by decide +kernel⟩
/-- _law_wide -/
abbrev s25 : Stmt := topS 43
theorem sc25 : FnScope ["many", "kids", "left", "few"] ["many"] (defScope s25) := ⟨rfl, rfl, rfl, by decide +kernel, rfl, by decide +kernel, by decide +kernel⟩
/-- _law_deep -/
abbrev s26 : Stmt := topS 44
theorem sc26 : FnScope ["many", "tree", "k"] ["many"] (defScope s26) := ⟨rfl, rfl, rfl, by decide +kernel, rfl, by decide +kernel, by decide +kernel⟩
/-- _law_bent -/
abbrev s27 : Stmt := topS 45
theorem sc27 : FnScope ["book", "cell", "foot", "a", "odd", "some", "more", "spot", "top", "trees", "key", "tree", "one"] ["book", "cell"] (defScope s27) := ⟨rfl, rfl, rfl, by decide +kernel, rfl, by decide +kernel, by decide +kernel⟩
/-- _law_is_book -/
abbrev s28 : Stmt := topS 46
theorem sc28 : FnScope ["thing", "keys", "one"] ["thing"] (defScope s28) := ⟨rfl, rfl, rfl, by decide +kernel, rfl, by decide +kernel, by decide +kernel⟩
/-- law -/
abbrev s29 : Stmt := topS 47
theorem sc29 : FnScope ["script", "state", "cell", "book", "some", "foot", "count", "tree", "great", "told", "thing", "k", "one"] ["script"] (defScope s29) := ⟨rfl, rfl, rfl, by decide +kernel, rfl, by decide +kernel, by decide +kernel⟩
abbrev si_NoPlace : Stmt := clsS (topS 2) 0
theorem sci_NoPlace : FnScope ["self", "place"] ["self", "place"] (defScope si_NoPlace) := ⟨rfl, rfl, rfl, by decide +kernel, rfl, by decide +kernel, by decide +kernel⟩
structure Top (K : PySem.W.Frag) (mg : Str → Option Value) where
  a0 : Addr
  d0 : FuncData
  F0 : Fun K "is_name" "is_name" s0 a0 d0
  b0 : Binds K d0 ["text"] []
  g0 : mg "is_name" = some (.ref a0)
  a1 : Addr
  d1 : FuncData
  F1 : Fun K "is_sign" "is_sign" s1 a1 d1
  b1 : Binds K d1 ["text"] []
  g1 : mg "is_sign" = some (.ref a1)
  a2 : Addr
  d2 : FuncData
  F2 : Fun K "are_takes" "are_takes" s2 a2 d2
  b2 : Binds K d2 ["thing"] []
  g2 : mg "are_takes" = some (.ref a2)
  a3 : Addr
  d3 : FuncData
  F3 : Fun K "is_knot" "is_knot" s3 a3 d3
  b3 : Binds K d3 ["thing"] []
  g3 : mg "is_knot" = some (.ref a3)
  a4 : Addr
  d4 : FuncData
  F4 : Fun K "is_tree" "is_tree" s4 a4 d4
  b4 : Binds K d4 ["thing"] []
  g4 : mg "is_tree" = some (.ref a4)
  a5 : Addr
  d5 : FuncData
  F5 : Fun K "kids_of" "kids_of" s5 a5 d5
  b5 : Binds K d5 ["tree"] []
  g5 : mg "kids_of" = some (.ref a5)
  a6 : Addr
  d6 : FuncData
  F6 : Fun K "places" "places" s6 a6 d6
  b6 : Binds K d6 ["tree"] []
  g6 : mg "places" = some (.ref a6)
  a7 : Addr
  d7 : FuncData
  F7 : Fun K "piece_at" "piece_at" s7 a7 d7
  b7 : Binds K d7 ["tree", "place"] []
  g7 : mg "piece_at" = some (.ref a7)
  a8 : Addr
  d8 : FuncData
  F8 : Fun K "signs_of" "signs_of" s8 a8 d8
  b8 : Binds K d8 ["tree"] []
  g8 : mg "signs_of" = some (.ref a8)
  a9 : Addr
  d9 : FuncData
  F9 : Fun K "is_key" "is_key" s9 a9 d9
  b9 : Binds K d9 ["text"] []
  g9 : mg "is_key" = some (.ref a9)
  a10 : Addr
  d10 : FuncData
  F10 : Fun K "feet_of" "feet_of" s10 a10 d10
  b10 : Binds K d10 ["tree"] []
  g10 : mg "feet_of" = some (.ref a10)
  a11 : Addr
  d11 : FuncData
  F11 : Fun K "amiss_in" "amiss_in" s11 a11 d11
  b11 : Binds K d11 ["tree"] []
  g11 : mg "amiss_in" = some (.ref a11)
  a12 : Addr
  d12 : FuncData
  F12 : Fun K "is_entry" "is_entry" s12 a12 d12
  b12 : Binds K d12 ["thing"] []
  g12 : mg "is_entry" = some (.ref a12)
  a13 : Addr
  d13 : FuncData
  F13 : Fun K "is_book" "is_book" s13 a13 d13
  b13 : Binds K d13 ["thing"] []
  g13 : mg "is_book" = some (.ref a13)
  a14 : Addr
  d14 : FuncData
  F14 : Fun K "_law_cell" "_law_cell" s14 a14 d14
  b14 : Binds K d14 ["state"] []
  g14 : mg "_law_cell" = some (.ref a14)
  a15 : Addr
  d15 : FuncData
  F15 : Fun K "_law_kid" "_law_kid" s15 a15 d15
  b15 : Binds K d15 ["state", "left"] []
  g15 : mg "_law_kid" = some (.ref a15)
  a16 : Addr
  d16 : FuncData
  F16 : Fun K "_law_footed" "_law_footed" s16 a16 d16
  b16 : Binds K d16 ["tree", "foot", "cell"] []
  g16 : mg "_law_footed" = some (.ref a16)
  a17 : Addr
  d17 : FuncData
  F17 : Fun K "_law_drawn" "_law_drawn" s17 a17 d17
  b17 : Binds K d17 ["state", "left"] []
  g17 : mg "_law_drawn" = some (.ref a17)
  a18 : Addr
  d18 : FuncData
  F18 : Fun K "_law_book" "_law_book" s18 a18 d18
  b18 : Binds K d18 ["state", "many", "left"] []
  g18 : mg "_law_book" = some (.ref a18)
  a19 : Addr
  d19 : FuncData
  F19 : Fun K "_law_is_name" "_law_is_name" s19 a19 d19
  b19 : Binds K d19 ["text"] []
  g19 : mg "_law_is_name" = some (.ref a19)
  a20 : Addr
  d20 : FuncData
  F20 : Fun K "_law_is_sign" "_law_is_sign" s20 a20 d20
  b20 : Binds K d20 ["text"] []
  g20 : mg "_law_is_sign" = some (.ref a20)
  a21 : Addr
  d21 : FuncData
  F21 : Fun K "_law_is_tree" "_law_is_tree" s21 a21 d21
  b21 : Binds K d21 ["thing"] []
  g21 : mg "_law_is_tree" = some (.ref a21)
  a22 : Addr
  d22 : FuncData
  F22 : Fun K "_law_all" "_law_all" s22 a22 d22
  b22 : Binds K d22 ["tree", "place"] []
  g22 : mg "_law_all" = some (.ref a22)
  a23 : Addr
  d23 : FuncData
  F23 : Fun K "_law_amiss" "_law_amiss" s23 a23 d23
  b23 : Binds K d23 ["tree"] []
  g23 : mg "_law_amiss" = some (.ref a23)
  a24 : Addr
  d24 : FuncData
  F24 : Fun K "_law_is_key" "_law_is_key" s24 a24 d24
  b24 : Binds K d24 ["text"] []
  g24 : mg "_law_is_key" = some (.ref a24)
  a25 : Addr
  d25 : FuncData
  F25 : Fun K "_law_wide" "_law_wide" s25 a25 d25
  b25 : Binds K d25 ["many"] []
  g25 : mg "_law_wide" = some (.ref a25)
  a26 : Addr
  d26 : FuncData
  F26 : Fun K "_law_deep" "_law_deep" s26 a26 d26
  b26 : Binds K d26 ["many"] []
  g26 : mg "_law_deep" = some (.ref a26)
  a27 : Addr
  d27 : FuncData
  F27 : Fun K "_law_bent" "_law_bent" s27 a27 d27
  b27 : Binds K d27 ["book", "cell"] []
  g27 : mg "_law_bent" = some (.ref a27)
  a28 : Addr
  d28 : FuncData
  F28 : Fun K "_law_is_book" "_law_is_book" s28 a28 d28
  b28 : Binds K d28 ["thing"] []
  g28 : mg "_law_is_book" = some (.ref a28)
  a29 : Addr
  d29 : FuncData
  F29 : Fun K "law" "law" s29 a29 d29
  b29 : Binds K d29 ["script"] []
  g29 : mg "law" = some (.ref a29)
  c_FIGURES_trees : ∃ t, mg "FIGURES_trees" = some (Value.str (Str.ofString "0123456789") t)
  c_GREAT : ∃ t, mg "GREAT" = some (Value.str (Str.ofString "ABCDEFGHIJKLMNOPQRSTUVWXYZ") t)
  c_LONGEST_NAME : ∃ t, mg "LONGEST_NAME" = some (Value.int 24 t)
  c_SMALL_trees : ∃ t, mg "SMALL_trees" = some (Value.str (Str.ofString "abcdefghijklmnopqrstuvwxyz") t)
  c_LONGEST_SIGN : ∃ t, mg "LONGEST_SIGN" = some (Value.int 6 t)
  c_MOST_KIDS : ∃ t, mg "MOST_KIDS" = some (Value.int 8 t)
  c_FIGURES_books : ∃ t, mg "FIGURES_books" = some (Value.str (Str.ofString "0123456789") t)
  c_SMALL_books : ∃ t, mg "SMALL_books" = some (Value.str (Str.ofString "abcdefghijklmnopqrstuvwxyz") t)
  c_LONGEST_KEY : ∃ t, mg "LONGEST_KEY" = some (Value.int 24 t)
  c_MOST_WITHIN : ∃ t, mg "MOST_WITHIN" = some (Value.int 12 t)
  c_MOST_PIECES : ∃ t, mg "MOST_PIECES" = some (Value.int 60 t)
  c_MOST_TREES : ∃ t, mg "MOST_TREES" = some (Value.int 400 t)
  m_len : mg "len" = none
  m_isinstance : mg "isinstance" = none
  m_str : mg "str" = none
  m_bool : mg "bool" = none
  m_tuple : mg "tuple" = none
  m_enumerate : mg "enumerate" = none
  m_max : mg "max" = none
  m_set : mg "set" = none
  m_range : mg "range" = none
  m_all : mg "all" = none
  m_min : mg "min" = none
  m_list : mg "list" = none
  m_repr : mg "repr" = none
  xA_GraftError : Addr
  xg_GraftError : mg "GraftError" = some (.ref xA_GraftError)
  xA_NoPlace : Addr
  xg_NoPlace : mg "NoPlace" = some (.ref xA_NoPlace)
  gi : giB K xA_GraftError = true
  xI_NoPlace : Addr
  xd_NoPlace : FuncData
  xF_NoPlace : Fun K "__init__" "NoPlace.__init__" si_NoPlace xI_NoPlace xd_NoPlace
  xb_NoPlace : Binds K xd_NoPlace ("self" :: ["place"]) []
  xT_NoPlace : OexC K xA_NoPlace
  xo_NoPlace : oeB K xA_NoPlace xI_NoPlace ["place"] = true
  xv_NoPlace : cvK K "NoPlace" = .ref xA_NoPlace
structure Lv (P : Program) (K : KW) (mg : Str → Option Value) (base : Heap) (T : Top K.fr mg) (k : Nat) : Prop where
  h0 : FnOk P K.w K.fr mg base (L2.CX P K.w) k T.a0 T.d0 ["text"] (spF K (cvK K.fr) 1 (fs k 0))
  h1 : FnOk P K.w K.fr mg base (L2.CX P K.w) k T.a1 T.d1 ["text"] (spF K (cvK K.fr) 1 (fs k 1))
  h2 : FnOk P K.w K.fr mg base (L2.CX P K.w) k T.a2 T.d2 ["thing"] (spF K (cvK K.fr) 1 (fs k 2))
  h3 : FnOk P K.w K.fr mg base (L2.CX P K.w) k T.a3 T.d3 ["thing"] (spF K (cvK K.fr) 1 (fs k 3))
  h4 : FnOk P K.w K.fr mg base (L2.CX P K.w) k T.a4 T.d4 ["thing"] (spF K (cvK K.fr) 1 (fs k 4))
  h5 : FnOk P K.w K.fr mg base (L2.CX P K.w) k T.a5 T.d5 ["tree"] (spF K (cvK K.fr) 1 (fs k 5))
  h6 : FnOk P K.w K.fr mg base (L2.CX P K.w) k T.a6 T.d6 ["tree"] (spF K (cvK K.fr) 1 (fs k 6))
  h7 : FnOk P K.w K.fr mg base (L2.CX P K.w) k T.a7 T.d7 ["tree", "place"] (spF K (cvK K.fr) 2 (fs k 7))
  h8 : FnOk P K.w K.fr mg base (L2.CX P K.w) k T.a8 T.d8 ["tree"] (spF K (cvK K.fr) 1 (fs k 8))
  h9 : FnOk P K.w K.fr mg base (L2.CX P K.w) k T.a9 T.d9 ["text"] (spF K (cvK K.fr) 1 (fs k 9))
  h10 : FnOk P K.w K.fr mg base (L2.CX P K.w) k T.a10 T.d10 ["tree"] (spF K (cvK K.fr) 1 (fs k 10))
  h11 : FnOk P K.w K.fr mg base (L2.CX P K.w) k T.a11 T.d11 ["tree"] (spF K (cvK K.fr) 1 (fs k 11))
  h12 : FnOk P K.w K.fr mg base (L2.CX P K.w) k T.a12 T.d12 ["thing"] (spF K (cvK K.fr) 1 (fs k 12))
  h13 : FnOk P K.w K.fr mg base (L2.CX P K.w) k T.a13 T.d13 ["thing"] (spF K (cvK K.fr) 1 (fs k 13))
  h14 : FnOk P K.w K.fr mg base (L2.CX P K.w) k T.a14 T.d14 ["state"] (spF K (cvK K.fr) 1 (fs k 14))
  h15 : FnOk P K.w K.fr mg base (L2.CX P K.w) k T.a15 T.d15 ["state", "left"] (spF K (cvK K.fr) 2 (fs k 15))
  h16 : FnOk P K.w K.fr mg base (L2.CX P K.w) k T.a16 T.d16 ["tree", "foot", "cell"] (spF K (cvK K.fr) 3 (fs k 16))
  h17 : FnOk P K.w K.fr mg base (L2.CX P K.w) k T.a17 T.d17 ["state", "left"] (spF K (cvK K.fr) 2 (fs k 17))
  h18 : FnOk P K.w K.fr mg base (L2.CX P K.w) k T.a18 T.d18 ["state", "many", "left"] (spF K (cvK K.fr) 3 (fs k 18))
  h19 : FnOk P K.w K.fr mg base (L2.CX P K.w) k T.a19 T.d19 ["text"] (spF K (cvK K.fr) 1 (fs k 19))
  h20 : FnOk P K.w K.fr mg base (L2.CX P K.w) k T.a20 T.d20 ["text"] (spF K (cvK K.fr) 1 (fs k 20))
  h21 : FnOk P K.w K.fr mg base (L2.CX P K.w) k T.a21 T.d21 ["thing"] (spF K (cvK K.fr) 1 (fs k 21))
  h22 : FnOk P K.w K.fr mg base (L2.CX P K.w) k T.a22 T.d22 ["tree", "place"] (spF K (cvK K.fr) 2 (fs k 22))
  h23 : FnOk P K.w K.fr mg base (L2.CX P K.w) k T.a23 T.d23 ["tree"] (spF K (cvK K.fr) 1 (fs k 23))
  h24 : FnOk P K.w K.fr mg base (L2.CX P K.w) k T.a24 T.d24 ["text"] (spF K (cvK K.fr) 1 (fs k 24))
  h25 : FnOk P K.w K.fr mg base (L2.CX P K.w) k T.a25 T.d25 ["many"] (spF K (cvK K.fr) 1 (fs k 25))
  h26 : FnOk P K.w K.fr mg base (L2.CX P K.w) k T.a26 T.d26 ["many"] (spF K (cvK K.fr) 1 (fs k 26))
  h27 : FnOk P K.w K.fr mg base (L2.CX P K.w) k T.a27 T.d27 ["book", "cell"] (spF K (cvK K.fr) 2 (fs k 27))
  h28 : FnOk P K.w K.fr mg base (L2.CX P K.w) k T.a28 T.d28 ["thing"] (spF K (cvK K.fr) 1 (fs k 28))
  h29 : FnG P K.w K.fr mg base k T.a29 T.d29 ["script"] (spF K (cvK K.fr) 1 (fs k 29))
  x_NoPlace : IniOk P K.w K.fr mg base k T.xI_NoPlace T.xd_NoPlace ["place"] (fs k 30)
section
variable {P : Program} {K : KW} {mg : Str → Option Value} {base : Heap}
/-- is_name -/
theorem e0 (k : Nat) : fs (k + 1) 0 = fnF 2 1 (m_is_name) := rfl
theorem w0 {T : Top K.fr mg} {k : Nat} (L : Lv P K mg base T k) : FnOk P K.w K.fr mg base (L2.CX P K.w) (k + 1) T.a0 T.d0 ["text"] (spF K (cvK K.fr) 1 (fs (k + 1) 0)) := by
  rw [e0]
  refine fn_of' ["text", "letter"] rfl rfl T.F0 sc0 fun cdv A outer s H E hr tk po => ?_
  have nd := sc0.nd
  have hu := hr.units
  have hu2 : _ + 199 < cLine := Nat.lt_of_le_of_lt (Nat.add_le_add_left (by decide : 199 ≤ 200) _) (Nat.lt_of_le_of_lt (Nat.add_le_add_right (Nat.le_add_right _ _) _) hr.un)
  have hu5 : _ + 65 < cLine := Nat.lt_of_le_of_lt (Nat.add_le_add_left (by decide : 65 ≤ 200) _) (Nat.lt_of_le_of_lt (Nat.add_le_add_right (Nat.le_add_right _ _) _) hr.un)
  unfold m_is_name m_is_name_b1
  exact ⟨_, (sss_cons (ss_if (sw_or (st_not (st_chain ol_cmp op_le ol_cmp op_le se_int (se_cb cl_len call_len T.m_len (sa_cons (se_vb 0) sa_nil)) (se_gint T.c_LONGEST_NAME))) (sw_one (st_cmp ol_notInB (op_notInB (by exact hu5)) (se_ixA (by exact hu5) (se_vb 0) se_int) (se_gstr T.c_GREAT)))).st (sss_one (ss_end (ss_ret se_bl))) sss_nil) (sss_cons (ss_for po rfl (si_sq (se_mv 0)) (sg_name nd) (sss_kill (vs := [1]) (sss_one (ss_if (sw_and (st_cmp ol_notInB (op_notInB (by exact hu5)) (se_vb 1) (se_gstr T.c_GREAT)) (sw_one (st_cmp ol_notInB (op_notInB (by exact hu5)) (se_vb 1) (se_gstr T.c_FIGURES_trees)))).st (sss_one (ss_end (ss_ret se_bl))) sss_nil)))) (sss_one (ss_end (ss_ret se_bl)))))⟩
/-- is_sign -/
theorem e1 (k : Nat) : fs (k + 1) 1 = fnF 2 1 (m_is_sign) := rfl
theorem w1 {T : Top K.fr mg} {k : Nat} (L : Lv P K mg base T k) : FnOk P K.w K.fr mg base (L2.CX P K.w) (k + 1) T.a1 T.d1 ["text"] (spF K (cvK K.fr) 1 (fs (k + 1) 1)) := by
  rw [e1]
  refine fn_of' ["text", "letter"] rfl rfl T.F1 sc1 fun cdv A outer s H E hr tk po => ?_
  have nd := sc1.nd
  have hu := hr.units
  have hu2 : _ + 199 < cLine := Nat.lt_of_le_of_lt (Nat.add_le_add_left (by decide : 199 ≤ 200) _) (Nat.lt_of_le_of_lt (Nat.add_le_add_right (Nat.le_add_right _ _) _) hr.un)
  have hu5 : _ + 65 < cLine := Nat.lt_of_le_of_lt (Nat.add_le_add_left (by decide : 65 ≤ 200) _) (Nat.lt_of_le_of_lt (Nat.add_le_add_right (Nat.le_add_right _ _) _) hr.un)
  unfold m_is_sign m_is_sign_b1
  exact ⟨_, (sss_cons (ss_if (st_not (st_chain ol_cmp op_le ol_cmp op_le se_int (se_cb cl_len call_len T.m_len (sa_cons (se_vb 0) sa_nil)) (se_gint T.c_LONGEST_SIGN))) (sss_one (ss_end (ss_ret se_bl))) sss_nil) (sss_cons (ss_for po rfl (si_sq (se_mv 0)) (sg_name nd) (sss_kill (vs := [1]) (sss_one (ss_if (st_cmp ol_notInB (op_notInB (by exact hu5)) (se_vb 1) (se_gstr T.c_SMALL_trees)) (sss_one (ss_end (ss_ret se_bl))) sss_nil)))) (sss_one (ss_end (ss_ret se_bl)))))⟩
/-- are_takes -/
theorem e2 (k : Nat) : fs (k + 1) 2 = fnF 1 1 (m_are_takes (fs k 0)) := rfl
theorem w2 {T : Top K.fr mg} {k : Nat} (L : Lv P K mg base T k) : FnOk P K.w K.fr mg base (L2.CX P K.w) (k + 1) T.a2 T.d2 ["thing"] (spF K (cvK K.fr) 1 (fs (k + 1) 2)) := by
  rw [e2]
  refine fn_of' ["thing"] rfl rfl T.F2 sc2 fun cdv A outer s H E hr tk po => ?_
  have nd := sc2.nd
  have hu := hr.units
  have hu2 : _ + 199 < cLine := Nat.lt_of_le_of_lt (Nat.add_le_add_left (by decide : 199 ≤ 200) _) (Nat.lt_of_le_of_lt (Nat.add_le_add_right (Nat.le_add_right _ _) _) hr.un)
  have hu5 : _ + 65 < cLine := Nat.lt_of_le_of_lt (Nat.add_le_add_left (by decide : 65 ≤ 200) _) (Nat.lt_of_le_of_lt (Nat.add_le_add_right (Nat.le_add_right _ _) _) hr.un)
  unfold m_are_takes
  exact ⟨_, (sss_cons (ss_if (st_cmp ol_is op_isA (se_vb 0) se_non) (sss_one (ss_ret se_bl)) sss_nil) (sss_cons (ss_if (sw_or (st_not (st_val (se_isi kit_tup T.m_isinstance T.m_tuple (se_vb 0)))) (sw_or (st_cmp ol_neB (op_neB (by exact hu2)) (se_cb cl_len call_len T.m_len (sa_cons (se_vb 0) sa_nil)) se_int) (sw_one (st_not (st_val (se_isi kit_bool T.m_isinstance T.m_bool (se_ixA (by exact hu5) (se_vb 0) se_int))))))).st (sss_one (ss_ret se_bl)) sss_nil) (sss_one (ss_end (ss_ret (se_and (se_isi kit_str T.m_isinstance T.m_str (se_ixA (by exact hu5) (se_vb 0) se_int)) (se_one (se_call L.h0 hr T.g0 T.F0.kp T.b0 tk (sa_cons (se_ixA (by exact hu5) (se_vb 0) se_int) sa_nil) none))))))))⟩
/-- is_knot -/
theorem e3 (k : Nat) : fs (k + 1) 3 = fnF 2 1 (m_is_knot (fs k 4) (fs k 2) (fs k 0)) := rfl
theorem w3 {T : Top K.fr mg} {k : Nat} (L : Lv P K mg base T k) : FnOk P K.w K.fr mg base (L2.CX P K.w) (k + 1) T.a3 T.d3 ["thing"] (spF K (cvK K.fr) 1 (fs (k + 1) 3)) := by
  rw [e3]
  refine fn_of' ["thing", "kid"] rfl rfl T.F3 sc3 fun cdv A outer s H E hr tk po => ?_
  have nd := sc3.nd
  have hu := hr.units
  have hu2 : _ + 199 < cLine := Nat.lt_of_le_of_lt (Nat.add_le_add_left (by decide : 199 ≤ 200) _) (Nat.lt_of_le_of_lt (Nat.add_le_add_right (Nat.le_add_right _ _) _) hr.un)
  have hu5 : _ + 65 < cLine := Nat.lt_of_le_of_lt (Nat.add_le_add_left (by decide : 65 ≤ 200) _) (Nat.lt_of_le_of_lt (Nat.add_le_add_right (Nat.le_add_right _ _) _) hr.un)
  unfold m_is_knot m_is_knot_b1
  exact ⟨_, (sss_cons (ss_if (sw_or (st_cmp ol_neB (op_neB (by exact hu2)) (se_cb cl_len call_len T.m_len (sa_cons (se_vb 0) sa_nil)) se_int) (sw_or (st_not (st_val (se_isi kit_str T.m_isinstance T.m_str (se_ixA (by exact hu5) (se_vb 0) se_int)))) (sw_or (st_not (st_val (se_call L.h0 hr T.g0 T.F0.kp T.b0 tk (sa_cons (se_ixA (by exact hu5) (se_vb 0) se_int) sa_nil) none))) (sw_one (st_not (st_val (se_call L.h2 hr T.g2 T.F2.kp T.b2 tk (sa_cons (se_ixA (by exact hu5) (se_vb 0) se_int) sa_nil) none))))))).st (sss_one (ss_end (ss_ret se_bl))) sss_nil) (sss_cons (ss_if (sw_or (st_not (st_val (se_isi kit_tup T.m_isinstance T.m_tuple (se_ixA (by exact hu5) (se_vb 0) se_int)))) (sw_one (st_not (st_chain ol_cmp op_le ol_cmp op_le se_int (se_cb cl_len call_len T.m_len (sa_cons (se_ixA (by exact hu5) (se_vb 0) se_int) sa_nil)) (se_gint T.c_MOST_KIDS))))).st (sss_one (ss_end (ss_ret se_bl))) sss_nil) (sss_cons (ss_for po rfl (si_sq (se_ixA (by exact hu5) (se_vb 0) se_int)) (sg_name nd) (sss_kill (vs := [1]) (sss_one (ss_if (st_not (st_val (se_call L.h4 hr T.g4 T.F4.kp T.b4 tk (sa_cons (se_mv 1) sa_nil) none))) (sss_one (ss_end (ss_ret se_bl))) sss_nil)))) (sss_one (ss_end (ss_ret se_bl))))))⟩
/-- is_tree -/
theorem e4 (k : Nat) : fs (k + 1) 4 = fnF 1 1 (m_is_tree (fs k 0) (fs k 1) (fs k 3)) := rfl
theorem w4 {T : Top K.fr mg} {k : Nat} (L : Lv P K mg base T k) : FnOk P K.w K.fr mg base (L2.CX P K.w) (k + 1) T.a4 T.d4 ["thing"] (spF K (cvK K.fr) 1 (fs (k + 1) 4)) := by
  rw [e4]
  refine fn_of' ["thing"] rfl rfl T.F4 sc4 fun cdv A outer s H E hr tk po => ?_
  have nd := sc4.nd
  have hu := hr.units
  have hu2 : _ + 199 < cLine := Nat.lt_of_le_of_lt (Nat.add_le_add_left (by decide : 199 ≤ 200) _) (Nat.lt_of_le_of_lt (Nat.add_le_add_right (Nat.le_add_right _ _) _) hr.un)
  have hu5 : _ + 65 < cLine := Nat.lt_of_le_of_lt (Nat.add_le_add_left (by decide : 65 ≤ 200) _) (Nat.lt_of_le_of_lt (Nat.add_le_add_right (Nat.le_add_right _ _) _) hr.un)
  unfold m_is_tree
  exact ⟨_, (sss_cons (ss_if (sw_or (st_not (st_val (se_isi kit_tup T.m_isinstance T.m_tuple (se_vb 0)))) (sw_or (st_cmp ol_eqB (op_eqB (by exact hu2)) (se_cb cl_len call_len T.m_len (sa_cons (se_vb 0) sa_nil)) se_int) (sw_one (st_not (st_val (se_isi kit_str T.m_isinstance T.m_str (se_ixA (by exact hu5) (se_vb 0) se_int))))))).st (sss_one (ss_ret se_bl)) sss_nil) (sss_cons (ss_if (st_cmp ol_eqB (op_eqB (by exact hu2)) (se_ixA (by exact hu5) (se_vb 0) se_int) se_str) (sss_one (ss_end (ss_ret (se_call L.h3 hr T.g3 T.F3.kp T.b3 tk (sa_cons (se_mv 0) sa_nil) none)))) sss_nil) (sss_cons (ss_if (st_cmp ol_eqB (op_eqB (by exact hu2)) (se_ixA (by exact hu5) (se_vb 0) se_int) se_str) (sss_one (ss_end (ss_ret (se_cmp ol_eqB (op_eqB (by exact hu2)) (se_cb cl_len call_len T.m_len (sa_cons (se_vb 0) sa_nil)) se_int)))) sss_nil) (sss_cons (ss_if (sw_or (st_cmp ol_neB (op_neB (by exact hu2)) (se_cb cl_len call_len T.m_len (sa_cons (se_vb 0) sa_nil)) se_int) (sw_one (st_not (st_val (se_isi kit_str T.m_isinstance T.m_str (se_ixA (by exact hu5) (se_vb 0) se_int)))))).st (sss_one (ss_ret se_bl)) sss_nil) (sss_cons (ss_if (st_cmp ol_eqB (op_eqB (by exact hu2)) (se_ixA (by exact hu5) (se_vb 0) se_int) se_str) (sss_one (ss_end (ss_ret (se_call L.h1 hr T.g1 T.F1.kp T.b1 tk (sa_cons (se_ixA (by exact hu5) (se_vb 0) se_int) sa_nil) none)))) sss_nil) (sss_one (ss_end (ss_ret (se_and (se_cmp ol_inB (op_inB (by exact hu5)) (se_ixA (by exact hu5) (se_vb 0) se_int) (se_tup (sa_cons se_str (sa_cons se_str sa_nil)))) (se_one (se_call L.h0 hr T.g0 T.F0.kp T.b0 tk (sa_cons (se_ixA (by exact hu5) (se_vb 0) se_int) sa_nil) none)))))))))))⟩
/-- kids_of -/
theorem e5 (k : Nat) : fs (k + 1) 5 = fnF 1 1 (m_kids_of) := rfl
theorem w5 {T : Top K.fr mg} {k : Nat} (L : Lv P K mg base T k) : FnOk P K.w K.fr mg base (L2.CX P K.w) (k + 1) T.a5 T.d5 ["tree"] (spF K (cvK K.fr) 1 (fs (k + 1) 5)) := by
  rw [e5]
  refine fn_of' ["tree"] rfl rfl T.F5 sc5 fun cdv A outer s H E hr tk po => ?_
  have nd := sc5.nd
  have hu := hr.units
  have hu2 : _ + 199 < cLine := Nat.lt_of_le_of_lt (Nat.add_le_add_left (by decide : 199 ≤ 200) _) (Nat.lt_of_le_of_lt (Nat.add_le_add_right (Nat.le_add_right _ _) _) hr.un)
  have hu5 : _ + 65 < cLine := Nat.lt_of_le_of_lt (Nat.add_le_add_left (by decide : 65 ≤ 200) _) (Nat.lt_of_le_of_lt (Nat.add_le_add_right (Nat.le_add_right _ _) _) hr.un)
  unfold m_kids_of
  exact ⟨_, (sss_one (ss_end (ss_ret (se_if (st_cmp ol_eqB (op_eqB (by exact hu2)) (se_ixA (by exact hu5) (se_vb 0) se_int) se_str) (se_ixA (by exact hu5) (se_vb 0) se_int) (se_tup sa_nil)))))⟩
/-- places -/
theorem e6 (k : Nat) : fs (k + 1) 6 = fnF 5 1 (m_places (fs k 5) (fs k 6)) := rfl
theorem w6 {T : Top K.fr mg} {k : Nat} (L : Lv P K mg base T k) : FnOk P K.w K.fr mg base (L2.CX P K.w) (k + 1) T.a6 T.d6 ["tree"] (spF K (cvK K.fr) 1 (fs (k + 1) 6)) := by
  rw [e6]
  refine fn_of' ["tree", "found", "k", "kid", "place"] rfl rfl T.F6 sc6 fun cdv A outer s H E hr tk po => ?_
  have nd := sc6.nd
  have hu := hr.units
  have hu2 : _ + 199 < cLine := Nat.lt_of_le_of_lt (Nat.add_le_add_left (by decide : 199 ≤ 200) _) (Nat.lt_of_le_of_lt (Nat.add_le_add_right (Nat.le_add_right _ _) _) hr.un)
  have hu5 : _ + 65 < cLine := Nat.lt_of_le_of_lt (Nat.add_le_add_left (by decide : 65 ≤ 200) _) (Nat.lt_of_le_of_lt (Nat.add_le_add_right (Nat.le_add_right _ _) _) hr.un)
  unfold m_places m_places_b2 m_places_b1
  exact ⟨_, (sss_cons (ss_set (i := 1) nd (se_lst (sa_cons (se_tup sa_nil) sa_nil))) (sss_cons (ss_for po rfl (si_en (se_call L.h5 hr T.g5 T.F5.kp T.b5 tk (sa_cons (se_mv 0) sa_nil) none) T.m_enumerate) (sg_tup rfl (sgs_cons (sg_name nd) (sgs_cons (sg_name nd) sgs_nil))) (sss_kill (vs := [2, 3, 4]) (sss_one (ss_for po rfl (si_sq (se_call L.h6 hr T.g6 T.F6.kp T.b6 tk (sa_cons (se_mv 3) sa_nil) none)) (sg_name nd) (sss_kill (vs := [4]) (sss_one (ss_app (i := 1) (se_bin ol_add op_addA (se_tup (sa_cons (se_mv 2) sa_nil)) (se_vb 4))))))))) (sss_one (ss_end (ss_ret (se_rv 1))))))⟩
/-- piece_at -/
theorem e7 (k : Nat) : fs (k + 1) 7 = fnF 5 2 (m_piece_at_2 (fs k 30) (fs k 5)) := rfl
theorem w7 {T : Top K.fr mg} {k : Nat} (L : Lv P K mg base T k) : FnOk P K.w K.fr mg base (L2.CX P K.w) (k + 1) T.a7 T.d7 ["tree", "place"] (spF K (cvK K.fr) 2 (fs (k + 1) 7)) := by
  rw [e7]
  refine fn_of' ["tree", "place", "found", "number", "kids"] rfl rfl T.F7 sc7 fun cdv A outer s H E hr tk po => ?_
  have nd := sc7.nd
  have hu := hr.units
  have hu2 : _ + 199 < cLine := Nat.lt_of_le_of_lt (Nat.add_le_add_left (by decide : 199 ≤ 200) _) (Nat.lt_of_le_of_lt (Nat.add_le_add_right (Nat.le_add_right _ _) _) hr.un)
  have hu5 : _ + 65 < cLine := Nat.lt_of_le_of_lt (Nat.add_le_add_left (by decide : 65 ≤ 200) _) (Nat.lt_of_le_of_lt (Nat.add_le_add_right (Nat.le_add_right _ _) _) hr.un)
  unfold m_piece_at_2 m_piece_at_2_b1
  exact ⟨_, (sss_cons (ss_set (i := 2) nd (se_mv 0)) (sss_cons (ss_for po rfl (si_sq (se_mv 1)) (sg_name nd) (sss_kill (vs := [3, 4]) (sss_cons (ss_set (i := 4) nd (se_call L.h5 hr T.g5 T.F5.kp T.b5 tk (sa_cons (se_mv 2) sa_nil) none)) (sss_cons (ss_if (st_not (st_chain ol_cmp op_le ol_ltA (op_ltA (by exact hu5)) se_int (se_vb 3) (se_cb cl_len call_len T.m_len (sa_cons (se_vb 4) sa_nil)))) (sss_one (ss_raise L.x_NoPlace T.xT_NoPlace T.xo_NoPlace T.xv_NoPlace T.xg_NoPlace T.xb_NoPlace hr tk rfl (sa_cons (se_mv 1) sa_nil))) sss_nil) (sss_one (ss_set (i := 2) nd (se_ixA (by exact hu5) (se_vb 4) (se_vb 3)))))))) (sss_one (ss_end (ss_ret (se_rv 2))))))⟩
/-- signs_of -/
theorem e8 (k : Nat) : fs (k + 1) 8 = fnF 3 1 (m_signs_of (fs k 5) (fs k 8)) := rfl
theorem w8 {T : Top K.fr mg} {k : Nat} (L : Lv P K mg base T k) : FnOk P K.w K.fr mg base (L2.CX P K.w) (k + 1) T.a8 T.d8 ["tree"] (spF K (cvK K.fr) 1 (fs (k + 1) 8)) := by
  rw [e8]
  refine fn_of' ["tree", "found", "kid"] rfl rfl T.F8 sc8 fun cdv A outer s H E hr tk po => ?_
  have nd := sc8.nd
  have hu := hr.units
  have hu2 : _ + 199 < cLine := Nat.lt_of_le_of_lt (Nat.add_le_add_left (by decide : 199 ≤ 200) _) (Nat.lt_of_le_of_lt (Nat.add_le_add_right (Nat.le_add_right _ _) _) hr.un)
  have hu5 : _ + 65 < cLine := Nat.lt_of_le_of_lt (Nat.add_le_add_left (by decide : 65 ≤ 200) _) (Nat.lt_of_le_of_lt (Nat.add_le_add_right (Nat.le_add_right _ _) _) hr.un)
  unfold m_signs_of m_signs_of_b1
  exact ⟨_, (sss_cons (ss_if (st_cmp ol_eqB (op_eqB (by exact hu2)) (se_ixA (by exact hu5) (se_vb 0) se_int) se_str) (sss_one (ss_end (ss_ret (se_tup (sa_cons (se_ixA (by exact hu5) (se_vb 0) se_int) sa_nil))))) sss_nil) (sss_cons (ss_set (i := 1) nd (se_tup sa_nil)) (sss_cons (ss_for po rfl (si_sq (se_call L.h5 hr T.g5 T.F5.kp T.b5 tk (sa_cons (se_mv 0) sa_nil) none)) (sg_name nd) (sss_kill (vs := [2]) (sss_one (ss_set (i := 1) nd (se_bin ol_add op_addA (se_vb 1) (se_call L.h8 hr T.g8 T.F8.kp T.b8 tk (sa_cons (se_mv 2) sa_nil) none)))))) (sss_one (ss_end (ss_ret (se_rv 1)))))))⟩
/-- is_key -/
theorem e9 (k : Nat) : fs (k + 1) 9 = fnF 2 1 (m_is_key) := rfl
theorem w9 {T : Top K.fr mg} {k : Nat} (L : Lv P K mg base T k) : FnOk P K.w K.fr mg base (L2.CX P K.w) (k + 1) T.a9 T.d9 ["text"] (spF K (cvK K.fr) 1 (fs (k + 1) 9)) := by
  rw [e9]
  refine fn_of' ["text", "letter"] rfl rfl T.F9 sc9 fun cdv A outer s H E hr tk po => ?_
  have nd := sc9.nd
  have hu := hr.units
  have hu2 : _ + 199 < cLine := Nat.lt_of_le_of_lt (Nat.add_le_add_left (by decide : 199 ≤ 200) _) (Nat.lt_of_le_of_lt (Nat.add_le_add_right (Nat.le_add_right _ _) _) hr.un)
  have hu5 : _ + 65 < cLine := Nat.lt_of_le_of_lt (Nat.add_le_add_left (by decide : 65 ≤ 200) _) (Nat.lt_of_le_of_lt (Nat.add_le_add_right (Nat.le_add_right _ _) _) hr.un)
  unfold m_is_key m_is_key_b1
  exact ⟨_, (sss_cons (ss_if (sw_or (st_not (st_chain ol_cmp op_le ol_cmp op_le se_int (se_cb cl_len call_len T.m_len (sa_cons (se_vb 0) sa_nil)) (se_gint T.c_LONGEST_KEY))) (sw_one (st_cmp ol_notInB (op_notInB (by exact hu5)) (se_ixA (by exact hu5) (se_vb 0) se_int) (se_gstr T.c_SMALL_books)))).st (sss_one (ss_end (ss_ret se_bl))) sss_nil) (sss_cons (ss_for po rfl (si_sq (se_mv 0)) (sg_name nd) (sss_kill (vs := [1]) (sss_one (ss_if (sw_and (st_cmp ol_notInB (op_notInB (by exact hu5)) (se_vb 1) (se_gstr T.c_SMALL_books)) (sw_one (st_cmp ol_notInB (op_notInB (by exact hu5)) (se_vb 1) (se_gstr T.c_FIGURES_books)))).st (sss_one (ss_end (ss_ret se_bl))) sss_nil)))) (sss_one (ss_end (ss_ret se_bl)))))⟩
/-- feet_of -/
theorem e10 (k : Nat) : fs (k + 1) 10 = fnF 4 1 (m_feet_of (fs k 6) (fs k 7)) := rfl
theorem w10 {T : Top K.fr mg} {k : Nat} (L : Lv P K mg base T k) : FnOk P K.w K.fr mg base (L2.CX P K.w) (k + 1) T.a10 T.d10 ["tree"] (spF K (cvK K.fr) 1 (fs (k + 1) 10)) := by
  rw [e10]
  refine fn_of' ["tree", "pieces", "place", "piece"] rfl rfl T.F10 sc10 fun cdv A outer s H E hr tk po => ?_
  have nd := sc10.nd
  have hu := hr.units
  have hu2 : _ + 199 < cLine := Nat.lt_of_le_of_lt (Nat.add_le_add_left (by decide : 199 ≤ 200) _) (Nat.lt_of_le_of_lt (Nat.add_le_add_right (Nat.le_add_right _ _) _) hr.un)
  have hu5 : _ + 65 < cLine := Nat.lt_of_le_of_lt (Nat.add_le_add_left (by decide : 65 ≤ 200) _) (Nat.lt_of_le_of_lt (Nat.add_le_add_right (Nat.le_add_right _ _) _) hr.un)
  unfold m_feet_of m_feet_of_ce3 m_feet_of_ce2 m_feet_of_ct1
  exact ⟨_, (sss_cons (ss_setLc (i := 1) (own := [(("place" : Str), 2)]) rfl nd (blkOk_by (N := ["tree", "pieces", "place", "piece"]) (sc := defScope s10) (by decide +kernel)) (si_sq (se_call L.h6 hr T.g6 T.F6.kp T.b6 tk (sa_cons (se_mv 0) sa_nil) none)) (fun _ _ _ _ _ => (sgw_name nd)) (fun _ _ _ _ _ => sp_nil) (fun _ _ _ _ _ => (se_call L.h7 (by exact hr) T.g7 T.F7.kp T.b7 takes0 (sa_cons (se_mv 0) (sa_cons (se_mv 2) sa_nil)) none)) (sw_true rfl rfl rfl (by decide +kernel))) (sss_one (ss_end (ss_ret (se_comp (own := [(("piece" : Str), 3)]) rfl nd (blkOk_by (N := ["tree", "pieces", "place", "piece"]) (sc := defScope s10) (by decide +kernel)) (si_sq (se_mv 1)) (fun _ _ _ _ _ => (sgw_name nd)) (fun _ _ _ _ _ => (sp_one (st_cmp ol_eqB (op_eqB (by exact hu2)) (se_ixA (by exact hu5) (se_vb 3) se_int) se_str))) (fun _ _ _ _ _ => (se_ixA (by exact hu5) (se_vb 3) se_int)))))))⟩
/-- amiss_in -/
theorem e11 (k : Nat) : fs (k + 1) 11 = fnF 3 1 (m_amiss_in (fs k 8) (fs k 10) (fs k 6)) := rfl
theorem w11 {T : Top K.fr mg} {k : Nat} (L : Lv P K mg base T k) : FnOk P K.w K.fr mg base (L2.CX P K.w) (k + 1) T.a11 T.d11 ["tree"] (spF K (cvK K.fr) 1 (fs (k + 1) 11)) := by
  rw [e11]
  refine fn_of' ["tree", "found", "place"] rfl rfl T.F11 sc11 fun cdv A outer s H E hr tk po => ?_
  have nd := sc11.nd
  have hu := hr.units
  have hu2 : _ + 199 < cLine := Nat.lt_of_le_of_lt (Nat.add_le_add_left (by decide : 199 ≤ 200) _) (Nat.lt_of_le_of_lt (Nat.add_le_add_right (Nat.le_add_right _ _) _) hr.un)
  have hu5 : _ + 65 < cLine := Nat.lt_of_le_of_lt (Nat.add_le_add_left (by decide : 65 ≤ 200) _) (Nat.lt_of_le_of_lt (Nat.add_le_add_right (Nat.le_add_right _ _) _) hr.un)
  unfold m_amiss_in m_amiss_in_ce1
  exact ⟨_, (sss_cons (ss_set (i := 1) nd (se_call L.h6 hr T.g6 T.F6.kp T.b6 tk (sa_cons (se_mv 0) sa_nil) none)) (sss_cons (ss_if (st_cmp ol_neB (op_neB (by exact hu2)) (se_ixA (by exact hu5) (se_vb 0) se_int) se_str) (sss_one (ss_end (ss_ret se_str))) sss_nil) (sss_cons (ss_if (st_cmp ol_cmp op_gt (se_cb cl_len call_len T.m_len (sa_cons (se_call L.h10 hr T.g10 T.F10.kp T.b10 tk (sa_cons (se_mv 0) sa_nil) none) sa_nil)) se_int) (sss_one (ss_end (ss_ret se_str))) sss_nil) (sss_cons (ss_if (st_cmp ol_eqB (op_eqB (by exact hu2)) (se_cb cl_len call_len T.m_len (sa_cons (se_call L.h8 hr T.g8 T.F8.kp T.b8 tk (sa_cons (se_mv 0) sa_nil) none) sa_nil)) se_int) (sss_one (ss_end (ss_ret se_str))) sss_nil) (sss_cons (ss_if (sw_or (st_cmp ol_cmp op_gt (se_cb cl_len call_len T.m_len (sa_cons (se_vb 1) sa_nil)) (se_gint T.c_MOST_PIECES)) (sw_one (st_cmp ol_cmp op_ge (se_cb cl_maxL (cr_max rfl) T.m_max (sa_cons (se_comp (own := [(("place" : Str), 2)]) rfl nd (blkOk_by (N := ["tree", "found", "place"]) (sc := defScope s11) (by decide +kernel)) (si_sq (se_mv 1)) (fun _ _ _ _ _ => (sgw_name nd)) (fun _ _ _ _ _ => sp_nil) (fun _ _ _ _ _ => (se_cb cl_len call_len T.m_len (sa_cons (se_vb 2) sa_nil)))) sa_nil)) (se_gint T.c_MOST_WITHIN)))).st (sss_one (ss_end (ss_ret se_str))) sss_nil) (sss_one (ss_end (ss_ret se_non))))))))⟩
/-- is_entry -/
theorem e12 (k : Nat) : fs (k + 1) 12 = fnF 1 1 (m_is_entry (fs k 11) (fs k 4) (fs k 9)) := rfl
theorem w12 {T : Top K.fr mg} {k : Nat} (L : Lv P K mg base T k) : FnOk P K.w K.fr mg base (L2.CX P K.w) (k + 1) T.a12 T.d12 ["thing"] (spF K (cvK K.fr) 1 (fs (k + 1) 12)) := by
  rw [e12]
  refine fn_of' ["thing"] rfl rfl T.F12 sc12 fun cdv A outer s H E hr tk po => ?_
  have nd := sc12.nd
  have hu := hr.units
  have hu2 : _ + 199 < cLine := Nat.lt_of_le_of_lt (Nat.add_le_add_left (by decide : 199 ≤ 200) _) (Nat.lt_of_le_of_lt (Nat.add_le_add_right (Nat.le_add_right _ _) _) hr.un)
  have hu5 : _ + 65 < cLine := Nat.lt_of_le_of_lt (Nat.add_le_add_left (by decide : 65 ≤ 200) _) (Nat.lt_of_le_of_lt (Nat.add_le_add_right (Nat.le_add_right _ _) _) hr.un)
  unfold m_is_entry
  exact ⟨_, (sss_cons (ss_if (sw_or (st_not (st_val (se_isi kit_tup T.m_isinstance T.m_tuple (se_vb 0)))) (sw_or (st_cmp ol_neB (op_neB (by exact hu2)) (se_cb cl_len call_len T.m_len (sa_cons (se_vb 0) sa_nil)) se_int) (sw_or (st_not (st_val (se_isi kit_str T.m_isinstance T.m_str (se_ixA (by exact hu5) (se_vb 0) se_int)))) (sw_one (st_not (st_val (se_call L.h9 hr T.g9 T.F9.kp T.b9 tk (sa_cons (se_ixA (by exact hu5) (se_vb 0) se_int) sa_nil) none))))))).st (sss_one (ss_ret se_bl)) sss_nil) (sss_one (ss_end (ss_ret (se_and (se_call L.h4 hr T.g4 T.F4.kp T.b4 tk (sa_cons (se_ixA (by exact hu5) (se_vb 0) se_int) sa_nil) none) (se_one (se_cmp ol_is op_isA (se_call L.h11 hr T.g11 T.F11.kp T.b11 tk (sa_cons (se_ixA (by exact hu5) (se_vb 0) se_int) sa_nil) none) se_non)))))))⟩
/-- is_book -/
theorem e13 (k : Nat) : fs (k + 1) 13 = fnF 3 1 (m_is_book (fs k 12) (fs k 0)) := rfl
theorem w13 {T : Top K.fr mg} {k : Nat} (L : Lv P K mg base T k) : FnOk P K.w K.fr mg base (L2.CX P K.w) (k + 1) T.a13 T.d13 ["thing"] (spF K (cvK K.fr) 1 (fs (k + 1) 13)) := by
  rw [e13]
  refine fn_of' ["thing", "keys", "one"] rfl rfl T.F13 sc13 fun cdv A outer s H E hr tk po => ?_
  have nd := sc13.nd
  have hu := hr.units
  have hu2 : _ + 199 < cLine := Nat.lt_of_le_of_lt (Nat.add_le_add_left (by decide : 199 ≤ 200) _) (Nat.lt_of_le_of_lt (Nat.add_le_add_right (Nat.le_add_right _ _) _) hr.un)
  have hu5 : _ + 65 < cLine := Nat.lt_of_le_of_lt (Nat.add_le_add_left (by decide : 65 ≤ 200) _) (Nat.lt_of_le_of_lt (Nat.add_le_add_right (Nat.le_add_right _ _) _) hr.un)
  unfold m_is_book m_is_book_b1
  exact ⟨_, (sss_cons (ss_if (sw_or (st_not (st_val (se_isi kit_tup T.m_isinstance T.m_tuple (se_vb 0)))) (sw_or (st_cmp ol_neB (op_neB (by exact hu2)) (se_cb cl_len call_len T.m_len (sa_cons (se_vb 0) sa_nil)) se_int) (sw_or (st_not (st_val (se_isi kit_str T.m_isinstance T.m_str (se_ixA (by exact hu5) (se_vb 0) se_int)))) (sw_one (st_not (st_val (se_call L.h0 hr T.g0 T.F0.kp T.b0 tk (sa_cons (se_ixA (by exact hu5) (se_vb 0) se_int) sa_nil) none))))))).st (sss_one (ss_end (ss_ret se_bl))) sss_nil) (sss_cons (ss_if (sw_or (st_not (st_val (se_isi kit_tup T.m_isinstance T.m_tuple (se_ixA (by exact hu5) (se_vb 0) se_int)))) (sw_one (st_not (st_chain ol_cmp op_le ol_cmp op_le se_int (se_cb cl_len call_len T.m_len (sa_cons (se_ixA (by exact hu5) (se_vb 0) se_int) sa_nil)) (se_gint T.c_MOST_TREES))))).st (sss_one (ss_end (ss_ret se_bl))) sss_nil) (sss_cons (ss_set (i := 1) nd (se_lst sa_nil)) (sss_cons (ss_for po rfl (si_sq (se_ixA (by exact hu5) (se_vb 0) se_int)) (sg_name nd) (sss_kill (vs := [2]) (sss_cons (ss_if (st_not (st_val (se_call L.h12 hr T.g12 T.F12.kp T.b12 tk (sa_cons (se_mv 2) sa_nil) none))) (sss_one (ss_end (ss_ret se_bl))) sss_nil) (sss_one (ss_app (i := 1) (se_ixA (by exact hu5) (se_vb 2) se_int)))))) (sss_one (ss_end (ss_ret (se_cmp ol_eqB (op_eqB (by exact hu2)) (se_lenSet T.m_len T.m_set (se_vb 1)) (se_cb cl_len call_len T.m_len (sa_cons (se_vb 1) sa_nil))))))))))⟩
/-- _law_cell -/
theorem e14 (k : Nat) : fs (k + 1) 14 = fnF 1 1 (m_law_cell) := rfl
theorem w14 {T : Top K.fr mg} {k : Nat} (L : Lv P K mg base T k) : FnOk P K.w K.fr mg base (L2.CX P K.w) (k + 1) T.a14 T.d14 ["state"] (spF K (cvK K.fr) 1 (fs (k + 1) 14)) := by
  rw [e14]
  refine fn_of' ["state"] rfl rfl T.F14 sc14 fun cdv A outer s H E hr tk po => ?_
  have nd := sc14.nd
  have hu := hr.units
  have hu2 : _ + 199 < cLine := Nat.lt_of_le_of_lt (Nat.add_le_add_left (by decide : 199 ≤ 200) _) (Nat.lt_of_le_of_lt (Nat.add_le_add_right (Nat.le_add_right _ _) _) hr.un)
  have hu5 : _ + 65 < cLine := Nat.lt_of_le_of_lt (Nat.add_le_add_left (by decide : 65 ≤ 200) _) (Nat.lt_of_le_of_lt (Nat.add_le_add_right (Nat.le_add_right _ _) _) hr.un)
  unfold m_law_cell
  exact ⟨_, (sss_cons (ss_put (i := 0) (by exact hu5) se_str (se_bin ol_add op_addA (se_ixA (by exact hu5) (se_vb 0) se_str) se_int)) (sss_cons (ss_if (st_cmp ol_cmp op_gt (se_ixA (by exact hu5) (se_vb 0) se_str) (se_cb cl_len call_len T.m_len (sa_cons (se_ixA (by exact hu5) (se_vb 0) se_str) sa_nil))) (sss_one (ss_ret se_int)) sss_nil) (sss_one (ss_end (ss_ret (se_ixA (by exact hu5) (se_ixA (by exact hu5) (se_vb 0) se_str) (se_bin ol_sub op_sub (se_ixA (by exact hu5) (se_vb 0) se_str) se_int)))))))⟩
/-- _law_kid -/
theorem e15 (k : Nat) : fs (k + 1) 15 = fnF 8 2 (m_law_kid (fs k 15) (fs k 14)) := rfl
theorem w15 {T : Top K.fr mg} {k : Nat} (L : Lv P K mg base T k) : FnOk P K.w K.fr mg base (L2.CX P K.w) (k + 1) T.a15 T.d15 ["state", "left"] (spF K (cvK K.fr) 2 (fs (k + 1) 15)) := by
  rw [e15]
  refine fn_of' ["state", "left", "cell", "sign", "name", "takes", "kids", "k"] rfl rfl T.F15 sc15 fun cdv A outer s H E hr tk po => ?_
  have nd := sc15.nd
  have hu := hr.units
  have hu2 : _ + 199 < cLine := Nat.lt_of_le_of_lt (Nat.add_le_add_left (by decide : 199 ≤ 200) _) (Nat.lt_of_le_of_lt (Nat.add_le_add_right (Nat.le_add_right _ _) _) hr.un)
  have hu5 : _ + 65 < cLine := Nat.lt_of_le_of_lt (Nat.add_le_add_left (by decide : 65 ≤ 200) _) (Nat.lt_of_le_of_lt (Nat.add_le_add_right (Nat.le_add_right _ _) _) hr.un)
  unfold m_law_kid m_law_kid_b1
  exact ⟨_, (sss_cons (ss_set (i := 2) nd (se_call L.h14 hr T.g14 T.F14.kp T.b14 tk (sa_cons (se_vb 0) sa_nil) (some 0))) (sss_cons (ss_set (i := 3) nd (se_tup (sa_cons se_str (sa_cons (se_ixA (by exact hu5) (se_lst (sa_cons se_str (sa_cons se_str (sa_cons se_str sa_nil)))) (se_bin ol_mod op_mod (se_bin ol_div op_fdiv (se_vb 2) se_int) se_int)) sa_nil)))) (sss_cons (ss_set (i := 4) nd (se_ixA (by exact hu5) (se_lst (sa_cons se_str (sa_cons se_str (sa_cons se_str sa_nil)))) (se_bin ol_mod op_mod (se_bin ol_div op_fdiv (se_vb 2) se_int) se_int))) (sss_cons (ss_if (sw_or (st_cmp ol_eqB (op_eqB (by exact hu2)) (se_vb 1) se_int) (sw_one (st_cmp ol_ltA (op_ltA (by exact hu5)) (se_bin ol_mod op_mod (se_vb 2) se_int) se_int))).st (sss_one (ss_end (ss_ret (se_ixA (by exact hu5) (se_lst (sa_cons (se_mv 3) (sa_cons (se_mv 3) (sa_cons (se_tup (sa_cons se_str sa_nil)) (sa_cons (se_tup (sa_cons se_str (sa_cons (se_mv 4) sa_nil))) sa_nil))))) (se_bin ol_mod op_mod (se_bin ol_div op_fdiv (se_vb 2) se_int) se_int))))) sss_nil) (sss_cons (ss_set (i := 5) nd (se_ixA (by exact hu5) (se_lst (sa_cons se_non (sa_cons (se_tup (sa_cons (se_mv 4) (sa_cons se_bl sa_nil))) (sa_cons (se_tup (sa_cons se_str (sa_cons se_bl sa_nil))) (sa_cons (se_tup (sa_cons (se_mv 4) (sa_cons se_bl sa_nil))) sa_nil))))) (se_bin ol_mod op_mod (se_bin ol_div op_fdiv (se_vb 2) se_int) se_int))) (sss_cons (ss_set (i := 6) nd (se_lst sa_nil)) (sss_cons (ss_for po rfl (si_r1 (se_bin ol_add op_addA se_int (se_bin ol_mod op_mod (se_bin ol_div op_fdiv (se_vb 2) se_int) se_int)) T.m_range) (sg_name nd) (sss_kill (vs := [7]) (sss_one (ss_app (i := 6) (se_call L.h15 hr T.g15 T.F15.kp T.b15 tk (sa_cons (se_vb 0) (sa_cons (se_bin ol_sub op_sub (se_vb 1) se_int) sa_nil)) (some 0)))))) (sss_one (ss_end (ss_ret (se_tup (sa_cons se_str (sa_cons (se_ixA (by exact hu5) (se_lst (sa_cons se_str (sa_cons se_str (sa_cons se_str sa_nil)))) (se_bin ol_mod op_mod (se_bin ol_div op_fdiv (se_vb 2) se_int) se_int)) (sa_cons (se_mv 5) (sa_cons (se_ct cl_tuple call_tupX T.m_tuple (sa_cons (se_vb 6) sa_nil)) sa_nil)))))))))))))))⟩
/-- _law_footed -/
theorem e16 (k : Nat) : fs (k + 1) 16 = fnF 7 3 (m_law_footed (fs k 16)) := rfl
theorem w16 {T : Top K.fr mg} {k : Nat} (L : Lv P K mg base T k) : FnOk P K.w K.fr mg base (L2.CX P K.w) (k + 1) T.a16 T.d16 ["tree", "foot", "cell"] (spF K (cvK K.fr) 3 (fs (k + 1) 16)) := by
  rw [e16]
  refine fn_of' ["tree", "foot", "cell", "knots", "at", "inner", "k"] rfl rfl T.F16 sc16 fun cdv A outer s H E hr tk po => ?_
  have nd := sc16.nd
  have hu := hr.units
  have hu2 : _ + 199 < cLine := Nat.lt_of_le_of_lt (Nat.add_le_add_left (by decide : 199 ≤ 200) _) (Nat.lt_of_le_of_lt (Nat.add_le_add_right (Nat.le_add_right _ _) _) hr.un)
  have hu5 : _ + 65 < cLine := Nat.lt_of_le_of_lt (Nat.add_le_add_left (by decide : 65 ≤ 200) _) (Nat.lt_of_le_of_lt (Nat.add_le_add_right (Nat.le_add_right _ _) _) hr.un)
  unfold m_law_footed m_law_footed_ce2 m_law_footed_ct1
  exact ⟨_, (sss_cons (ss_setLc (i := 3) (own := [(("k" : Str), 6)]) rfl nd (blkOk_by (N := ["tree", "foot", "cell", "knots", "at", "inner", "k"]) (sc := defScope s16) (by decide +kernel)) (si_r1 (se_cb cl_len call_len T.m_len (sa_cons (se_ixA (by exact hu5) (se_vb 0) se_int) sa_nil)) T.m_range) (fun _ _ _ _ _ => (sgw_name nd)) (fun _ _ _ _ _ => (sp_one (st_cmp ol_eqB (op_eqB (by exact hu2)) (se_ixA (by exact hu5) (se_ixA (by exact hu5) (se_ixA (by exact hu5) (se_vb 0) se_int) (se_vb 6)) se_int) se_str))) (fun _ _ _ _ _ => (se_mv 6)) (sw_true rfl rfl rfl (by decide +kernel))) (sss_cons (ss_kill (vs := [4, 5]) (ss_if (sw_and (st_cmp ol_cmp op_gt (se_cb cl_len call_len T.m_len (sa_cons (se_vb 3) sa_nil)) se_int) (sw_one (st_cmp ol_eqB (op_eqB (by exact hu2)) (se_bin ol_mod op_mod (se_vb 2) se_int) se_int))).st (sss_cons (ss_set (i := 4) nd (se_ixA (by exact hu5) (se_vb 3) (se_bin ol_mod op_mod (se_bin ol_div op_fdiv (se_vb 2) se_int) (se_cb cl_len call_len T.m_len (sa_cons (se_vb 3) sa_nil))))) (sss_cons (ss_set (i := 5) nd (se_call L.h16 hr T.g16 T.F16.kp T.b16 tk (sa_cons (se_ixA (by exact hu5) (se_ixA (by exact hu5) (se_vb 0) se_int) (se_vb 4)) (sa_cons (se_mv 1) (sa_cons (se_bin ol_div op_fdiv (se_vb 2) se_int) sa_nil))) none)) (sss_one (ss_end (ss_ret (se_bin ol_add op_addA (se_slice (se_vb 0) .non (.some se_int)) (se_tup (sa_cons (se_bin ol_add op_addA (se_bin ol_add op_addA (se_slice (se_ixA (by exact hu5) (se_vb 0) se_int) .non (.some (se_vb 4))) (se_tup (sa_cons (se_mv 5) sa_nil))) (se_slice (se_ixA (by exact hu5) (se_vb 0) se_int) (.some (se_bin ol_add op_addA (se_vb 4) se_int)) .non)) sa_nil)))))))) sss_nil)) (sss_cons (ss_set (i := 4) nd (se_bin ol_mod op_mod (se_bin ol_div op_fdiv (se_vb 2) se_int) (se_bin ol_add op_addA (se_cb cl_len call_len T.m_len (sa_cons (se_ixA (by exact hu5) (se_vb 0) se_int) sa_nil)) se_int))) (sss_one (ss_end (ss_ret (se_bin ol_add op_addA (se_slice (se_vb 0) .non (.some se_int)) (se_tup (sa_cons (se_bin ol_add op_addA (se_bin ol_add op_addA (se_slice (se_ixA (by exact hu5) (se_vb 0) se_int) .non (.some (se_vb 4))) (se_tup (sa_cons (se_mv 1) sa_nil))) (se_slice (se_ixA (by exact hu5) (se_vb 0) se_int) (.some (se_vb 4)) .non)) sa_nil)))))))))⟩
/-- _law_drawn -/
theorem e17 (k : Nat) : fs (k + 1) 17 = fnF 7 2 (m_law_drawn (fs k 16) (fs k 15) (fs k 14)) := rfl
theorem w17 {T : Top K.fr mg} {k : Nat} (L : Lv P K mg base T k) : FnOk P K.w K.fr mg base (L2.CX P K.w) (k + 1) T.a17 T.d17 ["state", "left"] (spF K (cvK K.fr) 2 (fs (k + 1) 17)) := by
  rw [e17]
  refine fn_of' ["state", "left", "cell", "takes", "kids", "k", "tree"] rfl rfl T.F17 sc17 fun cdv A outer s H E hr tk po => ?_
  have nd := sc17.nd
  have hu := hr.units
  have hu2 : _ + 199 < cLine := Nat.lt_of_le_of_lt (Nat.add_le_add_left (by decide : 199 ≤ 200) _) (Nat.lt_of_le_of_lt (Nat.add_le_add_right (Nat.le_add_right _ _) _) hr.un)
  have hu5 : _ + 65 < cLine := Nat.lt_of_le_of_lt (Nat.add_le_add_left (by decide : 65 ≤ 200) _) (Nat.lt_of_le_of_lt (Nat.add_le_add_right (Nat.le_add_right _ _) _) hr.un)
  unfold m_law_drawn m_law_drawn_b1
  exact ⟨_, (sss_cons (ss_set (i := 2) nd (se_call L.h14 hr T.g14 T.F14.kp T.b14 tk (sa_cons (se_vb 0) sa_nil) (some 0))) (sss_cons (ss_set (i := 3) nd (se_ixA (by exact hu5) (se_lst (sa_cons se_non (sa_cons (se_tup (sa_cons se_str (sa_cons se_bl sa_nil))) (sa_cons (se_tup (sa_cons se_str (sa_cons se_bl sa_nil))) (sa_cons (se_tup (sa_cons se_str (sa_cons se_bl sa_nil))) sa_nil))))) (se_bin ol_mod op_mod (se_vb 2) se_int))) (sss_cons (ss_set (i := 4) nd (se_lst (sa_cons (se_tup (sa_cons se_str (sa_cons (se_ixA (by exact hu5) (se_lst (sa_cons se_str (sa_cons se_str sa_nil))) (se_bin ol_mod op_mod (se_bin ol_div op_fdiv (se_vb 2) se_int) se_int)) sa_nil))) sa_nil))) (sss_cons (ss_for po rfl (si_r1 (se_bin ol_mod op_mod (se_bin ol_div op_fdiv (se_vb 2) se_int) se_int) T.m_range) (sg_name nd) (sss_kill (vs := [5]) (sss_one (ss_ins (i := 4) (se_bin ol_mod op_mod (se_bin ol_div op_fdiv (se_vb 2) se_int) (se_bin ol_add op_addA (se_cb cl_len call_len T.m_len (sa_cons (se_vb 4) sa_nil)) se_int)) (se_call L.h15 hr T.g15 T.F15.kp T.b15 tk (sa_cons (se_vb 0) (sa_cons (se_mv 1) sa_nil)) (some 0)))))) (sss_cons (ss_set (i := 6) nd (se_tup (sa_cons se_str (sa_cons (se_ixA (by exact hu5) (se_lst (sa_cons se_str (sa_cons se_str (sa_cons se_str sa_nil)))) (se_bin ol_mod op_mod (se_bin ol_div op_fdiv (se_vb 2) se_int) se_int)) (sa_cons (se_mv 3) (sa_cons (se_ct cl_tuple call_tupX T.m_tuple (sa_cons (se_vb 4) sa_nil)) sa_nil)))))) (sss_cons (ss_if (st_cmp ol_eqB (op_eqB (by exact hu2)) (se_bin ol_mod op_mod (se_bin ol_div op_fdiv (se_vb 2) se_int) se_int) se_int) (sss_one (ss_end (ss_ret (se_rv 6)))) sss_nil) (sss_one (ss_end (ss_ret (se_call L.h16 hr T.g16 T.F16.kp T.b16 tk (sa_cons (se_mv 6) (sa_cons (se_tup (sa_cons se_str (sa_cons (se_ixA (by exact hu5) (se_lst (sa_cons se_str (sa_cons se_str (sa_cons se_str sa_nil)))) (se_bin ol_mod op_mod (se_bin ol_div op_fdiv (se_vb 2) se_int) se_int)) sa_nil))) (sa_cons (se_bin ol_div op_fdiv (se_vb 2) se_int) sa_nil))) none))))))))))⟩
/-- _law_book -/
theorem e18 (k : Nat) : fs (k + 1) 18 = fnF 10 3 (m_law_book (fs k 17) (fs k 14)) := rfl
theorem w18 {T : Top K.fr mg} {k : Nat} (L : Lv P K mg base T k) : FnOk P K.w K.fr mg base (L2.CX P K.w) (k + 1) T.a18 T.d18 ["state", "many", "left"] (spF K (cvK K.fr) 3 (fs (k + 1) 18)) := by
  rw [e18]
  refine fn_of' ["state", "many", "left", "cell", "trees", "k", "name", "foot", "kids", "key"] rfl rfl T.F18 sc18 fun cdv A outer s H E hr tk po => ?_
  have nd := sc18.nd
  have hu := hr.units
  have hu2 : _ + 199 < cLine := Nat.lt_of_le_of_lt (Nat.add_le_add_left (by decide : 199 ≤ 200) _) (Nat.lt_of_le_of_lt (Nat.add_le_add_right (Nat.le_add_right _ _) _) hr.un)
  have hu5 : _ + 65 < cLine := Nat.lt_of_le_of_lt (Nat.add_le_add_left (by decide : 65 ≤ 200) _) (Nat.lt_of_le_of_lt (Nat.add_le_add_right (Nat.le_add_right _ _) _) hr.un)
  unfold m_law_book m_law_book_b2 m_law_book_b1
  exact ⟨_, (sss_cons (ss_set (i := 3) nd (se_call L.h14 hr T.g14 T.F14.kp T.b14 tk (sa_cons (se_vb 0) sa_nil) (some 0))) (sss_cons (ss_set (i := 4) nd (se_lst sa_nil)) (sss_cons (ss_for po rfl (si_r1 se_int T.m_range) (sg_name nd) (sss_kill (vs := [5, 6, 7, 8]) (sss_cons (ss_set (i := 6) nd (se_ixA (by exact hu5) (se_lst (sa_cons se_str (sa_cons se_str (sa_cons se_str sa_nil)))) (se_vb 5))) (sss_cons (ss_app (i := 4) (se_tup (sa_cons (se_ixA (by exact hu5) (se_lst (sa_cons se_str (sa_cons se_str (sa_cons se_str sa_nil)))) (se_vb 5)) (sa_cons (se_tup (sa_cons se_str (sa_cons (se_mv 6) (sa_cons se_non (sa_cons (se_tup (sa_cons (se_tup (sa_cons se_str (sa_cons (se_ixA (by exact hu5) (se_lst (sa_cons se_str (sa_cons se_str (sa_cons se_str sa_nil)))) (se_vb 5)) sa_nil))) sa_nil)) sa_nil))))) sa_nil)))) (sss_cons (ss_set (i := 7) nd (se_tup (sa_cons se_str (sa_cons (se_mv 6) sa_nil)))) (sss_cons (ss_set (i := 8) nd (se_ixA (by exact hu5) (se_lst (sa_cons (se_tup (sa_cons (se_tup (sa_cons se_str (sa_cons se_str sa_nil))) (sa_cons (se_mv 7) sa_nil))) (sa_cons (se_tup (sa_cons (se_mv 7) (sa_cons (se_tup (sa_cons se_str (sa_cons se_str sa_nil))) sa_nil))) sa_nil))) (se_bin ol_mod op_mod (se_bin ol_div op_fdiv (se_vb 3) (se_bin ol_add op_addA (se_vb 5) se_int)) se_int))) (sss_one (ss_app (i := 4) (se_tup (sa_cons (se_ixA (by exact hu5) (se_lst (sa_cons se_str (sa_cons se_str (sa_cons se_str sa_nil)))) (se_vb 5)) (sa_cons (se_tup (sa_cons se_str (sa_cons (se_mv 6) (sa_cons se_non (sa_cons (se_mv 8) sa_nil))))) sa_nil))))))))))) (sss_cons (ss_for po rfl (si_r1 (se_vb 1) T.m_range) (sg_name nd) (sss_kill (vs := [5, 9]) (sss_cons (ss_set (i := 9) nd (se_ixA (by exact hu5) (se_lst (sa_cons se_str (sa_cons se_str (sa_cons se_str (sa_cons se_str (sa_cons se_str sa_nil)))))) (se_vb 5))) (sss_one (ss_ins (i := 4) (se_bin ol_mod op_mod (se_bin ol_div op_fdiv (se_vb 3) (se_bin ol_add op_addA (se_vb 5) se_int)) (se_bin ol_add op_addA (se_cb cl_len call_len T.m_len (sa_cons (se_vb 4) sa_nil)) se_int)) (se_tup (sa_cons (se_mv 9) (sa_cons (se_call L.h17 hr T.g17 T.F17.kp T.b17 tk (sa_cons (se_vb 0) (sa_cons (se_mv 2) sa_nil)) (some 0)) sa_nil)))))))) (sss_one (ss_end (ss_ret (se_tup (sa_cons (se_ixA (by exact hu5) (se_lst (sa_cons se_str (sa_cons se_str (sa_cons se_str sa_nil)))) (se_bin ol_mod op_mod (se_bin ol_div op_fdiv (se_vb 3) se_int) se_int)) (sa_cons (se_ct cl_tuple call_tupX T.m_tuple (sa_cons (se_vb 4) sa_nil)) sa_nil))))))))))⟩
/-- _law_is_name -/
theorem e19 (k : Nat) : fs (k + 1) 19 = fnF 2 1 (m_law_is_name) := rfl
theorem w19 {T : Top K.fr mg} {k : Nat} (L : Lv P K mg base T k) : FnOk P K.w K.fr mg base (L2.CX P K.w) (k + 1) T.a19 T.d19 ["text"] (spF K (cvK K.fr) 1 (fs (k + 1) 19)) := by
  rw [e19]
  refine fn_of' ["text", "one"] rfl rfl T.F19 sc19 fun cdv A outer s H E hr tk po => ?_
  have nd := sc19.nd
  have hu := hr.units
  have hu2 : _ + 199 < cLine := Nat.lt_of_le_of_lt (Nat.add_le_add_left (by decide : 199 ≤ 200) _) (Nat.lt_of_le_of_lt (Nat.add_le_add_right (Nat.le_add_right _ _) _) hr.un)
  have hu5 : _ + 65 < cLine := Nat.lt_of_le_of_lt (Nat.add_le_add_left (by decide : 65 ≤ 200) _) (Nat.lt_of_le_of_lt (Nat.add_le_add_right (Nat.le_add_right _ _) _) hr.un)
  unfold m_law_is_name m_law_is_name_ce2 m_law_is_name_ct1
  exact ⟨_, (sss_cons (ss_if (sw_or (st_cmp ol_eqB (op_eqB (by exact hu2)) (se_cb cl_len call_len T.m_len (sa_cons (se_vb 0) sa_nil)) se_int) (sw_or (st_cmp ol_cmp op_gt (se_cb cl_len call_len T.m_len (sa_cons (se_vb 0) sa_nil)) se_int) (sw_one (st_cmp ol_inB (op_inB (by exact hu5)) (se_ixA (by exact hu5) (se_vb 0) se_int) se_str)))).st (sss_one (ss_end (ss_ret se_bl))) sss_nil) (sss_one (ss_end (ss_ret (se_cmp ol_eqB (op_eqB (by exact hu2)) (se_cb cl_len call_len T.m_len (sa_cons (se_comp (own := [(("one" : Str), 1)]) rfl nd (blkOk_by (N := ["text", "one"]) (sc := defScope s19) (by decide +kernel)) (si_sq (se_mv 0)) (fun _ _ _ _ _ => (sgw_name nd)) (fun _ _ _ _ _ => (sp_one (st_cmp ol_notInB (op_notInB (by exact hu5)) (se_vb 1) se_str))) (fun _ _ _ _ _ => (se_mv 1))) sa_nil)) se_int)))))⟩
/-- _law_is_sign -/
theorem e20 (k : Nat) : fs (k + 1) 20 = fnF 2 1 (m_law_is_sign) := rfl
theorem w20 {T : Top K.fr mg} {k : Nat} (L : Lv P K mg base T k) : FnOk P K.w K.fr mg base (L2.CX P K.w) (k + 1) T.a20 T.d20 ["text"] (spF K (cvK K.fr) 1 (fs (k + 1) 20)) := by
  rw [e20]
  refine fn_of' ["text", "one"] rfl rfl T.F20 sc20 fun cdv A outer s H E hr tk po => ?_
  have nd := sc20.nd
  have hu := hr.units
  have hu2 : _ + 199 < cLine := Nat.lt_of_le_of_lt (Nat.add_le_add_left (by decide : 199 ≤ 200) _) (Nat.lt_of_le_of_lt (Nat.add_le_add_right (Nat.le_add_right _ _) _) hr.un)
  have hu5 : _ + 65 < cLine := Nat.lt_of_le_of_lt (Nat.add_le_add_left (by decide : 65 ≤ 200) _) (Nat.lt_of_le_of_lt (Nat.add_le_add_right (Nat.le_add_right _ _) _) hr.un)
  unfold m_law_is_sign m_law_is_sign_ce2 m_law_is_sign_ct1
  exact ⟨_, (sss_one (ss_end (ss_ret (se_and (se_chain ol_ltA (op_ltA (by exact hu5)) ol_ltA (op_ltA (by exact hu5)) se_int (se_cb cl_len call_len T.m_len (sa_cons (se_vb 0) sa_nil)) se_int) (se_one (se_cmp ol_eqB (op_eqB (by exact hu2)) (se_cb cl_len call_len T.m_len (sa_cons (se_comp (own := [(("one" : Str), 1)]) rfl nd (blkOk_by (N := ["text", "one"]) (sc := defScope s20) (by decide +kernel)) (si_sq (se_mv 0)) (fun _ _ _ _ _ => (sgw_name nd)) (fun _ _ _ _ _ => (sp_one (st_cmp ol_notInB (op_notInB (by exact hu5)) (se_vb 1) se_str))) (fun _ _ _ _ _ => (se_mv 1))) sa_nil)) se_int))))))⟩
/-- _law_is_tree -/
theorem e21 (k : Nat) : fs (k + 1) 21 = fnF 3 1 (m_law_is_tree (fs k 21) (fs k 19) (fs k 20)) := rfl
theorem w21 {T : Top K.fr mg} {k : Nat} (L : Lv P K mg base T k) : FnOk P K.w K.fr mg base (L2.CX P K.w) (k + 1) T.a21 T.d21 ["thing"] (spF K (cvK K.fr) 1 (fs (k + 1) 21)) := by
  rw [e21]
  refine fn_of' ["thing", "takes", "kid"] rfl rfl T.F21 sc21 fun cdv A outer s H E hr tk po => ?_
  have nd := sc21.nd
  have hu := hr.units
  have hu2 : _ + 199 < cLine := Nat.lt_of_le_of_lt (Nat.add_le_add_left (by decide : 199 ≤ 200) _) (Nat.lt_of_le_of_lt (Nat.add_le_add_right (Nat.le_add_right _ _) _) hr.un)
  have hu5 : _ + 65 < cLine := Nat.lt_of_le_of_lt (Nat.add_le_add_left (by decide : 65 ≤ 200) _) (Nat.lt_of_le_of_lt (Nat.add_le_add_right (Nat.le_add_right _ _) _) hr.un)
  unfold m_law_is_tree m_law_is_tree_ce1
  exact ⟨_, (sss_cons (ss_if (sw_or (st_not (st_val (se_isi kit_tup T.m_isinstance T.m_tuple (se_vb 0)))) (sw_or (st_cmp ol_eqB (op_eqB (by exact hu2)) (se_cb cl_len call_len T.m_len (sa_cons (se_vb 0) sa_nil)) se_int) (sw_one (st_not (st_val (se_isi kit_str T.m_isinstance T.m_str (se_ixA (by exact hu5) (se_vb 0) se_int))))))).st (sss_one (ss_end (ss_ret se_bl))) sss_nil) (sss_cons (ss_if (st_cmp ol_inB (op_inB (by exact hu5)) (se_ixA (by exact hu5) (se_vb 0) se_int) (se_tup (sa_cons se_str (sa_cons se_str (sa_cons se_str sa_nil))))) (sss_cons (ss_if (sw_or (st_cmp ol_neB (op_neB (by exact hu2)) (se_cb cl_len call_len T.m_len (sa_cons (se_vb 0) sa_nil)) se_int) (sw_one (st_not (st_val (se_isi kit_str T.m_isinstance T.m_str (se_ixA (by exact hu5) (se_vb 0) se_int)))))).st (sss_one (ss_end (ss_ret se_bl))) sss_nil) (sss_one (ss_end (ss_ret (se_if (st_cmp ol_eqB (op_eqB (by exact hu2)) (se_ixA (by exact hu5) (se_vb 0) se_int) se_str) (se_call L.h20 hr T.g20 T.F20.kp T.b20 tk (sa_cons (se_ixA (by exact hu5) (se_vb 0) se_int) sa_nil) none) (se_call L.h19 hr T.g19 T.F19.kp T.b19 tk (sa_cons (se_ixA (by exact hu5) (se_vb 0) se_int) sa_nil) none)))))) sss_nil) (sss_cons (ss_if (st_cmp ol_neB (op_neB (by exact hu2)) (se_ixA (by exact hu5) (se_vb 0) se_int) se_str) (sss_one (ss_end (ss_ret (se_cmp ol_eqB (op_eqB (by exact hu2)) (se_vb 0) (se_tup (sa_cons se_str sa_nil)))))) sss_nil) (sss_cons (ss_if (sw_or (st_cmp ol_neB (op_neB (by exact hu2)) (se_cb cl_len call_len T.m_len (sa_cons (se_vb 0) sa_nil)) se_int) (sw_or (st_not (st_val (se_isi kit_str T.m_isinstance T.m_str (se_ixA (by exact hu5) (se_vb 0) se_int)))) (sw_one (st_not (st_val (se_call L.h19 hr T.g19 T.F19.kp T.b19 tk (sa_cons (se_ixA (by exact hu5) (se_vb 0) se_int) sa_nil) none)))))).st (sss_one (ss_end (ss_ret se_bl))) sss_nil) (sss_cons (ss_set (i := 1) nd (se_ixA (by exact hu5) (se_vb 0) se_int)) (sss_cons (ss_if (st_cmp ol_not op_notA (se_vb 1) se_non) (sss_cons (ss_if (sw_or (st_not (st_val (se_isi kit_tup T.m_isinstance T.m_tuple (se_vb 1)))) (sw_or (st_cmp ol_neB (op_neB (by exact hu2)) (se_cb cl_len call_len T.m_len (sa_cons (se_vb 1) sa_nil)) se_int) (sw_one (st_not (st_val (se_isi kit_str T.m_isinstance T.m_str (se_ixA (by exact hu5) (se_vb 1) se_int))))))).st (sss_one (ss_end (ss_ret se_bl))) sss_nil) (sss_one (ss_if (sw_or (st_not (st_val (se_call L.h19 hr T.g19 T.F19.kp T.b19 tk (sa_cons (se_ixA (by exact hu5) (se_vb 1) se_int) sa_nil) none))) (sw_one (st_not (st_val (se_isi kit_bool T.m_isinstance T.m_bool (se_ixA (by exact hu5) (se_vb 1) se_int)))))).st (sss_one (ss_end (ss_ret se_bl))) sss_nil))) sss_nil) (sss_cons (ss_if (sw_or (st_not (st_val (se_isi kit_tup T.m_isinstance T.m_tuple (se_ixA (by exact hu5) (se_vb 0) se_int)))) (sw_or (st_cmp ol_eqB (op_eqB (by exact hu2)) (se_cb cl_len call_len T.m_len (sa_cons (se_ixA (by exact hu5) (se_vb 0) se_int) sa_nil)) se_int) (sw_one (st_cmp ol_cmp op_gt (se_cb cl_len call_len T.m_len (sa_cons (se_ixA (by exact hu5) (se_vb 0) se_int) sa_nil)) se_int)))).st (sss_one (ss_end (ss_ret se_bl))) sss_nil) (sss_one (ss_end (ss_ret (se_cb cl_all (cr_all rfl) T.m_all (sa_cons (se_comp (own := [(("kid" : Str), 2)]) rfl nd (blkOk_by (N := ["thing", "takes", "kid"]) (sc := defScope s21) (by decide +kernel)) (si_sq (se_ixA (by exact hu5) (se_vb 0) se_int)) (fun _ _ _ _ _ => (sgw_name nd)) (fun _ _ _ _ _ => sp_nil) (fun _ _ _ _ _ => (se_call L.h21 (by exact hr) T.g21 T.F21.kp T.b21 takes0 (sa_cons (se_mv 2) sa_nil) none))) sa_nil))))))))))))⟩
/-- _law_all -/
theorem e22 (k : Nat) : fs (k + 1) 22 = fnF 4 2 (m_law_all_2 (fs k 22)) := rfl
theorem w22 {T : Top K.fr mg} {k : Nat} (L : Lv P K mg base T k) : FnOk P K.w K.fr mg base (L2.CX P K.w) (k + 1) T.a22 T.d22 ["tree", "place"] (spF K (cvK K.fr) 2 (fs (k + 1) 22)) := by
  rw [e22]
  refine fn_of' ["tree", "place", "found", "k"] rfl rfl T.F22 sc22 fun cdv A outer s H E hr tk po => ?_
  have nd := sc22.nd
  have hu := hr.units
  have hu2 : _ + 199 < cLine := Nat.lt_of_le_of_lt (Nat.add_le_add_left (by decide : 199 ≤ 200) _) (Nat.lt_of_le_of_lt (Nat.add_le_add_right (Nat.le_add_right _ _) _) hr.un)
  have hu5 : _ + 65 < cLine := Nat.lt_of_le_of_lt (Nat.add_le_add_left (by decide : 65 ≤ 200) _) (Nat.lt_of_le_of_lt (Nat.add_le_add_right (Nat.le_add_right _ _) _) hr.un)
  unfold m_law_all_2 m_law_all_2_b1
  exact ⟨_, (sss_cons (ss_set (i := 2) nd (se_lst (sa_cons (se_tup (sa_cons (se_mv 1) (sa_cons (se_mv 0) sa_nil))) sa_nil))) (sss_cons (ss_kill (vs := [3]) (ss_if (st_cmp ol_eqB (op_eqB (by exact hu2)) (se_ixA (by exact hu5) (se_vb 0) se_int) se_str) (sss_one (ss_for po rfl (si_r1 (se_cb cl_len call_len T.m_len (sa_cons (se_ixA (by exact hu5) (se_vb 0) se_int) sa_nil)) T.m_range) (sg_name nd) (sss_kill (vs := [3]) (sss_one (ss_ext (i := 2) (se_call L.h22 hr T.g22 T.F22.kp T.b22 tk (sa_cons (se_ixA (by exact hu5) (se_ixA (by exact hu5) (se_vb 0) se_int) (se_vb 3)) (sa_cons (se_bin ol_add op_addA (se_vb 1) (se_tup (sa_cons (se_mv 3) sa_nil))) sa_nil)) none)))))) sss_nil)) (sss_one (ss_end (ss_ret (se_rv 2))))))⟩
/-- _law_amiss -/
theorem e23 (k : Nat) : fs (k + 1) 23 = fnF 5 1 (m_law_amiss (fs k 22)) := rfl
theorem w23 {T : Top K.fr mg} {k : Nat} (L : Lv P K mg base T k) : FnOk P K.w K.fr mg base (L2.CX P K.w) (k + 1) T.a23 T.d23 ["tree"] (spF K (cvK K.fr) 1 (fs (k + 1) 23)) := by
  rw [e23]
  refine fn_of' ["tree", "pieces", "sorts", "place", "piece"] rfl rfl T.F23 sc23 fun cdv A outer s H E hr tk po => ?_
  have nd := sc23.nd
  have hu := hr.units
  have hu2 : _ + 199 < cLine := Nat.lt_of_le_of_lt (Nat.add_le_add_left (by decide : 199 ≤ 200) _) (Nat.lt_of_le_of_lt (Nat.add_le_add_right (Nat.le_add_right _ _) _) hr.un)
  have hu5 : _ + 65 < cLine := Nat.lt_of_le_of_lt (Nat.add_le_add_left (by decide : 65 ≤ 200) _) (Nat.lt_of_le_of_lt (Nat.add_le_add_right (Nat.le_add_right _ _) _) hr.un)
  unfold m_law_amiss m_law_amiss_ce3 m_law_amiss_ce2 m_law_amiss_ct1
  exact ⟨_, (sss_cons (ss_set (i := 1) nd (se_call L.h22 hr T.g22 T.F22.kp T.b22 tk (sa_cons (se_mv 0) (sa_cons (se_tup sa_nil) sa_nil)) none)) (sss_cons (ss_setLc (i := 2) (own := [(("place" : Str), 3), (("piece" : Str), 4)]) rfl nd (blkOk_by (N := ["tree", "pieces", "sorts", "place", "piece"]) (sc := defScope s23) (by decide +kernel)) (si_sq (se_mv 1)) (fun _ _ _ _ _ => (sgw_tup rfl (sgws_cons (sgw_name nd) (sgws_cons (sgw_name nd) sgws_nil)))) (fun _ _ _ _ _ => sp_nil) (fun _ _ _ _ _ => (se_ixA (by exact hu5) (se_vb 4) se_int)) (sw_true rfl rfl rfl (by decide +kernel))) (sss_cons (ss_if (st_cmp ol_neB (op_neB (by exact hu2)) (se_ixA (by exact hu5) (se_vb 2) se_int) se_str) (sss_one (ss_end (ss_ret se_str))) sss_nil) (sss_cons (ss_if (st_cmp ol_cmp op_gt (se_count (by exact hu5) (se_vb 2) se_str) se_int) (sss_one (ss_end (ss_ret se_str))) sss_nil) (sss_cons (ss_if (st_cmp ol_notInB (op_notInB (by exact hu5)) se_str (se_vb 2)) (sss_one (ss_end (ss_ret se_str))) sss_nil) (sss_cons (ss_if (sw_or (st_cmp ol_cmp op_gt (se_cb cl_len call_len T.m_len (sa_cons (se_vb 1) sa_nil)) se_int) (sw_one (st_cmp ol_cmp op_gt (se_cb cl_len call_len T.m_len (sa_cons (se_comp (own := [(("place" : Str), 3), (("piece" : Str), 4)]) rfl nd (blkOk_by (N := ["tree", "pieces", "sorts", "place", "piece"]) (sc := defScope s23) (by decide +kernel)) (si_sq (se_mv 1)) (fun _ _ _ _ _ => (sgw_tup rfl (sgws_cons (sgw_name nd) (sgws_cons (sgw_name nd) sgws_nil)))) (fun _ _ _ _ _ => (sp_one (st_cmp ol_cmp op_gt (se_cb cl_len call_len T.m_len (sa_cons (se_vb 3) sa_nil)) se_int))) (fun _ _ _ _ _ => (se_mv 3))) sa_nil)) se_int))).st (sss_one (ss_end (ss_ret se_str))) sss_nil) (sss_one (ss_end (ss_ret se_str)))))))))⟩
/-- _law_is_key -/
theorem e24 (k : Nat) : fs (k + 1) 24 = fnF 2 1 (m_law_is_key) := rfl
theorem w24 {T : Top K.fr mg} {k : Nat} (L : Lv P K mg base T k) : FnOk P K.w K.fr mg base (L2.CX P K.w) (k + 1) T.a24 T.d24 ["text"] (spF K (cvK K.fr) 1 (fs (k + 1) 24)) := by
  rw [e24]
  refine fn_of' ["text", "one"] rfl rfl T.F24 sc24 fun cdv A outer s H E hr tk po => ?_
  have nd := sc24.nd
  have hu := hr.units
  have hu2 : _ + 199 < cLine := Nat.lt_of_le_of_lt (Nat.add_le_add_left (by decide : 199 ≤ 200) _) (Nat.lt_of_le_of_lt (Nat.add_le_add_right (Nat.le_add_right _ _) _) hr.un)
  have hu5 : _ + 65 < cLine := Nat.lt_of_le_of_lt (Nat.add_le_add_left (by decide : 65 ≤ 200) _) (Nat.lt_of_le_of_lt (Nat.add_le_add_right (Nat.le_add_right _ _) _) hr.un)
  unfold m_law_is_key m_law_is_key_ce2 m_law_is_key_ct1
  exact ⟨_, (sss_cons (ss_if (sw_or (st_cmp ol_eqB (op_eqB (by exact hu2)) (se_cb cl_len call_len T.m_len (sa_cons (se_vb 0) sa_nil)) se_int) (sw_or (st_cmp ol_cmp op_gt (se_cb cl_len call_len T.m_len (sa_cons (se_vb 0) sa_nil)) se_int) (sw_one (st_cmp ol_inB (op_inB (by exact hu5)) (se_ixA (by exact hu5) (se_vb 0) se_int) se_str)))).st (sss_one (ss_end (ss_ret se_bl))) sss_nil) (sss_one (ss_end (ss_ret (se_cmp ol_eqB (op_eqB (by exact hu2)) (se_cb cl_len call_len T.m_len (sa_cons (se_comp (own := [(("one" : Str), 1)]) rfl nd (blkOk_by (N := ["text", "one"]) (sc := defScope s24) (by decide +kernel)) (si_sq (se_mv 0)) (fun _ _ _ _ _ => (sgw_name nd)) (fun _ _ _ _ _ => (sp_one (st_cmp ol_notInB (op_notInB (by exact hu5)) (se_vb 1) se_str))) (fun _ _ _ _ _ => (se_mv 1))) sa_nil)) se_int)))))⟩
/-- _law_wide -/
theorem e25 (k : Nat) : fs (k + 1) 25 = fnF 4 1 (m_law_wide_2) := rfl
theorem w25 {T : Top K.fr mg} {k : Nat} (L : Lv P K mg base T k) : FnOk P K.w K.fr mg base (L2.CX P K.w) (k + 1) T.a25 T.d25 ["many"] (spF K (cvK K.fr) 1 (fs (k + 1) 25)) := by
  rw [e25]
  refine fn_of' ["many", "kids", "left", "few"] rfl rfl T.F25 sc25 fun cdv A outer s H E hr tk po => ?_
  have nd := sc25.nd
  have hu := hr.units
  have hu2 : _ + 199 < cLine := Nat.lt_of_le_of_lt (Nat.add_le_add_left (by decide : 199 ≤ 200) _) (Nat.lt_of_le_of_lt (Nat.add_le_add_right (Nat.le_add_right _ _) _) hr.un)
  have hu5 : _ + 65 < cLine := Nat.lt_of_le_of_lt (Nat.add_le_add_left (by decide : 65 ≤ 200) _) (Nat.lt_of_le_of_lt (Nat.add_le_add_right (Nat.le_add_right _ _) _) hr.un)
  unfold m_law_wide_2 m_law_wide_2_b2 m_law_wide_2_t1
  exact ⟨_, (sss_cons (ss_set (i := 1) nd (se_tup (sa_cons (se_tup (sa_cons se_str (sa_cons se_str sa_nil))) sa_nil))) (sss_cons (ss_set (i := 2) nd (se_bin ol_sub op_sub (se_vb 0) se_int)) (sss_cons (ss_while wFuel po (st_cmp ol_cmp op_gt (se_vb 2) se_int) (sss_kill (vs := [3]) (sss_cons (ss_set (i := 3) nd (se_cb cl_min2 (call_min2 rfl) T.m_min (sa_cons se_int (sa_cons (se_bin ol_sub op_sub (se_vb 2) se_int) sa_nil)))) (sss_cons (ss_set (i := 1) nd (se_bin ol_add op_addA (se_vb 1) (se_tup (sa_cons (se_tup (sa_cons se_str (sa_cons se_str (sa_cons se_non (sa_cons (se_bin ol_mulT op_mulT (se_tup (sa_cons (se_tup (sa_cons se_str sa_nil)) sa_nil)) (se_vb 3)) sa_nil))))) sa_nil)))) (sss_one (ss_set (i := 2) nd (se_bin ol_sub op_sub (se_bin ol_sub op_sub (se_vb 2) se_int) (se_vb 3)))))))) (sss_one (ss_end (ss_ret (se_tup (sa_cons se_str (sa_cons se_str (sa_cons se_non (sa_cons (se_bin ol_add op_addA (se_vb 1) (se_bin ol_mulT op_mulT (se_tup (sa_cons (se_tup (sa_cons se_str sa_nil)) sa_nil)) (se_vb 2))) sa_nil)))))))))))⟩
/-- _law_deep -/
theorem e26 (k : Nat) : fs (k + 1) 26 = fnF 3 1 (m_law_deep) := rfl
theorem w26 {T : Top K.fr mg} {k : Nat} (L : Lv P K mg base T k) : FnOk P K.w K.fr mg base (L2.CX P K.w) (k + 1) T.a26 T.d26 ["many"] (spF K (cvK K.fr) 1 (fs (k + 1) 26)) := by
  rw [e26]
  refine fn_of' ["many", "tree", "k"] rfl rfl T.F26 sc26 fun cdv A outer s H E hr tk po => ?_
  have nd := sc26.nd
  have hu := hr.units
  have hu2 : _ + 199 < cLine := Nat.lt_of_le_of_lt (Nat.add_le_add_left (by decide : 199 ≤ 200) _) (Nat.lt_of_le_of_lt (Nat.add_le_add_right (Nat.le_add_right _ _) _) hr.un)
  have hu5 : _ + 65 < cLine := Nat.lt_of_le_of_lt (Nat.add_le_add_left (by decide : 65 ≤ 200) _) (Nat.lt_of_le_of_lt (Nat.add_le_add_right (Nat.le_add_right _ _) _) hr.un)
  unfold m_law_deep m_law_deep_b1
  exact ⟨_, (sss_cons (ss_set (i := 1) nd (se_tup (sa_cons se_str (sa_cons se_str sa_nil)))) (sss_cons (ss_for po rfl (si_r1 (se_vb 0) T.m_range) (sg_name nd) (sss_kill (vs := [2]) (sss_one (ss_set (i := 1) nd (se_tup (sa_cons se_str (sa_cons se_str (sa_cons se_non (sa_cons (se_tup (sa_cons (se_mv 1) sa_nil)) sa_nil))))))))) (sss_one (ss_end (ss_ret (se_rv 1))))))⟩
/-- _law_bent -/
theorem e27 (k : Nat) : fs (k + 1) 27 = fnF 13 2 (m_law_bent_7 (fs k 26) (fs k 25)) := rfl
theorem w27 {T : Top K.fr mg} {k : Nat} (L : Lv P K mg base T k) : FnOk P K.w K.fr mg base (L2.CX P K.w) (k + 1) T.a27 T.d27 ["book", "cell"] (spF K (cvK K.fr) 2 (fs (k + 1) 27)) := by
  rw [e27]
  refine fn_of' ["book", "cell", "foot", "a", "odd", "some", "more", "spot", "top", "trees", "key", "tree", "one"] rfl rfl T.F27 sc27 fun cdv A outer s H E hr tk po => ?_
  have nd := sc27.nd
  have hu := hr.units
  have hu2 : _ + 199 < cLine := Nat.lt_of_le_of_lt (Nat.add_le_add_left (by decide : 199 ≤ 200) _) (Nat.lt_of_le_of_lt (Nat.add_le_add_right (Nat.le_add_right _ _) _) hr.un)
  have hu5 : _ + 65 < cLine := Nat.lt_of_le_of_lt (Nat.add_le_add_left (by decide : 65 ≤ 200) _) (Nat.lt_of_le_of_lt (Nat.add_le_add_right (Nat.le_add_right _ _) _) hr.un)
  unfold m_law_bent_7 m_law_bent_7_ce3 m_law_bent_7_ce2 m_law_bent_7_ce1
  exact ⟨_, (sss_cons (ss_unp (se_mv 0) (sg_tup rfl (sgs_cons (sg_name nd) (sgs_cons (sg_name nd) sgs_nil)))) (sss_cons (ss_unp (se_ixA (by exact hu5) (se_vb 9) (se_bin ol_mod op_mod (se_vb 1) (se_cb cl_len call_len T.m_len (sa_cons (se_vb 9) sa_nil)))) (sg_tup rfl (sgs_cons (sg_name nd) (sgs_cons (sg_name nd) sgs_nil)))) (sss_cons (ss_set (i := 2) nd (se_tup (sa_cons se_str (sa_cons se_str sa_nil)))) (sss_cons (ss_set (i := 3) nd (se_tup (sa_cons se_str (sa_cons se_str sa_nil)))) (sss_cons (ss_set (i := 4) nd (se_lst (sa_cons (se_tup (sa_cons se_str (sa_cons se_str (sa_cons se_non (sa_cons (se_tup (sa_cons (se_mv 2) (sa_cons (se_mv 3) (sa_cons (se_mv 2) sa_nil)))) sa_nil))))) (sa_cons (se_tup (sa_cons se_str (sa_cons se_str (sa_cons se_non (sa_cons (se_tup (sa_cons (se_tup (sa_cons se_str sa_nil)) (sa_cons (se_mv 2) sa_nil))) sa_nil))))) (sa_cons (se_mv 3) (sa_cons (se_mv 2) (sa_cons se_non (sa_cons (se_call L.h25 hr T.g25 T.F25.kp T.b25 tk (sa_cons se_int sa_nil) none) sa_nil)))))))) (sss_cons (ss_set (i := 4) nd (se_bin ol_add op_addA (se_vb 4) (se_lst (sa_cons (se_call L.h25 hr T.g25 T.F25.kp T.b25 tk (sa_cons se_int sa_nil) none) (sa_cons (se_call L.h26 hr T.g26 T.F26.kp T.b26 tk (sa_cons se_int sa_nil) none) (sa_cons (se_call L.h26 hr T.g26 T.F26.kp T.b26 tk (sa_cons se_int sa_nil) none) (sa_cons (se_tup (sa_cons se_str (sa_cons se_str (sa_cons se_non (sa_cons (se_tup (sa_cons se_str sa_nil)) sa_nil))))) (sa_cons (se_tup (sa_cons se_str (sa_cons se_str (sa_cons se_int (sa_cons (se_tup (sa_cons (se_mv 3) sa_nil)) sa_nil))))) sa_nil)))))))) (sss_cons (ss_set (i := 4) nd (se_bin ol_add op_addA (se_vb 4) (se_lst (sa_cons (se_tup (sa_cons se_str (sa_cons se_str (sa_cons se_non (sa_cons (se_tup (sa_cons (se_mv 3) sa_nil)) sa_nil))))) (sa_cons (se_tup (sa_cons se_str (sa_cons se_str (sa_cons se_non (sa_cons (se_tup (sa_cons (se_tup (sa_cons se_str (sa_cons se_str sa_nil))) (sa_cons (se_mv 3) sa_nil))) sa_nil))))) sa_nil))))) (sss_cons (ss_set (i := 4) nd (se_bin ol_add op_addA (se_vb 4) (se_lst (sa_cons (se_tup (sa_cons se_str (sa_cons se_str (sa_cons se_non (sa_cons (se_tup (sa_cons (se_mv 2) (sa_cons (se_mv 3) (sa_cons (se_tup (sa_cons se_str (sa_cons se_str sa_nil))) sa_nil)))) sa_nil))))) (sa_cons (se_tup (sa_cons se_str (sa_cons se_str (sa_cons se_non (sa_cons (se_tup (sa_cons (se_tup (sa_cons se_str (sa_cons se_str sa_nil))) (sa_cons (se_mv 3) sa_nil))) sa_nil))))) sa_nil))))) (sss_cons (ss_set (i := 5) nd (se_lst (sa_cons (se_lst (sa_cons (se_mv 8) (sa_cons (se_mv 9) sa_nil))) (sa_cons (se_tup (sa_cons (se_mv 8) (sa_cons (se_ct cl_list call_list_of T.m_list (sa_cons (se_vb 9) sa_nil)) sa_nil))) (sa_cons (se_tup (sa_cons (se_mv 8) (sa_cons (se_tup sa_nil) sa_nil))) (sa_cons (se_tup (sa_cons (se_mv 8) sa_nil)) (sa_cons (se_tup (sa_cons (se_mv 8) (sa_cons (se_mv 9) (sa_cons (se_mv 9) sa_nil)))) (sa_cons (se_tup (sa_cons se_str (sa_cons (se_mv 9) sa_nil))) (sa_cons (se_tup (sa_cons se_non (sa_cons (se_mv 9) sa_nil))) (sa_cons se_non sa_nil)))))))))) (sss_cons (ss_app (i := 4) (se_tup (sa_cons se_str (sa_cons se_str (sa_cons se_non (sa_cons (se_tup (sa_cons (se_tup (sa_cons se_str (sa_cons se_str (sa_cons se_non (sa_cons (se_tup (sa_cons (se_mv 2) sa_nil)) sa_nil))))) (sa_cons (se_tup (sa_cons se_str (sa_cons se_str (sa_cons se_non (sa_cons (se_tup (sa_cons (se_mv 2) (sa_cons (se_mv 3) sa_nil))) sa_nil))))) sa_nil))) sa_nil)))))) (sss_cons (ss_set (i := 5) nd (se_bin ol_add op_addA (se_vb 5) (se_lst (sa_cons (se_tup (sa_cons (se_bin ol_mulA op_mulA se_str se_int) (sa_cons (se_mv 9) sa_nil))) (sa_cons (se_tup (sa_cons (se_bin ol_mulA op_mulA se_str se_int) (sa_cons (se_mv 9) sa_nil))) (sa_cons (se_tup (sa_cons (se_mv 8) (sa_cons (se_tup (sa_cons (se_tup sa_nil) sa_nil)) sa_nil))) sa_nil)))))) (sss_cons (ss_set (i := 6) nd (se_lst (sa_cons (se_tup (sa_cons (se_mv 10) (sa_cons (se_mv 11) sa_nil))) (sa_cons (se_lst (sa_cons se_str (sa_cons (se_mv 11) sa_nil))) (sa_cons (se_tup (sa_cons se_str (sa_cons (se_mv 11) (sa_cons se_int sa_nil)))) (sa_cons (se_tup sa_nil) sa_nil)))))) (sss_cons (ss_set (i := 6) nd (se_bin ol_add op_addA (se_vb 6) (se_comp (own := [(("one" : Str), 12)]) rfl nd (blkOk_by (N := ["book", "cell", "foot", "a", "odd", "some", "more", "spot", "top", "trees", "key", "tree", "one"]) (sc := defScope s27) (by decide +kernel)) (si_sq (se_lst (sa_cons se_str (sa_cons se_str (sa_cons se_str (sa_cons se_str (sa_cons (se_bin ol_mulA op_mulA se_str se_int) (sa_cons (se_bin ol_mulA op_mulA se_str se_int) (sa_cons se_int (sa_cons se_non (sa_cons (se_lst (sa_cons se_str sa_nil)) sa_nil))))))))))) (fun _ _ _ _ _ => (sgw_name nd)) (fun _ _ _ _ _ => sp_nil) (fun _ _ _ _ _ => (se_tup (sa_cons (se_mv 12) (sa_cons (se_mv 11) sa_nil))))))) (sss_cons (ss_set (i := 6) nd (se_bin ol_add op_addA (se_vb 6) (se_comp (own := [(("one" : Str), 12)]) rfl nd (blkOk_by (N := ["book", "cell", "foot", "a", "odd", "some", "more", "spot", "top", "trees", "key", "tree", "one"]) (sc := defScope s27) (by decide +kernel)) (si_sq (se_mv 4)) (fun _ _ _ _ _ => (sgw_name nd)) (fun _ _ _ _ _ => sp_nil) (fun _ _ _ _ _ => (se_tup (sa_cons se_str (sa_cons (se_mv 12) sa_nil))))))) (sss_cons (ss_set (i := 7) nd (se_bin ol_mod op_mod (se_bin ol_div op_fdiv (se_bin ol_mod op_mod (se_bin ol_pow op_pow (se_bin ol_add op_addA (se_bin ol_mod op_mod (se_vb 1) se_int) se_int) se_int) se_int) se_int) (se_bin ol_add op_addA (se_cb cl_len call_len T.m_len (sa_cons (se_vb 9) sa_nil)) se_int))) (sss_cons (ss_set (i := 5) nd (se_bin ol_add op_addA (se_vb 5) (se_comp (own := [(("one" : Str), 12)]) rfl nd (blkOk_by (N := ["book", "cell", "foot", "a", "odd", "some", "more", "spot", "top", "trees", "key", "tree", "one"]) (sc := defScope s27) (by decide +kernel)) (si_sq (se_mv 6)) (fun _ _ _ _ _ => (sgw_name nd)) (fun _ _ _ _ _ => sp_nil) (fun _ _ _ _ _ => (se_tup (sa_cons (se_mv 8) (sa_cons (se_bin ol_add op_addA (se_bin ol_add op_addA (se_slice (se_vb 9) .non (.some (se_vb 7))) (se_tup (sa_cons (se_mv 12) sa_nil))) (se_slice (se_vb 9) (.some (se_vb 7)) .non)) sa_nil))))))) (sss_one (ss_end (ss_ret (se_ixA (by exact hu5) (se_vb 5) (se_bin ol_mod op_mod (se_bin ol_div op_fdiv (se_vb 1) se_int) (se_cb cl_len call_len T.m_len (sa_cons (se_vb 5) sa_nil)))))))))))))))))))))))⟩
/-- _law_is_book -/
theorem e28 (k : Nat) : fs (k + 1) 28 = fnF 3 1 (m_law_is_book (fs k 23) (fs k 21) (fs k 24) (fs k 19)) := rfl
theorem w28 {T : Top K.fr mg} {k : Nat} (L : Lv P K mg base T k) : FnOk P K.w K.fr mg base (L2.CX P K.w) (k + 1) T.a28 T.d28 ["thing"] (spF K (cvK K.fr) 1 (fs (k + 1) 28)) := by
  rw [e28]
  refine fn_of' ["thing", "keys", "one"] rfl rfl T.F28 sc28 fun cdv A outer s H E hr tk po => ?_
  have nd := sc28.nd
  have hu := hr.units
  have hu2 : _ + 199 < cLine := Nat.lt_of_le_of_lt (Nat.add_le_add_left (by decide : 199 ≤ 200) _) (Nat.lt_of_le_of_lt (Nat.add_le_add_right (Nat.le_add_right _ _) _) hr.un)
  have hu5 : _ + 65 < cLine := Nat.lt_of_le_of_lt (Nat.add_le_add_left (by decide : 65 ≤ 200) _) (Nat.lt_of_le_of_lt (Nat.add_le_add_right (Nat.le_add_right _ _) _) hr.un)
  unfold m_law_is_book m_law_is_book_b1
  exact ⟨_, (sss_cons (ss_if (sw_or (st_not (st_val (se_isi kit_tup T.m_isinstance T.m_tuple (se_vb 0)))) (sw_or (st_cmp ol_neB (op_neB (by exact hu2)) (se_cb cl_len call_len T.m_len (sa_cons (se_vb 0) sa_nil)) se_int) (sw_or (st_not (st_val (se_isi kit_str T.m_isinstance T.m_str (se_ixA (by exact hu5) (se_vb 0) se_int)))) (sw_one (st_not (st_val (se_call L.h19 hr T.g19 T.F19.kp T.b19 tk (sa_cons (se_ixA (by exact hu5) (se_vb 0) se_int) sa_nil) none))))))).st (sss_one (ss_end (ss_ret se_bl))) sss_nil) (sss_cons (ss_if (sw_or (st_not (st_val (se_isi kit_tup T.m_isinstance T.m_tuple (se_ixA (by exact hu5) (se_vb 0) se_int)))) (sw_or (st_cmp ol_eqB (op_eqB (by exact hu2)) (se_cb cl_len call_len T.m_len (sa_cons (se_ixA (by exact hu5) (se_vb 0) se_int) sa_nil)) se_int) (sw_one (st_cmp ol_cmp op_gt (se_cb cl_len call_len T.m_len (sa_cons (se_ixA (by exact hu5) (se_vb 0) se_int) sa_nil)) se_int)))).st (sss_one (ss_end (ss_ret se_bl))) sss_nil) (sss_cons (ss_set (i := 1) nd (se_lst sa_nil)) (sss_cons (ss_for po rfl (si_sq (se_ixA (by exact hu5) (se_vb 0) se_int)) (sg_name nd) (sss_kill (vs := [2]) (sss_cons (ss_if (sw_or (st_not (st_val (se_isi kit_tup T.m_isinstance T.m_tuple (se_vb 2)))) (sw_or (st_cmp ol_neB (op_neB (by exact hu2)) (se_cb cl_len call_len T.m_len (sa_cons (se_vb 2) sa_nil)) se_int) (sw_or (st_not (st_val (se_isi kit_str T.m_isinstance T.m_str (se_ixA (by exact hu5) (se_vb 2) se_int)))) (sw_one (st_not (st_val (se_call L.h24 hr T.g24 T.F24.kp T.b24 tk (sa_cons (se_ixA (by exact hu5) (se_vb 2) se_int) sa_nil) none))))))).st (sss_one (ss_end (ss_ret se_bl))) sss_nil) (sss_cons (ss_if (sw_or (st_cmp ol_inB (op_inB (by exact hu5)) (se_ixA (by exact hu5) (se_vb 2) se_int) (se_vb 1)) (sw_or (st_not (st_val (se_call L.h21 hr T.g21 T.F21.kp T.b21 tk (sa_cons (se_ixA (by exact hu5) (se_vb 2) se_int) sa_nil) none))) (sw_one (st_cmp ol_neB (op_neB (by exact hu2)) (se_call L.h23 hr T.g23 T.F23.kp T.b23 tk (sa_cons (se_ixA (by exact hu5) (se_vb 2) se_int) sa_nil) none) se_str)))).st (sss_one (ss_end (ss_ret se_bl))) sss_nil) (sss_one (ss_app (i := 1) (se_ixA (by exact hu5) (se_vb 2) se_int))))))) (sss_one (ss_end (ss_ret se_bl)))))))⟩
/-- law -/
theorem e29 (k : Nat) : fs (k + 1) 29 = fnF 13 1 (m_law_k06 (fs k 13) (fs k 28) (fs k 27) (fs k 18) (fs k 14)) := rfl
theorem w29 {T : Top K.fr mg} {k : Nat} (L : Lv P K mg base T k) : FnG P K.w K.fr mg base (k + 1) T.a29 T.d29 ["script"] (spF K (cvK K.fr) 1 (fs (k + 1) 29)) := by
  rw [e29]
  refine fnG_of ["script", "state", "cell", "book", "some", "foot", "count", "tree", "great", "told", "thing", "k", "one"] rfl rfl T.F29 sc29 fun cdv A outer s H E gd hr tk po => ?_
  have nd := sc29.nd
  have hu := hr.units
  have hu2 : _ + 199 < cLine := Nat.lt_of_le_of_lt (Nat.add_le_add_left (by decide : 199 ≤ 200) _) (Nat.lt_of_le_of_lt (Nat.add_le_add_right (Nat.le_add_right _ _) _) hr.un)
  have hu5 : _ + 65 < cLine := Nat.lt_of_le_of_lt (Nat.add_le_add_left (by decide : 65 ≤ 200) _) (Nat.lt_of_le_of_lt (Nat.add_le_add_right (Nat.le_add_right _ _) _) hr.un)
  unfold m_law_k06 m_law_k06_b7 m_law_k06_b6 m_law_k06_ce5 m_law_k06_b4 m_law_k06_ce3 m_law_k06_ct2 m_law_k06_ce1
  exact ⟨_, (sss_cons (ss_set (i := 1) nd (se_dct (sd_cons se_str (se_mv 0) (sd_cons se_str se_int sd_nil)))) (sss_cons (ss_set (i := 2) nd (se_call L.h14 hr T.g14 T.F14.kp T.b14 tk (sa_cons (se_vb 1) sa_nil) (some 0))) (sss_cons (ss_set (i := 3) nd (se_call L.h18 hr T.g18 T.F18.kp T.b18 tk (sa_cons (se_vb 1) (sa_cons (se_bin ol_mod op_mod (se_vb 2) se_int) (sa_cons se_int sa_nil))) (some 0))) (sss_cons (ss_if (sw_or (st_cmp ol_not op_notA (se_call L.h13 hr T.g13 T.F13.kp T.b13 tk (sa_cons (se_mv 3) sa_nil) none) se_bl) (sw_one (st_not (st_val (se_call L.h28 hr T.g28 T.F28.kp T.b28 tk (sa_cons (se_mv 3) sa_nil) none))))).st (sss_one (ss_end (ss_ret se_bl))) sss_nil) (sss_cons (ss_for po rfl (si_sq (se_if (st_cmp ol_cmp op_gt (se_cb cl_len call_len T.m_len (sa_cons (se_vb 0) sa_nil)) se_int) (se_slice (se_vb 0) .non (.some se_int)) (se_lst (sa_cons se_int sa_nil)))) (sg_name nd) (sss_kill (vs := [2, 9, 10]) (sss_cons (ss_set (i := 10) nd (se_call L.h27 hr T.g27 T.F27.kp T.b27 tk (sa_cons (se_mv 3) (sa_cons (se_mv 2) sa_nil)) none)) (sss_cons (ss_set (i := 9) nd (se_call L.h13 hr T.g13 T.F13.kp T.b13 tk (sa_cons (se_mv 10) sa_nil) none)) (sss_one (ss_if (sw_or (st_not (st_val (se_isi kit_bool T.m_isinstance T.m_bool (se_vb 9)))) (sw_one (st_cmp ol_neB (op_neB (by exact hu2)) (se_vb 9) (se_call L.h28 hr T.g28 T.F28.kp T.b28 tk (sa_cons (se_mv 10) sa_nil) none)))).st (sss_one (ss_end (ss_ret se_bl))) sss_nil)))))) (sss_cons (ss_for po rfl (si_sq (se_comp (own := [(("k" : Str), 11)]) rfl nd (blkOk_by (N := ["script", "state", "cell", "book", "some", "foot", "count", "tree", "great", "told", "thing", "k", "one"]) (sc := defScope s29) (by decide +kernel)) (si_r1 (se_cb cl_len call_len T.m_len (sa_cons (se_ixA (by exact hu5) (se_vb 3) se_int) sa_nil)) T.m_range) (fun _ _ _ _ _ => (sgw_name nd)) (fun _ _ _ _ _ => sp_nil) (fun _ _ _ _ _ => (se_slice (se_ixA (by exact hu5) (se_vb 3) se_int) (.some (se_vb 11)) (.some (se_bin ol_add op_addA (se_vb 11) se_int)))))) (sg_name nd) (sss_kill (vs := [4]) (sss_one (ss_if (st_cmp ol_not op_notA (se_call L.h13 hr T.g13 T.F13.kp T.b13 tk (sa_cons (se_tup (sa_cons (se_ixA (by exact hu5) (se_vb 3) se_int) (sa_cons (se_mv 4) sa_nil))) sa_nil) none) se_bl) (sss_one (ss_end (ss_ret se_bl))) sss_nil)))) (sss_cons (ss_for po rfl (si_sq (se_lst (sa_cons se_bl (sa_cons se_bl sa_nil)))) (sg_name nd) (sss_kill (vs := [4, 5]) (sss_cons (ss_set (i := 4) nd (se_ct cl_tuple call_tupX T.m_tuple (sa_cons (se_comp (own := [(("one" : Str), 12)]) rfl nd (blkOk_by (N := ["script", "state", "cell", "book", "some", "foot", "count", "tree", "great", "told", "thing", "k", "one"]) (sc := defScope s29) (by decide +kernel)) (si_sq (se_ixA (by exact hu5) (se_vb 3) se_int)) (fun _ _ _ _ _ => (sgw_name nd)) (fun _ _ _ _ _ => (sp_one (st_cmp ol_eqB (op_eqB (by exact hu2)) (se_cmp (ol_inT false) op_inT se_str (se_cb cl_repr (cr_repr (by exact gd) (by exact hu2)) T.m_repr (sa_cons (se_ixA (by exact hu5) (se_vb 12) se_int) sa_nil))) (se_vb 5)))) (fun _ _ _ _ _ => (se_mv 12))) sa_nil))) (sss_one (ss_if (st_cmp ol_neB (op_neB (by exact hu2)) (se_call L.h13 hr T.g13 T.F13.kp T.b13 tk (sa_cons (se_tup (sa_cons (se_ixA (by exact hu5) (se_vb 3) se_int) (sa_cons (se_mv 4) sa_nil))) sa_nil) none) (se_cmp ol_cmp op_gt (se_cb cl_len call_len T.m_len (sa_cons (se_vb 4) sa_nil)) se_int)) (sss_one (ss_end (ss_ret se_bl))) sss_nil))))) (sss_cons (ss_set (i := 6) nd (se_bin ol_add op_addA se_int (se_if (st_cmp ol_cmp op_gt (se_cb cl_len call_len T.m_len (sa_cons (se_vb 0) sa_nil)) se_int) (se_bin ol_mod op_mod (se_ixA (by exact hu5) (se_vb 0) se_int) se_int) se_int))) (sss_cons (ss_set (i := 7) nd (se_tup (sa_cons se_str (sa_cons se_str (sa_cons se_non (sa_cons (se_tup (sa_cons (se_tup (sa_cons se_str (sa_cons se_str sa_nil))) sa_nil)) sa_nil)))))) (sss_cons (ss_set (i := 8) nd (se_tup (sa_cons se_str (sa_cons (se_ct cl_tuple call_tupX T.m_tuple (sa_cons (se_comp (own := [(("k" : Str), 11)]) rfl nd (blkOk_by (N := ["script", "state", "cell", "book", "some", "foot", "count", "tree", "great", "told", "thing", "k", "one"]) (sc := defScope s29) (by decide +kernel)) (si_r1 (se_vb 6) T.m_range) (fun _ _ _ _ _ => (sgw_name nd)) (fun _ _ _ _ _ => sp_nil) (fun _ _ _ _ _ => (se_tup (sa_cons (se_bin ol_add op_addA se_str (se_ct cl_str call_str_int T.m_str (sa_cons (se_vb 11) sa_nil))) (sa_cons (se_mv 7) sa_nil))))) sa_nil)) sa_nil)))) (sss_cons (ss_set (i := 9) nd (se_call L.h13 hr T.g13 T.F13.kp T.b13 tk (sa_cons (se_mv 8) sa_nil) none)) (sss_one (ss_end (ss_ret (se_and (se_isi kit_bool T.m_isinstance T.m_bool (se_vb 9)) (se_one (se_cmp ol_eqB (op_eqB (by exact hu2)) (se_vb 9) (se_cmp ol_eqB (op_eqB (by exact hu2)) (se_vb 6) se_int))))))))))))))))))⟩
theorem xw_NoPlace {T : Top K.fr mg} : ∀ k, IniOk P K.w K.fr mg base k T.xI_NoPlace T.xd_NoPlace ["place"] (fs k 30)
  | 0 => .inl rfl
  | 1 => .inl rfl
  | k + 2 => .inr ⟨k + 1, rfl, fn_init1 T.xF_NoPlace sci_NoPlace fun cdv A outer s H E => pss_cons (ps_expr (pe_ginit T.gi T.xg_GraftError (pa_cons (pe_var (i := 0) rfl (.inl rfl)) (pa_cons pe_str pa_nil)))) (pss_one (ps_ost (pe_var (i := 0) rfl (.inl rfl)) (pe_var (i := 1) rfl (.inl rfl))))⟩
theorem lv (T : Top K.fr mg) : ∀ k, Lv P K mg base T k
  | 0 => ⟨fn_zero rfl, fn_zero rfl, fn_zero rfl, fn_zero rfl, fn_zero rfl, fn_zero rfl, fn_zero rfl, fn_zero rfl, fn_zero rfl, fn_zero rfl, fn_zero rfl, fn_zero rfl, fn_zero rfl, fn_zero rfl, fn_zero rfl, fn_zero rfl, fn_zero rfl, fn_zero rfl, fn_zero rfl, fn_zero rfl, fn_zero rfl, fn_zero rfl, fn_zero rfl, fn_zero rfl, fn_zero rfl, fn_zero rfl, fn_zero rfl, fn_zero rfl, fn_zero rfl, fnG_zero rfl, xw_NoPlace 0⟩
  | k + 1 => have L := lv T k; ⟨w0 L, w1 L, w2 L, w3 L, w4 L, w5 L, w6 L, w7 L, w8 L, w9 L, w10 L, w11 L, w12 L, w13 L, w14 L, w15 L, w16 L, w17 L, w18 L, w19 L, w20 L, w21 L, w22 L, w23 L, w24 L, w25 L, w26 L, w27 L, w28 L, w29 L, xw_NoPlace (k + 1)⟩
end
end Wk06
namespace Wk06
open PySem L2 GS GM
/-! ### the end -/
theorem top_mk {K : PySem.W.Frag} {h : Heap} {mg : Str → Option Value} {fa f0 f1 f2 f3 f4 f5 f6 f7 f8 f9 f10 f11 f12 f13 f14 f15 f16 f17 f18 f19 f20 f21 f22 f23 f24 f25 f26 f27 f28 f29 : Addr} (X : K.In h) (G : h.Ns mainGlobals mg) (hfa : mg "law" = some (.ref fa))
    {od0 an0 od1 an1 od2 an2 od3 an3 od4 an4 od5 an5 od6 an6 od7 an7 od8 an8 od9 an9 od10 an10 od11 an11 od12 an12 od13 an13 od14 an14 od15 an15 od16 an16 od17 an17 od18 an18 od19 an19 od20 an20 od21 an21 od22 an22 od23 an23 od24 an24 od25 an25 od26 an26 od27 an27 od28 an28 od29 an29 : Option Addr} {sl0 sl1 sl2 sl3 sl4 sl5 sl6 sl7 sl8 sl9 sl10 sl11 sl12 sl13 sl14 sl15 sl16 sl17 sl18 sl19 sl20 sl21 sl22 sl23 sl24 sl25 sl26 sl27 sl28 sl29 : Array (Option Value)} {oc0 kV0 dc0 pm0 cd0 ct0 oc1 kV1 dc1 pm1 cd1 ct1 oc2 kV2 dc2 pm2 cd2 ct2 oc3 kV3 dc3 pm3 cd3 ct3 oc4 kV4 dc4 pm4 cd4 ct4 oc5 kV5 dc5 pm5 cd5 ct5 oc6 kV6 dc6 pm6 cd6 ct6 oc7 kV7 dc7 pm7 cd7 ct7 oc8 kV8 dc8 pm8 cd8 ct8 oc9 kV9 dc9 pm9 cd9 ct9 oc10 kV10 dc10 pm10 cd10 ct10 oc11 kV11 dc11 pm11 cd11 ct11 oc12 kV12 dc12 pm12 cd12 ct12 oc13 kV13 dc13 pm13 cd13 ct13 oc14 kV14 dc14 pm14 cd14 ct14 oc15 kV15 dc15 pm15 cd15 ct15 oc16 kV16 dc16 pm16 cd16 ct16 oc17 kV17 dc17 pm17 cd17 ct17 oc18 kV18 dc18 pm18 cd18 ct18 oc19 kV19 dc19 pm19 cd19 ct19 oc20 kV20 dc20 pm20 cd20 ct20 oc21 kV21 dc21 pm21 cd21 ct21 oc22 kV22 dc22 pm22 cd22 ct22 oc23 kV23 dc23 pm23 cd23 ct23 oc24 kV24 dc24 pm24 cd24 ct24 oc25 kV25 dc25 pm25 cd25 ct25 oc26 kV26 dc26 pm26 cd26 ct26 oc27 kV27 dc27 pm27 cd27 ct27 oc28 kV28 dc28 pm28 cd28 ct28 oc29 kV29 dc29 pm29 cd29 ct29 : Value} {tk_FIGURES_trees tk_GREAT tk_LONGEST_NAME tk_SMALL_trees tk_LONGEST_SIGN tk_MOST_KIDS tk_FIGURES_books tk_SMALL_books tk_LONGEST_KEY tk_MOST_WITHIN tk_MOST_PIECES tk_MOST_TREES : Tok}
    (a0 : PySem.W.nsIn K mainGlobals "is_name" = some (some (.ref f0))) (l0 : K.lookup f0 = some ⟨oc0, od0, .func (PySem.W.fnOf "is_name" "is_name" (defArgs s0) (defBody s0) (defScope s0) .none kV0 dc0 pm0 an0 cd0 ct0), sl0⟩) (c0 : PySem.W.codeIn K cd0 "is_name" = true) (k0 : PySem.W.keepIn K (.ref f0) = true)
    (a1 : PySem.W.nsIn K mainGlobals "is_sign" = some (some (.ref f1))) (l1 : K.lookup f1 = some ⟨oc1, od1, .func (PySem.W.fnOf "is_sign" "is_sign" (defArgs s1) (defBody s1) (defScope s1) .none kV1 dc1 pm1 an1 cd1 ct1), sl1⟩) (c1 : PySem.W.codeIn K cd1 "is_sign" = true) (k1 : PySem.W.keepIn K (.ref f1) = true)
    (a2 : PySem.W.nsIn K mainGlobals "are_takes" = some (some (.ref f2))) (l2 : K.lookup f2 = some ⟨oc2, od2, .func (PySem.W.fnOf "are_takes" "are_takes" (defArgs s2) (defBody s2) (defScope s2) .none kV2 dc2 pm2 an2 cd2 ct2), sl2⟩) (c2 : PySem.W.codeIn K cd2 "are_takes" = true) (k2 : PySem.W.keepIn K (.ref f2) = true)
    (a3 : PySem.W.nsIn K mainGlobals "is_knot" = some (some (.ref f3))) (l3 : K.lookup f3 = some ⟨oc3, od3, .func (PySem.W.fnOf "is_knot" "is_knot" (defArgs s3) (defBody s3) (defScope s3) .none kV3 dc3 pm3 an3 cd3 ct3), sl3⟩) (c3 : PySem.W.codeIn K cd3 "is_knot" = true) (k3 : PySem.W.keepIn K (.ref f3) = true)
    (a4 : PySem.W.nsIn K mainGlobals "is_tree" = some (some (.ref f4))) (l4 : K.lookup f4 = some ⟨oc4, od4, .func (PySem.W.fnOf "is_tree" "is_tree" (defArgs s4) (defBody s4) (defScope s4) .none kV4 dc4 pm4 an4 cd4 ct4), sl4⟩) (c4 : PySem.W.codeIn K cd4 "is_tree" = true) (k4 : PySem.W.keepIn K (.ref f4) = true)
    (a5 : PySem.W.nsIn K mainGlobals "kids_of" = some (some (.ref f5))) (l5 : K.lookup f5 = some ⟨oc5, od5, .func (PySem.W.fnOf "kids_of" "kids_of" (defArgs s5) (defBody s5) (defScope s5) .none kV5 dc5 pm5 an5 cd5 ct5), sl5⟩) (c5 : PySem.W.codeIn K cd5 "kids_of" = true) (k5 : PySem.W.keepIn K (.ref f5) = true)
    (a6 : PySem.W.nsIn K mainGlobals "places" = some (some (.ref f6))) (l6 : K.lookup f6 = some ⟨oc6, od6, .func (PySem.W.fnOf "places" "places" (defArgs s6) (defBody s6) (defScope s6) .none kV6 dc6 pm6 an6 cd6 ct6), sl6⟩) (c6 : PySem.W.codeIn K cd6 "places" = true) (k6 : PySem.W.keepIn K (.ref f6) = true)
    (a7 : PySem.W.nsIn K mainGlobals "piece_at" = some (some (.ref f7))) (l7 : K.lookup f7 = some ⟨oc7, od7, .func (PySem.W.fnOf "piece_at" "piece_at" (defArgs s7) (defBody s7) (defScope s7) .none kV7 dc7 pm7 an7 cd7 ct7), sl7⟩) (c7 : PySem.W.codeIn K cd7 "piece_at" = true) (k7 : PySem.W.keepIn K (.ref f7) = true)
    (a8 : PySem.W.nsIn K mainGlobals "signs_of" = some (some (.ref f8))) (l8 : K.lookup f8 = some ⟨oc8, od8, .func (PySem.W.fnOf "signs_of" "signs_of" (defArgs s8) (defBody s8) (defScope s8) .none kV8 dc8 pm8 an8 cd8 ct8), sl8⟩) (c8 : PySem.W.codeIn K cd8 "signs_of" = true) (k8 : PySem.W.keepIn K (.ref f8) = true)
    (a9 : PySem.W.nsIn K mainGlobals "is_key" = some (some (.ref f9))) (l9 : K.lookup f9 = some ⟨oc9, od9, .func (PySem.W.fnOf "is_key" "is_key" (defArgs s9) (defBody s9) (defScope s9) .none kV9 dc9 pm9 an9 cd9 ct9), sl9⟩) (c9 : PySem.W.codeIn K cd9 "is_key" = true) (k9 : PySem.W.keepIn K (.ref f9) = true)
    (a10 : PySem.W.nsIn K mainGlobals "feet_of" = some (some (.ref f10))) (l10 : K.lookup f10 = some ⟨oc10, od10, .func (PySem.W.fnOf "feet_of" "feet_of" (defArgs s10) (defBody s10) (defScope s10) .none kV10 dc10 pm10 an10 cd10 ct10), sl10⟩) (c10 : PySem.W.codeIn K cd10 "feet_of" = true) (k10 : PySem.W.keepIn K (.ref f10) = true)
    (a11 : PySem.W.nsIn K mainGlobals "amiss_in" = some (some (.ref f11))) (l11 : K.lookup f11 = some ⟨oc11, od11, .func (PySem.W.fnOf "amiss_in" "amiss_in" (defArgs s11) (defBody s11) (defScope s11) .none kV11 dc11 pm11 an11 cd11 ct11), sl11⟩) (c11 : PySem.W.codeIn K cd11 "amiss_in" = true) (k11 : PySem.W.keepIn K (.ref f11) = true)
    (a12 : PySem.W.nsIn K mainGlobals "is_entry" = some (some (.ref f12))) (l12 : K.lookup f12 = some ⟨oc12, od12, .func (PySem.W.fnOf "is_entry" "is_entry" (defArgs s12) (defBody s12) (defScope s12) .none kV12 dc12 pm12 an12 cd12 ct12), sl12⟩) (c12 : PySem.W.codeIn K cd12 "is_entry" = true) (k12 : PySem.W.keepIn K (.ref f12) = true)
    (a13 : PySem.W.nsIn K mainGlobals "is_book" = some (some (.ref f13))) (l13 : K.lookup f13 = some ⟨oc13, od13, .func (PySem.W.fnOf "is_book" "is_book" (defArgs s13) (defBody s13) (defScope s13) .none kV13 dc13 pm13 an13 cd13 ct13), sl13⟩) (c13 : PySem.W.codeIn K cd13 "is_book" = true) (k13 : PySem.W.keepIn K (.ref f13) = true)
    (a14 : PySem.W.nsIn K mainGlobals "_law_cell" = some (some (.ref f14))) (l14 : K.lookup f14 = some ⟨oc14, od14, .func (PySem.W.fnOf "_law_cell" "_law_cell" (defArgs s14) (defBody s14) (defScope s14) .none kV14 dc14 pm14 an14 cd14 ct14), sl14⟩) (c14 : PySem.W.codeIn K cd14 "_law_cell" = true) (k14 : PySem.W.keepIn K (.ref f14) = true)
    (a15 : PySem.W.nsIn K mainGlobals "_law_kid" = some (some (.ref f15))) (l15 : K.lookup f15 = some ⟨oc15, od15, .func (PySem.W.fnOf "_law_kid" "_law_kid" (defArgs s15) (defBody s15) (defScope s15) .none kV15 dc15 pm15 an15 cd15 ct15), sl15⟩) (c15 : PySem.W.codeIn K cd15 "_law_kid" = true) (k15 : PySem.W.keepIn K (.ref f15) = true)
    (a16 : PySem.W.nsIn K mainGlobals "_law_footed" = some (some (.ref f16))) (l16 : K.lookup f16 = some ⟨oc16, od16, .func (PySem.W.fnOf "_law_footed" "_law_footed" (defArgs s16) (defBody s16) (defScope s16) .none kV16 dc16 pm16 an16 cd16 ct16), sl16⟩) (c16 : PySem.W.codeIn K cd16 "_law_footed" = true) (k16 : PySem.W.keepIn K (.ref f16) = true)
    (a17 : PySem.W.nsIn K mainGlobals "_law_drawn" = some (some (.ref f17))) (l17 : K.lookup f17 = some ⟨oc17, od17, .func (PySem.W.fnOf "_law_drawn" "_law_drawn" (defArgs s17) (defBody s17) (defScope s17) .none kV17 dc17 pm17 an17 cd17 ct17), sl17⟩) (c17 : PySem.W.codeIn K cd17 "_law_drawn" = true) (k17 : PySem.W.keepIn K (.ref f17) = true)
    (a18 : PySem.W.nsIn K mainGlobals "_law_book" = some (some (.ref f18))) (l18 : K.lookup f18 = some ⟨oc18, od18, .func (PySem.W.fnOf "_law_book" "_law_book" (defArgs s18) (defBody s18) (defScope s18) .none kV18 dc18 pm18 an18 cd18 ct18), sl18⟩) (c18 : PySem.W.codeIn K cd18 "_law_book" = true) (k18 : PySem.W.keepIn K (.ref f18) = true)
    (a19 : PySem.W.nsIn K mainGlobals "_law_is_name" = some (some (.ref f19))) (l19 : K.lookup f19 = some ⟨oc19, od19, .func (PySem.W.fnOf "_law_is_name" "_law_is_name" (defArgs s19) (defBody s19) (defScope s19) .none kV19 dc19 pm19 an19 cd19 ct19), sl19⟩) (c19 : PySem.W.codeIn K cd19 "_law_is_name" = true) (k19 : PySem.W.keepIn K (.ref f19) = true)
    (a20 : PySem.W.nsIn K mainGlobals "_law_is_sign" = some (some (.ref f20))) (l20 : K.lookup f20 = some ⟨oc20, od20, .func (PySem.W.fnOf "_law_is_sign" "_law_is_sign" (defArgs s20) (defBody s20) (defScope s20) .none kV20 dc20 pm20 an20 cd20 ct20), sl20⟩) (c20 : PySem.W.codeIn K cd20 "_law_is_sign" = true) (k20 : PySem.W.keepIn K (.ref f20) = true)
    (a21 : PySem.W.nsIn K mainGlobals "_law_is_tree" = some (some (.ref f21))) (l21 : K.lookup f21 = some ⟨oc21, od21, .func (PySem.W.fnOf "_law_is_tree" "_law_is_tree" (defArgs s21) (defBody s21) (defScope s21) .none kV21 dc21 pm21 an21 cd21 ct21), sl21⟩) (c21 : PySem.W.codeIn K cd21 "_law_is_tree" = true) (k21 : PySem.W.keepIn K (.ref f21) = true)
    (a22 : PySem.W.nsIn K mainGlobals "_law_all" = some (some (.ref f22))) (l22 : K.lookup f22 = some ⟨oc22, od22, .func (PySem.W.fnOf "_law_all" "_law_all" (defArgs s22) (defBody s22) (defScope s22) .none kV22 dc22 pm22 an22 cd22 ct22), sl22⟩) (c22 : PySem.W.codeIn K cd22 "_law_all" = true) (k22 : PySem.W.keepIn K (.ref f22) = true)
    (a23 : PySem.W.nsIn K mainGlobals "_law_amiss" = some (some (.ref f23))) (l23 : K.lookup f23 = some ⟨oc23, od23, .func (PySem.W.fnOf "_law_amiss" "_law_amiss" (defArgs s23) (defBody s23) (defScope s23) .none kV23 dc23 pm23 an23 cd23 ct23), sl23⟩) (c23 : PySem.W.codeIn K cd23 "_law_amiss" = true) (k23 : PySem.W.keepIn K (.ref f23) = true)
    (a24 : PySem.W.nsIn K mainGlobals "_law_is_key" = some (some (.ref f24))) (l24 : K.lookup f24 = some ⟨oc24, od24, .func (PySem.W.fnOf "_law_is_key" "_law_is_key" (defArgs s24) (defBody s24) (defScope s24) .none kV24 dc24 pm24 an24 cd24 ct24), sl24⟩) (c24 : PySem.W.codeIn K cd24 "_law_is_key" = true) (k24 : PySem.W.keepIn K (.ref f24) = true)
    (a25 : PySem.W.nsIn K mainGlobals "_law_wide" = some (some (.ref f25))) (l25 : K.lookup f25 = some ⟨oc25, od25, .func (PySem.W.fnOf "_law_wide" "_law_wide" (defArgs s25) (defBody s25) (defScope s25) .none kV25 dc25 pm25 an25 cd25 ct25), sl25⟩) (c25 : PySem.W.codeIn K cd25 "_law_wide" = true) (k25 : PySem.W.keepIn K (.ref f25) = true)
    (a26 : PySem.W.nsIn K mainGlobals "_law_deep" = some (some (.ref f26))) (l26 : K.lookup f26 = some ⟨oc26, od26, .func (PySem.W.fnOf "_law_deep" "_law_deep" (defArgs s26) (defBody s26) (defScope s26) .none kV26 dc26 pm26 an26 cd26 ct26), sl26⟩) (c26 : PySem.W.codeIn K cd26 "_law_deep" = true) (k26 : PySem.W.keepIn K (.ref f26) = true)
    (a27 : PySem.W.nsIn K mainGlobals "_law_bent" = some (some (.ref f27))) (l27 : K.lookup f27 = some ⟨oc27, od27, .func (PySem.W.fnOf "_law_bent" "_law_bent" (defArgs s27) (defBody s27) (defScope s27) .none kV27 dc27 pm27 an27 cd27 ct27), sl27⟩) (c27 : PySem.W.codeIn K cd27 "_law_bent" = true) (k27 : PySem.W.keepIn K (.ref f27) = true)
    (a28 : PySem.W.nsIn K mainGlobals "_law_is_book" = some (some (.ref f28))) (l28 : K.lookup f28 = some ⟨oc28, od28, .func (PySem.W.fnOf "_law_is_book" "_law_is_book" (defArgs s28) (defBody s28) (defScope s28) .none kV28 dc28 pm28 an28 cd28 ct28), sl28⟩) (c28 : PySem.W.codeIn K cd28 "_law_is_book" = true) (k28 : PySem.W.keepIn K (.ref f28) = true)
    (a29 : PySem.W.nsIn K mainGlobals "law" = some (some (.ref f29))) (l29 : K.lookup f29 = some ⟨oc29, od29, .func (PySem.W.fnOf "law" "law" (defArgs s29) (defBody s29) (defScope s29) .none kV29 dc29 pm29 an29 cd29 ct29), sl29⟩) (c29 : PySem.W.codeIn K cd29 "law" = true) (k29 : PySem.W.keepIn K (.ref f29) = true)
    (q_FIGURES_trees : PySem.W.nsIn K mainGlobals "FIGURES_trees" = some (some (Value.str (Str.ofString "0123456789") tk_FIGURES_trees)))
    (q_GREAT : PySem.W.nsIn K mainGlobals "GREAT" = some (some (Value.str (Str.ofString "ABCDEFGHIJKLMNOPQRSTUVWXYZ") tk_GREAT)))
    (q_LONGEST_NAME : PySem.W.nsIn K mainGlobals "LONGEST_NAME" = some (some (Value.int 24 tk_LONGEST_NAME)))
    (q_SMALL_trees : PySem.W.nsIn K mainGlobals "SMALL_trees" = some (some (Value.str (Str.ofString "abcdefghijklmnopqrstuvwxyz") tk_SMALL_trees)))
    (q_LONGEST_SIGN : PySem.W.nsIn K mainGlobals "LONGEST_SIGN" = some (some (Value.int 6 tk_LONGEST_SIGN)))
    (q_MOST_KIDS : PySem.W.nsIn K mainGlobals "MOST_KIDS" = some (some (Value.int 8 tk_MOST_KIDS)))
    (q_FIGURES_books : PySem.W.nsIn K mainGlobals "FIGURES_books" = some (some (Value.str (Str.ofString "0123456789") tk_FIGURES_books)))
    (q_SMALL_books : PySem.W.nsIn K mainGlobals "SMALL_books" = some (some (Value.str (Str.ofString "abcdefghijklmnopqrstuvwxyz") tk_SMALL_books)))
    (q_LONGEST_KEY : PySem.W.nsIn K mainGlobals "LONGEST_KEY" = some (some (Value.int 24 tk_LONGEST_KEY)))
    (q_MOST_WITHIN : PySem.W.nsIn K mainGlobals "MOST_WITHIN" = some (some (Value.int 12 tk_MOST_WITHIN)))
    (q_MOST_PIECES : PySem.W.nsIn K mainGlobals "MOST_PIECES" = some (some (Value.int 60 tk_MOST_PIECES)))
    (q_MOST_TREES : PySem.W.nsIn K mainGlobals "MOST_TREES" = some (some (Value.int 400 tk_MOST_TREES)))
    (z_len : PySem.W.nsIn K mainGlobals "len" = some none)
    (z_isinstance : PySem.W.nsIn K mainGlobals "isinstance" = some none)
    (z_str : PySem.W.nsIn K mainGlobals "str" = some none)
    (z_bool : PySem.W.nsIn K mainGlobals "bool" = some none)
    (z_tuple : PySem.W.nsIn K mainGlobals "tuple" = some none)
    (z_enumerate : PySem.W.nsIn K mainGlobals "enumerate" = some none)
    (z_max : PySem.W.nsIn K mainGlobals "max" = some none)
    (z_set : PySem.W.nsIn K mainGlobals "set" = some none)
    (z_range : PySem.W.nsIn K mainGlobals "range" = some none)
    (z_all : PySem.W.nsIn K mainGlobals "all" = some none)
    (z_min : PySem.W.nsIn K mainGlobals "min" = some none)
    (z_list : PySem.W.nsIn K mainGlobals "list" = some none)
    (z_repr : PySem.W.nsIn K mainGlobals "repr" = some none)
    {fx_GraftError : Addr} (xa_GraftError : PySem.W.nsIn K mainGlobals "GraftError" = some (some (.ref fx_GraftError)))
    {fx_NoPlace : Addr} (xa_NoPlace : PySem.W.nsIn K mainGlobals "NoPlace" = some (some (.ref fx_NoPlace)))
    (gi : giB K fx_GraftError = true)
    {fi_NoPlace : Addr} {xod_NoPlace xan_NoPlace : Option Addr} {xsl_NoPlace : Array (Option Value)} {xoc_NoPlace xkV_NoPlace xdc_NoPlace xpm_NoPlace xcd_NoPlace xct_NoPlace : Value}
    (xi_NoPlace : PySem.W.findIn K (.ref fx_NoPlace) "__init__" = some (some (.ref fi_NoPlace))) (xl_NoPlace : K.lookup fi_NoPlace = some ⟨xoc_NoPlace, xod_NoPlace, .func (PySem.W.fnOf "__init__" "NoPlace.__init__" (defArgs si_NoPlace) (defBody si_NoPlace) (defScope si_NoPlace) .none xkV_NoPlace xdc_NoPlace xpm_NoPlace xan_NoPlace xcd_NoPlace xct_NoPlace), xsl_NoPlace⟩) (xc_NoPlace : PySem.W.codeIn K xcd_NoPlace "NoPlace.__init__" = true) (xk_NoPlace : PySem.W.keepIn K (.ref fi_NoPlace) = true)
    {xn_NoPlace xq_NoPlace : Str} {xN_NoPlace : Addr} {xbs_NoPlace xbm_NoPlace : List Value} {xsn_NoPlace : List Str} {xsu_NoPlace : List Value} {xab_NoPlace : Bool} {xco_NoPlace : Option Bool} {xdd_NoPlace : Option Addr} {x0_NoPlace x1_NoPlace x2_NoPlace x3_NoPlace x5_NoPlace : Option Value}
    (xe_NoPlace : K.lookup fx_NoPlace = some (excClassObj xn_NoPlace xq_NoPlace fx_NoPlace xN_NoPlace xbs_NoPlace xbm_NoPlace true xsn_NoPlace xsu_NoPlace xab_NoPlace xco_NoPlace xdd_NoPlace x0_NoPlace x1_NoPlace x2_NoPlace x3_NoPlace x5_NoPlace "ValueError.__new__")) (xr_NoPlace : PySem.HandSPX.refsVE xbm_NoPlace = true) (xo_NoPlace : oeB K fx_NoPlace fi_NoPlace ["place"] = true) (xv_NoPlace : cvK K "NoPlace" = .ref fx_NoPlace)
    : ∃ T : Top K mg, T.a29 = fa ∧ ∀ (s : Shared) (v : Value), BindsTo s T.d29 ⟨[v], []⟩ [("script", v)] := by
  have e := hfa.symm.trans (PySem.W.mg_of X G a29)
  have e' : f29 = fa := by cases e; rfl
  have F0 := fun_mk (st := s0) l0 c0 k0
  have b0 := F0.binds (ps := ["text"]) fun _ _ _ _ _ _ us hl => match us, hl with | [_], _ => rfl
  have F1 := fun_mk (st := s1) l1 c1 k1
  have b1 := F1.binds (ps := ["text"]) fun _ _ _ _ _ _ us hl => match us, hl with | [_], _ => rfl
  have F2 := fun_mk (st := s2) l2 c2 k2
  have b2 := F2.binds (ps := ["thing"]) fun _ _ _ _ _ _ us hl => match us, hl with | [_], _ => rfl
  have F3 := fun_mk (st := s3) l3 c3 k3
  have b3 := F3.binds (ps := ["thing"]) fun _ _ _ _ _ _ us hl => match us, hl with | [_], _ => rfl
  have F4 := fun_mk (st := s4) l4 c4 k4
  have b4 := F4.binds (ps := ["thing"]) fun _ _ _ _ _ _ us hl => match us, hl with | [_], _ => rfl
  have F5 := fun_mk (st := s5) l5 c5 k5
  have b5 := F5.binds (ps := ["tree"]) fun _ _ _ _ _ _ us hl => match us, hl with | [_], _ => rfl
  have F6 := fun_mk (st := s6) l6 c6 k6
  have b6 := F6.binds (ps := ["tree"]) fun _ _ _ _ _ _ us hl => match us, hl with | [_], _ => rfl
  have F7 := fun_mk (st := s7) l7 c7 k7
  have b7 := F7.binds (ps := ["tree", "place"]) fun _ _ _ _ _ _ us hl => match us, hl with | [_, _], _ => rfl
  have F8 := fun_mk (st := s8) l8 c8 k8
  have b8 := F8.binds (ps := ["tree"]) fun _ _ _ _ _ _ us hl => match us, hl with | [_], _ => rfl
  have F9 := fun_mk (st := s9) l9 c9 k9
  have b9 := F9.binds (ps := ["text"]) fun _ _ _ _ _ _ us hl => match us, hl with | [_], _ => rfl
  have F10 := fun_mk (st := s10) l10 c10 k10
  have b10 := F10.binds (ps := ["tree"]) fun _ _ _ _ _ _ us hl => match us, hl with | [_], _ => rfl
  have F11 := fun_mk (st := s11) l11 c11 k11
  have b11 := F11.binds (ps := ["tree"]) fun _ _ _ _ _ _ us hl => match us, hl with | [_], _ => rfl
  have F12 := fun_mk (st := s12) l12 c12 k12
  have b12 := F12.binds (ps := ["thing"]) fun _ _ _ _ _ _ us hl => match us, hl with | [_], _ => rfl
  have F13 := fun_mk (st := s13) l13 c13 k13
  have b13 := F13.binds (ps := ["thing"]) fun _ _ _ _ _ _ us hl => match us, hl with | [_], _ => rfl
  have F14 := fun_mk (st := s14) l14 c14 k14
  have b14 := F14.binds (ps := ["state"]) fun _ _ _ _ _ _ us hl => match us, hl with | [_], _ => rfl
  have F15 := fun_mk (st := s15) l15 c15 k15
  have b15 := F15.binds (ps := ["state", "left"]) fun _ _ _ _ _ _ us hl => match us, hl with | [_, _], _ => rfl
  have F16 := fun_mk (st := s16) l16 c16 k16
  have b16 := F16.binds (ps := ["tree", "foot", "cell"]) fun _ _ _ _ _ _ us hl => match us, hl with | [_, _, _], _ => rfl
  have F17 := fun_mk (st := s17) l17 c17 k17
  have b17 := F17.binds (ps := ["state", "left"]) fun _ _ _ _ _ _ us hl => match us, hl with | [_, _], _ => rfl
  have F18 := fun_mk (st := s18) l18 c18 k18
  have b18 := F18.binds (ps := ["state", "many", "left"]) fun _ _ _ _ _ _ us hl => match us, hl with | [_, _, _], _ => rfl
  have F19 := fun_mk (st := s19) l19 c19 k19
  have b19 := F19.binds (ps := ["text"]) fun _ _ _ _ _ _ us hl => match us, hl with | [_], _ => rfl
  have F20 := fun_mk (st := s20) l20 c20 k20
  have b20 := F20.binds (ps := ["text"]) fun _ _ _ _ _ _ us hl => match us, hl with | [_], _ => rfl
  have F21 := fun_mk (st := s21) l21 c21 k21
  have b21 := F21.binds (ps := ["thing"]) fun _ _ _ _ _ _ us hl => match us, hl with | [_], _ => rfl
  have F22 := fun_mk (st := s22) l22 c22 k22
  have b22 := F22.binds (ps := ["tree", "place"]) fun _ _ _ _ _ _ us hl => match us, hl with | [_, _], _ => rfl
  have F23 := fun_mk (st := s23) l23 c23 k23
  have b23 := F23.binds (ps := ["tree"]) fun _ _ _ _ _ _ us hl => match us, hl with | [_], _ => rfl
  have F24 := fun_mk (st := s24) l24 c24 k24
  have b24 := F24.binds (ps := ["text"]) fun _ _ _ _ _ _ us hl => match us, hl with | [_], _ => rfl
  have F25 := fun_mk (st := s25) l25 c25 k25
  have b25 := F25.binds (ps := ["many"]) fun _ _ _ _ _ _ us hl => match us, hl with | [_], _ => rfl
  have F26 := fun_mk (st := s26) l26 c26 k26
  have b26 := F26.binds (ps := ["many"]) fun _ _ _ _ _ _ us hl => match us, hl with | [_], _ => rfl
  have F27 := fun_mk (st := s27) l27 c27 k27
  have b27 := F27.binds (ps := ["book", "cell"]) fun _ _ _ _ _ _ us hl => match us, hl with | [_, _], _ => rfl
  have F28 := fun_mk (st := s28) l28 c28 k28
  have b28 := F28.binds (ps := ["thing"]) fun _ _ _ _ _ _ us hl => match us, hl with | [_], _ => rfl
  have F29 := fun_mk (st := s29) l29 c29 k29
  have b29 := F29.binds (ps := ["script"]) fun _ _ _ _ _ _ us hl => match us, hl with | [_], _ => rfl
  have xF_NoPlace := fun_mk (st := si_NoPlace) xl_NoPlace xc_NoPlace xk_NoPlace
  have xb_NoPlace := xF_NoPlace.binds (ps := ["self", "place"]) fun _ _ _ _ _ _ us hl => match us, hl with | [_, _], _ => rfl
  obtain ⟨xs1_NoPlace, xs2_NoPlace, xs3_NoPlace, xs4_NoPlace, _⟩ := oeB_ok xo_NoPlace
  exact ⟨{ a0 := f0, d0 := _, F0 := F0, b0 := b0, g0 := PySem.W.mg_of X G a0, a1 := f1, d1 := _, F1 := F1, b1 := b1, g1 := PySem.W.mg_of X G a1, a2 := f2, d2 := _, F2 := F2, b2 := b2, g2 := PySem.W.mg_of X G a2, a3 := f3, d3 := _, F3 := F3, b3 := b3, g3 := PySem.W.mg_of X G a3, a4 := f4, d4 := _, F4 := F4, b4 := b4, g4 := PySem.W.mg_of X G a4, a5 := f5, d5 := _, F5 := F5, b5 := b5, g5 := PySem.W.mg_of X G a5, a6 := f6, d6 := _, F6 := F6, b6 := b6, g6 := PySem.W.mg_of X G a6, a7 := f7, d7 := _, F7 := F7, b7 := b7, g7 := PySem.W.mg_of X G a7, a8 := f8, d8 := _, F8 := F8, b8 := b8, g8 := PySem.W.mg_of X G a8, a9 := f9, d9 := _, F9 := F9, b9 := b9, g9 := PySem.W.mg_of X G a9, a10 := f10, d10 := _, F10 := F10, b10 := b10, g10 := PySem.W.mg_of X G a10, a11 := f11, d11 := _, F11 := F11, b11 := b11, g11 := PySem.W.mg_of X G a11, a12 := f12, d12 := _, F12 := F12, b12 := b12, g12 := PySem.W.mg_of X G a12, a13 := f13, d13 := _, F13 := F13, b13 := b13, g13 := PySem.W.mg_of X G a13, a14 := f14, d14 := _, F14 := F14, b14 := b14, g14 := PySem.W.mg_of X G a14, a15 := f15, d15 := _, F15 := F15, b15 := b15, g15 := PySem.W.mg_of X G a15, a16 := f16, d16 := _, F16 := F16, b16 := b16, g16 := PySem.W.mg_of X G a16, a17 := f17, d17 := _, F17 := F17, b17 := b17, g17 := PySem.W.mg_of X G a17, a18 := f18, d18 := _, F18 := F18, b18 := b18, g18 := PySem.W.mg_of X G a18, a19 := f19, d19 := _, F19 := F19, b19 := b19, g19 := PySem.W.mg_of X G a19, a20 := f20, d20 := _, F20 := F20, b20 := b20, g20 := PySem.W.mg_of X G a20, a21 := f21, d21 := _, F21 := F21, b21 := b21, g21 := PySem.W.mg_of X G a21, a22 := f22, d22 := _, F22 := F22, b22 := b22, g22 := PySem.W.mg_of X G a22, a23 := f23, d23 := _, F23 := F23, b23 := b23, g23 := PySem.W.mg_of X G a23, a24 := f24, d24 := _, F24 := F24, b24 := b24, g24 := PySem.W.mg_of X G a24, a25 := f25, d25 := _, F25 := F25, b25 := b25, g25 := PySem.W.mg_of X G a25, a26 := f26, d26 := _, F26 := F26, b26 := b26, g26 := PySem.W.mg_of X G a26, a27 := f27, d27 := _, F27 := F27, b27 := b27, g27 := PySem.W.mg_of X G a27, a28 := f28, d28 := _, F28 := F28, b28 := b28, g28 := PySem.W.mg_of X G a28, a29 := f29, d29 := _, F29 := F29, b29 := b29, g29 := PySem.W.mg_of X G a29, c_FIGURES_trees := ⟨_, PySem.W.mg_of X G q_FIGURES_trees⟩, c_GREAT := ⟨_, PySem.W.mg_of X G q_GREAT⟩, c_LONGEST_NAME := ⟨_, PySem.W.mg_of X G q_LONGEST_NAME⟩, c_SMALL_trees := ⟨_, PySem.W.mg_of X G q_SMALL_trees⟩, c_LONGEST_SIGN := ⟨_, PySem.W.mg_of X G q_LONGEST_SIGN⟩, c_MOST_KIDS := ⟨_, PySem.W.mg_of X G q_MOST_KIDS⟩, c_FIGURES_books := ⟨_, PySem.W.mg_of X G q_FIGURES_books⟩, c_SMALL_books := ⟨_, PySem.W.mg_of X G q_SMALL_books⟩, c_LONGEST_KEY := ⟨_, PySem.W.mg_of X G q_LONGEST_KEY⟩, c_MOST_WITHIN := ⟨_, PySem.W.mg_of X G q_MOST_WITHIN⟩, c_MOST_PIECES := ⟨_, PySem.W.mg_of X G q_MOST_PIECES⟩, c_MOST_TREES := ⟨_, PySem.W.mg_of X G q_MOST_TREES⟩, m_len := PySem.W.mg_none_of X G z_len, m_isinstance := PySem.W.mg_none_of X G z_isinstance, m_str := PySem.W.mg_none_of X G z_str, m_bool := PySem.W.mg_none_of X G z_bool, m_tuple := PySem.W.mg_none_of X G z_tuple, m_enumerate := PySem.W.mg_none_of X G z_enumerate, m_max := PySem.W.mg_none_of X G z_max, m_set := PySem.W.mg_none_of X G z_set, m_range := PySem.W.mg_none_of X G z_range, m_all := PySem.W.mg_none_of X G z_all, m_min := PySem.W.mg_none_of X G z_min, m_list := PySem.W.mg_none_of X G z_list, m_repr := PySem.W.mg_none_of X G z_repr, xA_GraftError := fx_GraftError, xg_GraftError := PySem.W.mg_of X G xa_GraftError, xA_NoPlace := fx_NoPlace, xg_NoPlace := PySem.W.mg_of X G xa_NoPlace, gi := gi, xI_NoPlace := fi_NoPlace, xd_NoPlace := _, xF_NoPlace := xF_NoPlace, xb_NoPlace := xb_NoPlace, xo_NoPlace := xo_NoPlace, xv_NoPlace := xv_NoPlace, xT_NoPlace := ⟨⟨_, _, _, _, _, _, _, _, _, _, _, _, _, _, _, xe_NoPlace, xr_NoPlace⟩, xs1_NoPlace, xs2_NoPlace, xs3_NoPlace, xs4_NoPlace⟩ }, e', fun s v => .of_eq rfl⟩
end Wk06
open PySem PySem.W PyProof.Rows
set_option maxRecDepth 100000 in
set_option maxHeartbeats 0 in
theorem PySem.Challenge.cw_graftsay_k06_books_known_holds : PySem.Challenge.rw_graftsay_k06_books_known.Holds := by
  w_on; o_law; k_head; (case hw => w_witness2)
  k_fill
  refine GS.walkG_of (l := PySem.Challenge.rw_graftsay_k06_books_known) (n := 63) (k := 200) (x := "script") (sp := fun w => GS.spFv ⟨_, w⟩ 1 (Wk06.fs 200 29)) rfl (by decide) rfl ⟨rfl, by decide, by decide⟩ (fun w h Y => PySem.W.kIn_of Y) ?F (fun _ _ a ns hl _ hS => (Wk06.law_true ns hl).elim fun outs e => GS.law_sp hS e) (fun _ _ _ _ _ h => by obtain ⟨_, _, _, _, _, _, _, _, _, _, _, _, z⟩ := h; exact z)
  case F =>
    intro w mg fa h KX G hmg
    refine' (Wk06.top_mk KX G hmg ?a0 ?l0 ?c0 ?k0 ?a1 ?l1 ?c1 ?k1 ?a2 ?l2 ?c2 ?k2 ?a3 ?l3 ?c3 ?k3 ?a4 ?l4 ?c4 ?k4 ?a5 ?l5 ?c5 ?k5 ?a6 ?l6 ?c6 ?k6 ?a7 ?l7 ?c7 ?k7 ?a8 ?l8 ?c8 ?k8 ?a9 ?l9 ?c9 ?k9 ?a10 ?l10 ?c10 ?k10 ?a11 ?l11 ?c11 ?k11 ?a12 ?l12 ?c12 ?k12 ?a13 ?l13 ?c13 ?k13 ?a14 ?l14 ?c14 ?k14 ?a15 ?l15 ?c15 ?k15 ?a16 ?l16 ?c16 ?k16 ?a17 ?l17 ?c17 ?k17 ?a18 ?l18 ?c18 ?k18 ?a19 ?l19 ?c19 ?k19 ?a20 ?l20 ?c20 ?k20 ?a21 ?l21 ?c21 ?k21 ?a22 ?l22 ?c22 ?k22 ?a23 ?l23 ?c23 ?k23 ?a24 ?l24 ?c24 ?k24 ?a25 ?l25 ?c25 ?k25 ?a26 ?l26 ?c26 ?k26 ?a27 ?l27 ?c27 ?k27 ?a28 ?l28 ?c28 ?k28 ?a29 ?l29 ?c29 ?k29 ?q_FIGURES_trees ?q_GREAT ?q_LONGEST_NAME ?q_SMALL_trees ?q_LONGEST_SIGN ?q_MOST_KIDS ?q_FIGURES_books ?q_SMALL_books ?q_LONGEST_KEY ?q_MOST_WITHIN ?q_MOST_PIECES ?q_MOST_TREES ?z_len ?z_isinstance ?z_str ?z_bool ?z_tuple ?z_enumerate ?z_max ?z_set ?z_range ?z_all ?z_min ?z_list ?z_repr ?xa_GraftError ?xa_NoPlace ?gi ?xi_NoPlace ?xl_NoPlace ?xc_NoPlace ?xk_NoPlace ?xe_NoPlace ?xr_NoPlace ?xo_NoPlace ?xv_NoPlace).elim fun T R => ?fin
    (case a0 => k_is)
    (case l0 => k_is)
    (case c0 => k_is)
    (case k0 => k_is)
    (case a1 => k_is)
    (case l1 => k_is)
    (case c1 => k_is)
    (case k1 => k_is)
    (case a2 => k_is)
    (case l2 => k_is)
    (case c2 => k_is)
    (case k2 => k_is)
    (case a3 => k_is)
    (case l3 => k_is)
    (case c3 => k_is)
    (case k3 => k_is)
    (case a4 => k_is)
    (case l4 => k_is)
    (case c4 => k_is)
    (case k4 => k_is)
    (case a5 => k_is)
    (case l5 => k_is)
    (case c5 => k_is)
    (case k5 => k_is)
    (case a6 => k_is)
    (case l6 => k_is)
    (case c6 => k_is)
    (case k6 => k_is)
    (case a7 => k_is)
    (case l7 => k_is)
    (case c7 => k_is)
    (case k7 => k_is)
    (case a8 => k_is)
    (case l8 => k_is)
    (case c8 => k_is)
    (case k8 => k_is)
    (case a9 => k_is)
    (case l9 => k_is)
    (case c9 => k_is)
    (case k9 => k_is)
    (case a10 => k_is)
    (case l10 => k_is)
    (case c10 => k_is)
    (case k10 => k_is)
    (case a11 => k_is)
    (case l11 => k_is)
    (case c11 => k_is)
    (case k11 => k_is)
    (case a12 => k_is)
    (case l12 => k_is)
    (case c12 => k_is)
    (case k12 => k_is)
    (case a13 => k_is)
    (case l13 => k_is)
    (case c13 => k_is)
    (case k13 => k_is)
    (case a14 => k_is)
    (case l14 => k_is)
    (case c14 => k_is)
    (case k14 => k_is)
    (case a15 => k_is)
    (case l15 => k_is)
    (case c15 => k_is)
    (case k15 => k_is)
    (case a16 => k_is)
    (case l16 => k_is)
    (case c16 => k_is)
    (case k16 => k_is)
    (case a17 => k_is)
    (case l17 => k_is)
    (case c17 => k_is)
    (case k17 => k_is)
    (case a18 => k_is)
    (case l18 => k_is)
    (case c18 => k_is)
    (case k18 => k_is)
    (case a19 => k_is)
    (case l19 => k_is)
    (case c19 => k_is)
    (case k19 => k_is)
    (case a20 => k_is)
    (case l20 => k_is)
    (case c20 => k_is)
    (case k20 => k_is)
    (case a21 => k_is)
    (case l21 => k_is)
    (case c21 => k_is)
    (case k21 => k_is)
    (case a22 => k_is)
    (case l22 => k_is)
    (case c22 => k_is)
    (case k22 => k_is)
    (case a23 => k_is)
    (case l23 => k_is)
    (case c23 => k_is)
    (case k23 => k_is)
    (case a24 => k_is)
    (case l24 => k_is)
    (case c24 => k_is)
    (case k24 => k_is)
    (case a25 => k_is)
    (case l25 => k_is)
    (case c25 => k_is)
    (case k25 => k_is)
    (case a26 => k_is)
    (case l26 => k_is)
    (case c26 => k_is)
    (case k26 => k_is)
    (case a27 => k_is)
    (case l27 => k_is)
    (case c27 => k_is)
    (case k27 => k_is)
    (case a28 => k_is)
    (case l28 => k_is)
    (case c28 => k_is)
    (case k28 => k_is)
    (case a29 => k_is)
    (case l29 => k_is)
    (case c29 => k_is)
    (case k29 => k_is)
    (case q_FIGURES_trees => k_is)
    (case q_GREAT => k_is)
    (case q_LONGEST_NAME => k_is)
    (case q_SMALL_trees => k_is)
    (case q_LONGEST_SIGN => k_is)
    (case q_MOST_KIDS => k_is)
    (case q_FIGURES_books => k_is)
    (case q_SMALL_books => k_is)
    (case q_LONGEST_KEY => k_is)
    (case q_MOST_WITHIN => k_is)
    (case q_MOST_PIECES => k_is)
    (case q_MOST_TREES => k_is)
    (case z_len => k_is)
    (case z_isinstance => k_is)
    (case z_str => k_is)
    (case z_bool => k_is)
    (case z_tuple => k_is)
    (case z_enumerate => k_is)
    (case z_max => k_is)
    (case z_set => k_is)
    (case z_range => k_is)
    (case z_all => k_is)
    (case z_min => k_is)
    (case z_list => k_is)
    (case z_repr => k_is)
    (case xa_GraftError => k_is)
    (case xa_NoPlace => k_is)
    (case gi => kernel_rfl)
    (case xi_NoPlace => k_is)
    (case xl_NoPlace => k_is)
    (case xc_NoPlace => k_is)
    (case xk_NoPlace => k_is)
    (case xe_NoPlace => k_is)
    (case xr_NoPlace => kernel_rfl)
    (case xo_NoPlace => kernel_rfl)
    (case xv_NoPlace => kernel_rfl)
    case fin =>
      obtain ⟨e, hb⟩ := R
      subst e
      exact ⟨T.d29, hb, fun base _ _ => (Wk06.lv (P := PySem.Challenge.rw_graftsay_k06_books_known.prog) (K := ⟨_, w⟩) (base := base) T 200).h29⟩
